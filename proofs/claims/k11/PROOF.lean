import PyProof.Rows.All
import Wide.All
import OpenK.AllK
import Wide.FinOn
import HandS.ForMost
import KE.KeyNested
import HandS.TupSets
import HandS.Set
import HandS.Exc
import HandS.Lambda
import HandS.Flow
import HandS.Style
import HandS.NoneIn
import HandS.Zip
import HandS.Deep
import HandS.TupAny
import HandS.TupMul
import HandS.Replace
import HandS.IsInst
import HandS.Codes
import PyProof.ReprRoads
import HandS.More
import KE.SortData
import HandS.Conv
import HandS.SetTxt0
import HandS.SetFor
import HandS.SetBool
import PyProof.SumAny
import PyProof.ListStr
import HandS.Star
import HandS.ExcOwn
import HandS.WordsExc
import HandS.CallSlots
import HandS.ExcInit
import HandS.ExcField
import HandS.ExcIs
import KE.KExcIs
import HandS.Property
import HandS.Iter
import HandS.ListItems
import PyProof.DictUpdate
import PyProof.FactsLen
import PyProof.Methods
import HandS.DeepEq
import HandS.DictEq
import KE.KDictZip
import HandS.DictComp
import HandS.Small
import HandS.Defaults
import HandS.TupLe
import KE.KDictDisplayH
import KE.GoesEnum
import HandS.HotCalls
import HandS.TryOnly
import HandS.EndTab
import HandS.Finally
import KE.KDictList
import PyProof.AutoSeq1
import PySem.Challenge.RW_scriptpicks_k11_words_known
set_option Elab.async false
set_option linter.all false
set_option maxRecDepth 100000
set_option maxHeartbeats 4000000
/-! Data layer, part 0: sets of tuples of any data that can be a key: a member more. -/
namespace DL
open PySem L2 PyProof.Rows
/-- the tuple at a is the key k -/
def IsN (h : Heap) (k : NestedKey) (a : Addr) : Prop := NestedIs h k (.ref a) ∧ k.depth ≤ 8
theorem IsN.knd {P : Program} {w : World} {h : Heap} {k : NestedKey} {a : Addr} (z : IsN h k a) : (nestedKind P w).is h k a := z
theorem IsN.up {h h' : Heap} {k : NestedKey} {a : Addr} (z : IsN h k a) (kp : ∀ b o, h.get? b = some o → h'.get? b = some o) : IsN h' k a :=
  ⟨NestedIs.at (fun b o _ _ e _ => kp b o e) k _ z.1, z.2⟩
theorem IsN.aside {h h' : Heap} {k : NestedKey} {a c : Addr} {o : Obj} {es : Array (Int × Value)} {ep : Nat} {t : SetTable} (z : IsN h k a) (oc : h.get? c = some o) (oe : o.data = .set es ep t) (sb : Heap.SameBut c h h') : IsN h' k a :=
  ⟨NestedIs.at (fun b ob vs n e1 e2 => (sb.2 b fun e => by
    rw [e, oc] at e1
    cases e1
    rw [oe] at e2
    cases e2).trans e1) k _ z.1, z.2⟩
section
variable {P : Program} {w : World} {A : Around} {E : Value → Shared → Prop} {s : Shared}
/-- of no class statement, n levels down -/
def PlainAt (P : Program) (w : World) (n : Nat) (s : Shared) (v : Value) : Prop := ∀ (A : Around) (E : Value → Shared → Prop) (Q : Bool → Shared → Prop), Q false s → wpAny (model P w) A (ofAClassStatement n v) Q E s
/-- whether the hash goes by value: one of both -/
def ByVal (P : Program) (w : World) (n : Nat) (s : Shared) (v : Value) : Prop := ∀ (A : Around) (E : Value → Shared → Prop) (Q : Bool → Shared → Prop), (∀ b, Q b s) → wpAny (model P w) A (hashByValue n v) Q E s
theorem PlainAt.of {n : Nat} {v : Value} (e : ofAClassStatement n v = pure false) : PlainAt P w n s v := fun A E Q q => by
  rw [e]; exact wpAny_pure q
theorem ByVal.of {n : Nat} {v : Value} {b : Bool} (e : hashByValue n v = pure b) : ByVal P w n s v := fun A E Q q => by
  rw [e]; exact wpAny_pure (q b)
theorem PlainAt.tup {n m : Nat} {a : Addr} {o : Obj} {vs : Array Value} (oa : s.heap.get? a = some o) (oc : o.cls = .type "tuple") (od : o.data = .seq vs m) (all : ∀ v ∈ vs.toList, PlainAt P w n s v) : PlainAt P w (n + 1) s (.ref a) := fun A E Q q => by
  have ty : s.TypeIs (.ref a) "tuple" := ⟨o, oa, oc⟩
  unfold ofAClassStatement
  refine wpAny_bind (wpAny_typeOf ty ?_)
  dsimp only
  have e : (("tuple" : String) == "tuple") = true := by decide
  simp only [e, if_true, Bool.not_true, Bool.false_eq_true, if_false]
  show wpAny _ _ (seqItems? (.ref a) >>= _) _ _ s
  refine wpAny_bind (wpAny_seqItems oa od (wpAny_bind ?_))
  show wpAny _ _ (forIn vs _ _) _ _ s
  rw [← Array.forIn_toList]
  refine wpAny_forIn_list _ (fun rest r s' => (r.1 = none ∧ s' = s) ∧ ∀ v ∈ rest, PlainAt P w n s v) _ ?_ ?_ _ _ ⟨⟨rfl, rfl⟩, all⟩
  · rintro v rest r s' ⟨⟨_, rfl⟩, al⟩
    refine wpAny_bind (al v List.mem_cons_self _ _ _ ?_)
    simp only [Bool.false_eq_true, if_false]
    exact wpAny_pure ⟨⟨rfl, rfl⟩, fun u hu => al u (List.mem_cons_of_mem _ hu)⟩
  · rintro ⟨r1, r2⟩ s' ⟨⟨hr, rfl⟩, _⟩
    simp only at hr
    subst hr
    exact wpAny_pure q
theorem ByVal.tup {n m : Nat} {a : Addr} {o : Obj} {vs : Array Value} (oa : s.heap.get? a = some o) (oc : o.cls = .type "tuple") (od : o.data = .seq vs m) (all : ∀ v ∈ vs.toList, ByVal P w n s v) : ByVal P w (n + 1) s (.ref a) := fun A E Q q => by
  have ty : s.TypeIs (.ref a) "tuple" := ⟨o, oa, oc⟩
  unfold hashByValue
  refine wpAny_bind (wpAny_specialOf ty F.slot_tuple_hash.lookup ?_)
  show wpAny _ _ (seqItems? (.ref a) >>= _) _ _ s
  refine wpAny_bind (wpAny_seqItems oa od (wpAny_bind ?_))
  show wpAny _ _ (forIn vs _ _) _ _ s
  rw [← Array.forIn_toList]
  refine wpAny_forIn_list _ (fun rest r s' => ((r.1 = none ∨ r.1 = some false) ∧ s' = s) ∧ ∀ v ∈ rest, ByVal P w n s v) _ ?_ ?_ _ _ ⟨⟨.inl rfl, rfl⟩, all⟩
  · rintro v rest r s' ⟨⟨_, rfl⟩, al⟩
    refine wpAny_bind (al v List.mem_cons_self _ _ _ fun b => ?_)
    cases b with
    | true =>
      simp only [Bool.not_true, Bool.false_eq_true, if_false]
      exact wpAny_pure ⟨⟨.inl rfl, rfl⟩, fun u hu => al u (List.mem_cons_of_mem _ hu)⟩
    | false =>
      simp only [Bool.not_false, if_true]
      exact wpAny_pure (wpAny_pure (q _))
  · rintro ⟨r1, r2⟩ s' ⟨⟨hr, rfl⟩, _⟩
    simp only at hr
    rcases hr with rfl | rfl
    · exact wpAny_pure (q _)
    · exact wpAny_pure (q _)
mutual
theorem plain_key : ∀ (k : NestedKey) (v : Value) (n : Nat), NestedIs s.heap k v → k.depth ≤ n → PlainAt P w n s v
  | .none, _, n, z, _ => by cases z; exact .of (by cases n <;> rfl)
  | .num i, _, n, z, _ => by cases z <;> exact .of (by cases n <;> rfl)
  | .text y, _, n, z, _ => by cases z; exact .of (by cases n <;> rfl)
  | .tup ks, _, n, z, hn => by
    cases z with
    | tup z1 z2 z3 z4 =>
      simp only [NestedKey.depth] at hn
      cases n with
      | zero => omega
      | succ n => exact .tup z1 z2 z3 (plain_keys ks _ n z4 (by omega))
theorem plain_keys : ∀ (ks : List NestedKey) (vs : List Value) (n : Nat), NestedAll s.heap ks vs → NestedKey.depthAll ks ≤ n → ∀ v ∈ vs, PlainAt P w n s v
  | [], _, n, z, _, v, hv => by cases z; cases hv
  | k :: ks, _, n, z, hn, v, hv => by
    cases z with
    | cons z1 z2 =>
      simp only [NestedKey.depthAll] at hn
      rcases List.mem_cons.mp hv with e | hv
      · rw [e]; exact plain_key k _ n z1 (by omega)
      · exact plain_keys ks _ n z2 (by omega) v hv
end
mutual
theorem byVal_key : ∀ (k : NestedKey) (v : Value) (n : Nat), NestedIs s.heap k v → k.depth ≤ n → ByVal P w n s v
  | .none, _, n, z, _ => by cases z; exact .of (b := true) (by cases n <;> rfl)
  | .num i, _, n, z, _ => by cases z <;> exact .of (b := true) (by cases n <;> rfl)
  | .text y, _, n, z, _ => by cases z; exact .of (b := false) (by cases n <;> rfl)
  | .tup ks, _, n, z, hn => by
    cases z with
    | tup z1 z2 z3 z4 =>
      simp only [NestedKey.depth] at hn
      cases n with
      | zero => omega
      | succ n => exact .tup z1 z2 z3 (byVal_keys ks _ n z4 (by omega))
theorem byVal_keys : ∀ (ks : List NestedKey) (vs : List Value) (n : Nat), NestedAll s.heap ks vs → NestedKey.depthAll ks ≤ n → ∀ v ∈ vs, ByVal P w n s v
  | [], _, n, z, _, v, hv => by cases z; cases hv
  | k :: ks, _, n, z, hn, v, hv => by
    cases z with
    | cons z1 z2 =>
      simp only [NestedKey.depthAll] at hn
      rcases List.mem_cons.mp hv with e | hv
      · rw [e]; exact byVal_key k _ n z1 (by omega)
      · exact byVal_keys ks _ n z2 (by omega) v hv
end
/-- a search among keys shows nothing -/
theorem seenN {k : NestedKey} {b : Addr} {Q : Bool → Shared → Prop} (hk : IsN s.heap k b) {ys : List Value} (hy : ∀ y ∈ ys, ∃ k' c, y = Value.ref c ∧ IsN s.heap k' c) (h : Q false s) :
    wpAny (model P w) A (searchCouldBeSeen (.ref b) ys) Q E s := by
  unfold searchCouldBeSeen
  refine wpAny_bind ?_
  refine wpAny_forIn_list _ (fun rest r s' => (r.1 = none ∧ s' = s) ∧ ∀ y ∈ rest, ∃ k' c, y = Value.ref c ∧ IsN s.heap k' c) _ ?_ ?_ _ _ ⟨⟨rfl, rfl⟩, hy⟩
  · rintro v rest r s' ⟨⟨_, rfl⟩, al⟩
    obtain ⟨k', c, rfl, hc⟩ := al v List.mem_cons_self
    have al' : ∀ y ∈ rest, ∃ k' c, y = Value.ref c ∧ IsN s'.heap k' c := fun u hu => al u (List.mem_cons_of_mem _ hu)
    dsimp only
    by_cases hv : (b == c || (carriedByValue (.ref b) && carriedByValue (.ref c))) = true
    · exact wp_if_pos hv (wpAny_pure ⟨⟨rfl, rfl⟩, al'⟩)
    · refine wp_if_neg hv (wpAny_bind (quiet_key k _ 8 _ hk.1 hk.2 _ _ _ ?_))
      simp only [Bool.not_true, Bool.false_eq_true, if_false]
      refine wpAny_bind (quiet_key k' _ 8 _ hc.1 hc.2 _ _ _ ?_)
      simp only [Bool.not_true, Bool.false_eq_true, if_false]
      refine wpAny_bind (plain_key k _ 8 hk.1 hk.2 _ _ _ ?_)
      simp only [Bool.false_eq_true, if_false]
      refine wpAny_bind (plain_key k' _ 8 hc.1 hc.2 _ _ _ ?_)
      simp only [Bool.false_eq_true, if_false]
      exact wpAny_pure ⟨⟨rfl, rfl⟩, al'⟩
  · rintro ⟨r1, r2⟩ s' ⟨⟨hr, rfl⟩, _⟩
    simp only at hr
    subst hr
    exact wpAny_pure h
end
abbrev KA : Type := Addr × NestedKey
def hN (w : World) (L : List KA) : List Int := L.map fun p => p.2.hash w
def rwN (w : World) (L : List KA) : List (Int × Value) := L.map fun p => (p.2.hash w, Value.ref p.1)
/-- the set at a has the keys L, at their addresses -/
structure SetN (w : World) (h : Heap) (a : Addr) (L : List KA) (es : Array (Int × Value)) (ep : Nat) (t : SetTable) : Prop where
  ob : ∃ o, h.get? a = some o ∧ o.ExactSet ∧ o.data = .set es ep t
  rows : es.toList = rwN w L
  tab : TabOk t (hN w L)
  nd : (L.map (·.2)).Nodup
  tup : ∀ p ∈ L, IsN h p.2 p.1
  led : w.params.followText "set-order" = true ∨ t.led = true
  room : L.length * 5 < t.mask * 3
  few : L.length < 64
/-- what the set has of the first i -/
structure GotN (ks : List KA) (i : Nat) (L : List KA) : Prop where
  sub : ∀ p ∈ L, p ∈ ks.take i
  all : ∀ p ∈ ks.take i, p.2 ∈ L.map (·.2)
  len : L.length ≤ i
/-- the same but for the members' own objects -/
def SetN0 (w : World) (h : Heap) (a : Addr) (L : List KA) : Prop := ∃ es ep t, (∃ o, h.get? a = some o ∧ o.ExactSet ∧ o.data = .set es ep t) ∧ es.toList = rwN w L ∧ TabOk t (hN w L) ∧ (L.map (·.2)).Nodup ∧ (w.params.followText "set-order" = true ∨ t.led = true) ∧ L.length * 5 < t.mask * 3 ∧ L.length < 64
theorem SetN.t0 {w : World} {h : Heap} {a : Addr} {L : List KA} {es : Array (Int × Value)} {ep : Nat} {t : SetTable} (R : SetN w h a L es ep t) : SetN0 w h a L := ⟨es, ep, t, R.ob, R.rows, R.tab, R.nd, R.led, R.room, R.few⟩
theorem SetN0.full {w : World} {h : Heap} {a : Addr} {L : List KA} (R : SetN0 w h a L) (tup : ∀ p ∈ L, IsN h p.2 p.1) : ∃ es ep t, SetN w h a L es ep t := by
  obtain ⟨es, ep, t, r1, r2, r3, r4, r5, r6, r7⟩ := R
  exact ⟨es, ep, t, r1, r2, r3, r4, tup, r5, r6, r7⟩
section
variable {P : Program} {w : World} {A : Around} {E : Value → Shared → Prop} {s : Shared} {a : Addr} {L : List KA} {es : Array (Int × Value)} {ep : Nat} {t : SetTable}
theorem rwN_len (w : World) (L : List KA) : (rwN w L).length = L.length := List.length_map _
theorem hN_len (w : World) (L : List KA) : (hN w L).length = L.length := List.length_map _
theorem size_rw (hr : es.toList = rwN w L) : es.size = L.length := by
  have z := congrArg List.length hr
  rw [rwN_len] at z
  exact z
theorem fits_rw (hr : es.toList = rwN w L) (T : TabOk t (hN w L)) (r : L.length ≤ t.mask) : t.fits es.size = true := by
  have z1 := T.sz
  have z2 := size_rw hr
  rw [hN_len] at z1
  unfold SetTable.fits SetTable.fill
  rw [T.dm, Bool.and_eq_true, beq_iff_eq, decide_eq_true_eq]
  exact ⟨by rw [z1, z2], by
    show t.place.size + 0 ≤ t.mask
    omega⟩
theorem SetN.fits {h : Heap} (R : SetN w h a L es ep t) : t.fits es.size = true := fits_rw R.rows R.tab (by have := R.room; omega)
theorem entry_rw (hr : es.toList = rwN w L) {i : Nat} {p : KA} (z : L[i]? = some p) : es[i]? = some (p.2.hash w, Value.ref p.1) := by
  rw [← Array.getElem?_toList, hr]
  unfold rwN
  rw [List.getElem?_map, z]
  rfl
theorem SetN.gw {h : Heap} (R : SetN w h a L es ep t) : ¬ t.gaveWay = true := by
  unfold SetTable.gaveWay
  rw [mask_odd R.tab.mok]
  decide
theorem nth_dm (m : Nat) : ∀ (n : Nat) (p : SetTable.Probe), p.dummy = none → (nth m p n).dummy = none
  | 0, _, z => z
  | n + 1, p, z => nth_dm m n (adv m p) (by
    unfold adv
    split <;> exact z)
/-- the way of a hash through the table -/
def wayP (t : SetTable) (z : Int) : SetTable.Probe := runAt t.mask (SetTable.bits z % (t.mask + 1)) (SetTable.bits z)
def stN (es : Array (Int × Value)) (i : Nat) : Int := (es[i]?.map (·.1)).getD 0
theorem findN (R : SetN w s.heap a L es ep t) {x : Addr} {k : NestedKey} (hx : IsN s.heap k x) (hu : A.units + 8 < cLine) {K : Nat} (hKf : K < 10 * SetTable.turns t.mask)
    (hK : way t.mask (k.hash w) K ∉ t.place.toList) (hKb : ∀ c, c < K → way t.mask (k.hash w) c ∈ t.place.toList) {Q : SetFound → Shared → Prop}
    (qin : k ∈ L.map (·.2) → Q (.there none) s) (qout : k ∉ L.map (·.2) → Q (.free (way t.mask (k.hash w) K) false) s) :
    ∀ (f c : Nat) (stand : Option SetTable.Probe), stand.getD (t.probeStart (k.hash w)) = nth t.mask (wayP t (k.hash w)) c → c ≤ K → K - c < f →
      (∀ (i : Nat) p, L[i]? = some p → p.2 = k → ∃ c', c ≤ c' ∧ c' < K ∧ t.place.toList[i]? = some (way t.mask (k.hash w) c')) →
      wpAny (model P w) A (setSearchFrom a (.ref x) (k.hash w) true f stand) Q E s
  | 0, c, stand, _, _, hf, _ => absurd hf (Nat.not_lt_zero _)
  | f + 1, c, stand, hst, hc, hf, hre => by
    obtain ⟨o, oa, _, od⟩ := R.ob
    rw [setSearchFrom_succ]
    refine wpAny_bind (wpAny_setState_of oa od (SetN.fits R) ?_)
    dsimp only
    refine wp_if_neg (SetN.gw R) ?_
    have sh : ∀ q, nth t.mask (nth t.mask (wayP t (k.hash w)) c) q = nth t.mask (wayP t (k.hash w)) (c + q) := fun q => (nth_add t.mask c _ q).symm
    have shj : ∀ q, (nth t.mask (nth t.mask (wayP t (k.hash w)) c) q).j = way t.mask (k.hash w) (c + q) := fun q => congrArg SetTable.Probe.j (sh q)
    have eK : c + (K - c) = K := by omega
    have spec := go_spec t R.tab.ris R.tab.dm (stN es) (k.hash w) (10 * SetTable.turns t.mask) (K - c) _ (nth_dm t.mask c (wayP t (k.hash w)) rfl) (by omega)
      (fun q hq => by rw [shj]; exact hKb (c + q) (by omega)) (by rw [shj, eK]; exact hK)
    have stAt : ∀ (i : Nat) p, L[i]? = some p → stN es i = p.2.hash w := fun i p hp => by
      unfold stN
      rw [entry_rw R.rows hp]
      rfl
    rcases spec with ⟨q, i, hq, hi, hh, hno, hpr⟩ | ⟨hno, hpr⟩
    · have pr : t.probe (fun i => (es[i]?.map (·.1)).getD 0) (k.hash w) (stand.getD (t.probeStart (k.hash w))) = some (.candidate (way t.mask (k.hash w) (c + q)) i (nth t.mask (wayP t (k.hash w)) (c + (q + 1)))) := by
        rw [hst, ← shj, ← sh]
        exact hpr
      rw [pr]
      dsimp only
      rw [shj] at hi
      have il : i < L.length := by
        have z1 : i < t.place.toList.length := (List.getElem?_eq_some_iff.mp hi).1
        have z2 := R.tab.sz
        rw [hN_len] at z2
        rw [Array.length_toList, z2] at z1
        exact z1
      have hp : L[i]? = some L[i] := List.getElem?_eq_getElem il
      generalize L[i] = p at hp
      have pm : p ∈ L := List.mem_of_getElem? hp
      have pt := R.tup p pm
      have rest : wpAny (model P w) A (searchRest a (.ref x) (k.hash w) true f es t (way t.mask (k.hash w) (c + q)) i (nth t.mask (wayP t (k.hash w)) (c + (q + 1)))) Q E s := by
        unfold searchRest
        rw [entry_rw R.rows hp]
        dsimp only
        refine wpAny_bind (wpAny_holding ((nestedKind P w).eqBool hu pt.knd hx.knd ?_))
        refine wpAny_bind (wpAny_setState_of oa od (SetN.fits R) ?_)
        dsimp only
        by_cases kk : p.2 = k
        · exact wp_if_pos (by simp [kk]) (wpAny_pure (qin (List.mem_map.mpr ⟨p, pm, kk⟩)))
        · refine wp_if_neg (by simp [kk]) ?_
          rw [sameMem]
          dsimp only
          have sl : t.slot (way t.mask (k.hash w) (c + q)) = .live i := slot_live R.tab.ris hi
          simp only [if_true, sl, entry_rw R.rows hp]
          refine wpAny_bind (wpAny_isSame_ref_self (wpAny_bind (wpAny_pure ?_)))
          simp only [if_true]
          refine wp_if_neg (by simp [kk]) ?_
          refine findN R hx hu hKf hK hKb qin qout f (c + (q + 1)) _ rfl (by omega) (by omega) fun i0 p0 h0 k0 => ?_
          obtain ⟨c', a1, a2, a3⟩ := hre i0 p0 h0 k0
          refine ⟨c', ?_, a2, a3⟩
          rcases Nat.lt_trichotomy c' (c + q) with y | y | y
          · exact absurd ((stAt i0 p0 h0).trans (congrArg (NestedKey.hash w) k0)) (hno (c' - c) i0 (by omega) (by rw [shj, show c + (c' - c) = c' by omega]; exact a3))
          · rw [y] at a3
            have z := slot_live R.tab.ris a3
            rw [sl] at z
            injection z with z
            rw [← z, hp] at h0
            exact absurd ((congrArg Prod.snd (Option.some.inj h0)).trans k0) kk
          · omega
      by_cases hl : t.led = true
      · exact wp_if_neg (by simp [hl]) rest
      · refine wp_if_pos (by simp [hl]) (wpAny_bind (seenN hx (fun y hy => ?_) (wp_if_neg (by decide) rest)))
        obtain ⟨e, he, ee⟩ := List.mem_map.mp hy
        have he1 : e ∈ es ∧ e.1 = k.hash w := by simpa using he
        have he2 : e ∈ es.toList := by simpa using he1.1
        rw [R.rows] at he2
        obtain ⟨p2, hp2, e2⟩ := List.mem_map.mp he2
        exact ⟨p2.2, p2.1, by rw [← ee, ← e2], R.tup p2 hp2⟩
    · have pr : t.probe (fun i => (es[i]?.map (·.1)).getD 0) (k.hash w) (stand.getD (t.probeStart (k.hash w))) = some (.empty (way t.mask (k.hash w) K) none) := by
        have e2 : way t.mask (k.hash w) K = (nth t.mask (nth t.mask (wayP t (k.hash w)) c) (K - c)).j := by rw [shj, eK]
        rw [hst, e2]
        exact hpr
      rw [pr]
      dsimp only
      refine wpAny_pure (qout fun hm => ?_)
      obtain ⟨p0, h0, k0⟩ := List.mem_map.mp hm
      obtain ⟨i0, hi0, e0⟩ := List.getElem_of_mem h0
      have h00 : L[i0]? = some p0 := by rw [List.getElem?_eq_getElem hi0, e0]
      obtain ⟨c', a1, a2, a3⟩ := hre i0 p0 h00 k0
      exact hno (c' - c) i0 (by omega) (by rw [shj, show c + (c' - c) = c' by omega]; exact a3) ((stAt i0 p0 h00).trans (congrArg (NestedKey.hash w) k0))
theorem findN_at (R : SetN w s.heap a L es ep t) {x : Addr} {k : NestedKey} (hx : IsN s.heap k x) (hu : A.units + 8 < cLine) {Q : SetFound → Shared → Prop}
    (qin : k ∈ L.map (·.2) → Q (.there none) s)
    (qout : ∀ K, k ∉ L.map (·.2) → way t.mask (k.hash w) K ∉ t.place.toList → (∀ c, c < K → way t.mask (k.hash w) c ∈ t.place.toList) → Q (.free (way t.mask (k.hash w) K) false) s) :
    wpAny (model P w) A (setSearch a (.ref x) (k.hash w) true) Q E s := by
  have rm := R.room
  obtain ⟨K, hKf, hK, hKb⟩ := R.tab.first (by rw [hN_len]; omega) (k.hash w)
  have big : K < 100000 := by
    have : 10 * SetTable.turns t.mask ≤ 1420 := by
      unfold SetTable.turns
      rcases R.tab.mok with e | e | e <;> omega
    omega
  unfold setSearch
  refine findN R hx hu hKf hK hKb qin (fun hn => qout K hn hK hKb) 100000 0 none rfl (Nat.zero_le _) (by omega) fun i p hp hk => ?_
  have hi : (hN w L)[i]? = some (k.hash w) := by
    unfold hN
    rw [List.getElem?_map, hp, ← hk]
    rfl
  have il : i < t.place.toList.length := by
    have z1 : i < L.length := (List.getElem?_eq_some_iff.mp hp).1
    have z2 := R.tab.sz
    rw [hN_len] at z2
    rw [Array.length_toList]
    omega
  have hj := List.getElem?_eq_getElem il
  obtain ⟨c, hc, e⟩ := R.tab.before hK hi hj
  exact ⟨c, Nat.zero_le _, hc, by rw [hj, e]⟩
theorem rwN_put (L : List KA) (p : Nat) (x : Addr) (k : NestedKey) : rwN w (L.take p ++ (x, k) :: L.drop p) = (rwN w L).take p ++ (k.hash w, Value.ref x) :: (rwN w L).drop p := by
  unfold rwN
  rw [List.map_append, List.map_cons, List.map_take, List.map_drop]
theorem hN_put (L : List KA) (p : Nat) (x : Addr) (k : NestedKey) : hN w (L.take p ++ (x, k) :: L.drop p) = (hN w L).take p ++ k.hash w :: (hN w L).drop p := by
  unfold hN
  rw [List.map_append, List.map_cons, List.map_take, List.map_drop]
theorem pick_all {α : Type} : ∀ (l : List α), (List.range l.length).filterMap (fun i => l[i]?) = l := fun l => by
  have key : ∀ n, n ≤ l.length → (List.range n).filterMap (fun i => l[i]?) = l.take n := fun n => by
    induction n with
    | zero => exact fun _ => rfl
    | succ n ih =>
      intro hn
      have lt : n < l.length := hn
      rw [List.range_succ, List.filterMap_append, ih (Nat.le_of_lt lt), List.take_succ, List.getElem?_eq_getElem lt, List.filterMap_cons_some (List.getElem?_eq_getElem lt)]
      rfl
  rw [key l.length (Nat.le_refl _), List.take_length]
theorem rwN_order (hr : es.toList = rwN w L) (order : Array Nat) (hp : order.toList.Perm (List.range L.length)) :
    ∃ L2, (order.filterMap (es[·]?)).toList = rwN w L2 ∧ L2.Perm L ∧ hN w L2 = order.toList.map fun i => (es.map (·.1)).getD i 0 := by
  have key : ∀ l : List Nat, (∀ i ∈ l, i < L.length) → l.filterMap (fun i => es[i]?) = rwN w (l.filterMap (fun i => L[i]?)) ∧ hN w (l.filterMap (fun i => L[i]?)) = l.map fun i => (es.map (·.1)).getD i 0 := by
    intro l
    induction l with
    | nil => exact fun _ => ⟨rfl, rfl⟩
    | cons i l ih =>
      intro hl
      have hi := hl i List.mem_cons_self
      obtain ⟨e1, e2⟩ := ih fun j hj => hl j (List.mem_cons_of_mem _ hj)
      have eL := List.getElem?_eq_getElem hi
      have eE := entry_rw hr eL
      rw [List.filterMap_cons_some eE, List.filterMap_cons_some eL, e1]
      refine ⟨rfl, ?_⟩
      have e4 : (es.map (·.1)).getD i 0 = (L[i]).2.hash w := by
        have e5 : (es.map (·.1))[i]? = some ((L[i]).2.hash w) := by
          rw [Array.getElem?_map, eE]
          rfl
        simp [Array.getD_eq_getD_getElem?, e5]
      rw [List.map_cons, e4, ← e2]
      rfl
  obtain ⟨e1, e2⟩ := key order.toList fun i hi => List.mem_range.mp (hp.mem_iff.mp hi)
  refine ⟨_, by first | (rw [Array.toList_filterMap]; exact e1) | simpa using e1, ?_, e2⟩
  have z := hp.filterMap fun i => L[i]?
  rw [pick_all L] at z
  exact z
theorem relayN {o : Obj} (oa : s.heap.get? a = some o) (ex : o.ExactSet) (od : o.data = .set es ep t) (rows : es.toList = rwN w L) (sz : t.place.size = es.size) (dm : t.dummies = #[]) (fl : es.size ≤ t.mask)
    (nd : (L.map (·.2)).Nodup) (tup : ∀ p ∈ L, IsN s.heap p.2 p.1) (ld : w.params.followText "set-order" = true ∨ t.led = true) (few : L.length < 64) {wanted M : Nat}
    (hw : SetTable.sizeAbove wanted - 1 = M) (hM : MaskOk M) (hw2 : SetTable.sizeAbove wanted ≤ 128) (hn : L.length * 5 < M * 3) {Q : Unit → Shared → Prop}
    (hQ : ∀ h' L' es' ep' t', Heap.SameBut a s.heap h' → SetN w h' a L' es' ep' t' → L'.Perm L → Q () { s with heap := h' }) : wpAny (model P w) A (setRelay a wanted) Q E s := by
  have sl := size_rw rows
  have fits : t.fits es.size = true := by
    unfold SetTable.fits SetTable.fill
    rw [dm, Bool.and_eq_true, beq_iff_eq, decide_eq_true_eq]
    exact ⟨sz, by
      show t.place.size + 0 ≤ t.mask
      omega⟩
  obtain ⟨t', order, e, hp, T, em, el, ep', ed⟩ := relaid_ok t (hs := es.map (·.1)) (wanted := wanted) hw hM (by rw [Array.size_map, sl]; omega)
  rw [Array.size_map, sl] at hp
  obtain ⟨L2, r1, r2, r3⟩ := rwN_order rows order hp
  rw [← r3] at T
  have s2 : (order.filterMap (es[·]?)).size = es.size := by rw [size_rw r1, r2.length_eq, sl]
  rw [setRelay_eq]
  refine wpAny_bind (wpAny_setState_of oa od fits ?_)
  dsimp only
  refine wp_if_neg (by rw [sizeLine_eq]; omega) ?_
  rw [e]
  dsimp only
  refine wpAny_bind (wp_if_neg (by rw [s2]; simp) ?_)
  try refine wpAny_bind (wpAny_pure ?_)
  refine wpAny_pure ?_
  dsimp only
  refine wpAny_storeSet_of oa od ?_ (by rw [s2, sl, sizeLine_eq]; omega)
  have sb : Heap.SameBut a s.heap (s.heap.update a (Obj.putSet (order.filterMap (es[·]?)) t')) := Heap.SameBut.update ..
  refine hQ _ L2 (order.filterMap (es[·]?)) (ep + 1) t' sb ⟨⟨_, store_at oa od, ⟨ex.1, ex.2.1, ex.2.2⟩, rfl⟩, r1, T, (r2.map (·.2)).nodup_iff.mpr nd, fun p pm => IsN.aside (tup p (r2.mem_iff.mp pm)) oa od sb, by rw [el]; exact ld, ?_, by rw [r2.length_eq]; exact few⟩ r2
  rw [r2.length_eq, em]
  exact hn
theorem put_permN (L : List KA) (p : Nat) (x : KA) : (L.take p ++ x :: L.drop p).Perm (x :: L) := by
  have z : (L.take p ++ x :: L.drop p).Perm (x :: (L.take p ++ L.drop p)) := List.perm_middle
  rwa [List.take_append_drop] at z
/-- the rest of an adding, once it is known whether the hash goes by value -/
theorem addN_end {o : Obj} {x : Addr} {k : NestedKey} {es1 : Array (Int × Value)} {t1 : SetTable} {L1 : List KA} (oa : s.heap.get? a = some o) (ex : o.ExactSet) (od : o.data = .set es ep t) (few : L.length + 1 < 64) (room : L.length * 5 < t.mask * 3)
    (mok : MaskOk t.mask) (tup : ∀ p ∈ L, IsN s.heap p.2 p.1) (hx : IsN s.heap k x) (nd : (L.map (·.2)).Nodup) (hm : k ∉ L.map (·.2)) (pm : L1.Perm ((x, k) :: L)) (rows : es1.toList = rwN w L1) (T : TabOk t1 (hN w L1)) (m1 : t1.mask = t.mask) (fl : t1.fill = L.length + 1)
    (ld : w.params.followText "set-order" = true ∨ t1.led = true) {Q : Bool → Shared → Prop}
    (hQ : ∀ h' L' es' ep' t', Heap.SameBut a s.heap h' → SetN w h' a L' es' ep' t' → L'.Perm ((x, k) :: L) → Q true { s with heap := h' }) :
    wpAny (model P w) A (do
      storeSet a es1 t1
      if (!false && t1.tooFull) = true then setRelay a (SetTable.grown (L.length + 1))
      return true) Q E s := by
  have len1 : L1.length = L.length + 1 := pm.length_eq
  have es1z : es1.size = L.length + 1 := (size_rw rows).trans len1
  refine wpAny_bind (wpAny_storeSet_of oa od ?_ (by rw [es1z, sizeLine_eq]; omega))
  have sb : Heap.SameBut a s.heap (s.heap.update a (Obj.putSet es1 t1)) := Heap.SameBut.update ..
  have oa1 := store_at (es' := es1) (t' := t1) oa od
  generalize s.heap.update a (Obj.putSet es1 t1) = h1 at sb oa1 ⊢
  have nd1 : (L1.map (·.2)).Nodup := (pm.map (·.2)).nodup_iff.mpr (by
    rw [List.map_cons]
    exact List.nodup_cons.mpr ⟨hm, nd⟩)
  have tup1 : ∀ p ∈ L1, IsN h1 p.2 p.1 := fun p hp => by
    rcases List.mem_cons.mp (pm.mem_iff.mp hp) with e | hp
    · rw [e]; exact hx.aside oa od sb
    · exact (tup p hp).aside oa od sb
  by_cases hf : t1.tooFull = true
  · have full : (L.length + 1) * 5 ≥ t1.mask * 3 := by
      have z := hf
      unfold SetTable.tooFull at z
      rw [decide_eq_true_eq, fl] at z
      exact z
    have sz1 : t1.place.size = es1.size := by
      have z := T.sz
      rw [hN_len, len1] at z
      rw [z, es1z]
    have two : (t.mask = 7 ∧ L.length = 4) ∨ (t.mask = 31 ∧ L.length = 18) := by
      rw [m1] at full
      rcases mok with e | e | e <;> rw [e] at full room
      · left; exact ⟨e, by omega⟩
      · right; exact ⟨e, by omega⟩
      · omega
    have go : ∀ M, SetTable.sizeAbove (SetTable.grown (L.length + 1)) - 1 = M → MaskOk M → SetTable.sizeAbove (SetTable.grown (L.length + 1)) ≤ 128 → (L.length + 1) * 5 < M * 3 →
        wpAny (model P w) A (setRelay a (SetTable.grown (L.length + 1))) (fun _ s' => wpAny (model P w) A (pure true) Q E s') E { s with heap := h1 } := fun M y1 y2 y3 y4 => by
      refine relayN (s := { s with heap := h1 }) oa1 ⟨ex.1, ex.2.1, ex.2.2⟩ rfl rows sz1 T.dm (by rw [es1z, m1]; rcases two with ⟨e, e2⟩ | ⟨e, e2⟩ <;> omega) nd1 tup1 ld (by rw [len1]; exact few) y1 y2 y3 (by rw [len1]; exact y4) ?_
      exact fun h2 L2 es2 ep2 t2 sb2 R2 pm2 => wpAny_pure (hQ h2 L2 es2 ep2 t2 (sb.trans sb2) R2 (pm2.trans pm))
    first
      | (refine wpAny_bind (wp_if_pos (by simp [hf]) ?_))
      | (refine wp_if_pos (by simp [hf]) (wpAny_bind ?_))
    rcases two with ⟨_, e2⟩ | ⟨_, e2⟩
    · exact go 31 (by rw [e2, size_20]) (.inr (.inl rfl)) (by rw [e2, size_20]; decide) (by omega)
    · exact go 127 (by rw [e2, size_76]) (.inr (.inr rfl)) (by rw [e2, size_76]; decide) (by omega)
  · first
      | (refine wpAny_bind (wp_if_neg (by simp [hf]) (wpAny_pure ?_)))
      | refine wp_if_neg (by simp [hf]) ?_
    refine wpAny_pure (hQ h1 L1 es1 (ep + 1) t1 sb ⟨⟨_, oa1, ⟨ex.1, ex.2.1, ex.2.2⟩, rfl⟩, rows, T, nd1, tup1, ld, ?_, by rw [len1]; exact few⟩ pm)
    have z := hf
    unfold SetTable.tooFull at z
    rw [decide_eq_true_eq, fl] at z
    rw [len1]
    omega
theorem setN_add (R : SetN w s.heap a L es ep t) {x : Addr} {k : NestedKey} (hx : IsN s.heap k x) (hu : A.units + 8 < cLine) (few : L.length + 1 < 64) {Q : Bool → Shared → Prop}
    (hQ : ∀ b h' L' es' ep' t', Heap.SameBut a s.heap h' → SetN w h' a L' es' ep' t' → (k ∈ L.map (·.2) → L' = L) → (k ∉ L.map (·.2) → L'.Perm ((x, k) :: L)) → Q b { s with heap := h' }) :
    wpAny (model P w) A (setAddHashed a (.ref x) (k.hash w)) Q E s := by
  obtain ⟨o, oa, ex, od⟩ := R.ob
  have sl := size_rw R.rows
  unfold setAddHashed
  refine wpAny_holding ?_
  rw [show (100000 : Nat) = 99999 + 1 from rfl, setAddHashedIn_succ]
  refine wpAny_bind (wpAny_setState_of oa od (SetN.fits R) ?_)
  dsimp only
  refine wp_if_neg (by simp [byScan, Value.scannable]) ?_
  refine wpAny_bind (findN_at R hx hu (fun hm => ?_) fun K hm hK hb => ?_)
  · dsimp only
    exact wpAny_pure (hQ false s.heap L es ep t (Heap.SameBut.refl a s.heap) R (fun _ => rfl) fun z => absurd hm z)
  · dsimp only
    refine wpAny_bind (wpAny_setState_of oa od (SetN.fits R) ?_)
    dsimp only
    obtain ⟨q1, q2, q3, q4, q5, q6, q7, q8, q9⟩ := R.tab.put hK hb
    rw [hN_len] at q9 q2
    generalize t.put (way t.mask (k.hash w) K) = pt at q1 q3 q4 q5 q6 q7 q8 q9 ⊢
    obtain ⟨t1, p⟩ := pt
    dsimp only at q1 q3 q4 q5 q6 q7 q8 q9 ⊢
    subst q1
    generalize SetTable.below t.place (way t.mask (k.hash w) K) = p at q2 q3 ⊢
    have pm := put_permN L p (x, k)
    rw [← hN_put L p x k] at q3
    have rows : (SetTable.insertAt es p (k.hash w, Value.ref x)).toList = rwN w (L.take p ++ (x, k) :: L.drop p) := by
      rw [SetTable.toList_insertAt, rwN_put, R.rows]
    rw [sl]
    have led1 : w.params.followText "set-order" = true ∨ t1.led = true := by rw [q5]; exact R.led
    have fin : ∀ b : Bool, wpAny (model P w) A (do
        storeSet a (SetTable.insertAt es p (k.hash w, Value.ref x)) (if b = true then t1 else { t1 with plain := false })
        if (!false && (if b = true then t1 else { t1 with plain := false }).tooFull) = true then setRelay a (SetTable.grown (L.length + 1))
        return true) Q E s := fun b => by
      cases b with
      | true => exact addN_end oa ex od few R.room R.tab.mok R.tup hx R.nd hm pm rows q3 q4 q9 led1 fun h' L' es' ep' t' sb R' pm' => hQ true h' L' es' ep' t' sb R' (fun z => absurd z hm) fun _ => pm'
      | false => exact addN_end (t1 := { t1 with plain := false }) oa ex od few R.room R.tab.mok R.tup hx R.nd hm pm rows ⟨q3.ris, q3.dm, q3.sz, q3.mok, q3.bd, q3.reach⟩ q4 q9 led1 fun h' L' es' ep' t' sb R' pm' => hQ true h' L' es' ep' t' sb R' (fun z => absurd z hm) fun _ => pm'
    by_cases hpl : t1.plain = true
    · first
        | (refine wpAny_bind (wp_if_pos hpl ?_); exact byVal_key k _ 8 hx.1 hx.2 _ _ _ fin)
        | exact wp_if_pos hpl (wpAny_bind (byVal_key k _ 8 hx.1 hx.2 _ _ _ fin))
    · first
        | (refine wpAny_bind (wp_if_neg hpl ?_); exact wpAny_pure (fin true))
        | exact wp_if_neg hpl (fin true)
end
end DL

/-! Data layer, part 1: plain data, reading of data in a heap, environments, the relation of a state to an environment. -/
namespace DL
open PySem L2

inductive D where
  | non
  | bl (b : Bool)
  | int (i : Int)
  | str (x : Str)
  | lst (xs : List D)
  | tup (xs : List D)
  | dic (kvs : List (Key × D))
  | scr (ns : List Int)
  /-- an instance of a class of the program's own that nobody changes any more: the class's name, its attributes -/
  | obj (c : Str) (fs : List (Str × D))

/-- the class of that name of the module -/
def ClsAt (K : PySem.W.Frag) (c : Str) (C : Addr) : Prop := PySem.W.nsIn K mainGlobals c = some (some (.ref C))

mutual
inductive RD (K : PySem.W.Frag) (F : Hp) : V → D → Prop
  | non : RD K F .non .non
  | bl (b : Bool) : RD K F (.bl b) (.bl b)
  | int (i : Int) : RD K F (.int i) (.int i)
  | str (x : Str) : RD K F (.str x) (.str x)
  | lst {a : Addr} {xs : List V} {ds : List D} : F a = some (.lst xs) → RDs K F xs ds → RD K F (.ref a) (.lst ds)
  | scr {a : Addr} (ns : List Int) : SqL K F a (ns.map V.int) → RD K F (.ref a) (.scr ns)
  | tup {a : Addr} {xs : List V} {ds : List D} : SqT K F a xs → RDs K F xs ds → RD K F (.ref a) (.tup ds)
  | dic {a : Addr} {o : Obj} {kvs : List (Key × V)} {ds : List (Key × D)} : F a = some (.frz o (.dK kvs)) → RDk K F kvs ds → RD K F (.ref a) (.dic ds)
  | obj {a C dx : Addr} {c : Str} {vs : List (Str × V)} {ds : List (Str × D)} : ClsAt K c C → F a = some (.ins C dx vs) → RDf K F vs ds → RD K F (.ref a) (.obj c ds)
inductive RDs (K : PySem.W.Frag) (F : Hp) : List V → List D → Prop
  | nil : RDs K F [] []
  | cons {v : V} {vs : List V} {d : D} {ds : List D} : RD K F v d → RDs K F vs ds → RDs K F (v :: vs) (d :: ds)
inductive RDk (K : PySem.W.Frag) (F : Hp) : List (Key × V) → List (Key × D) → Prop
  | nil : RDk K F [] []
  | cons {k : Key} {v : V} {vs : List (Key × V)} {d : D} {ds : List (Key × D)} : RD K F v d → RDk K F vs ds → RDk K F ((k, v) :: vs) ((k, d) :: ds)
inductive RDf (K : PySem.W.Frag) (F : Hp) : List (Str × V) → List (Str × D) → Prop
  | nil : RDf K F [] []
  | cons {k : Str} {v : V} {vs : List (Str × V)} {d : D} {ds : List (Str × D)} : RD K F v d → RDf K F vs ds → RDf K F ((k, v) :: vs) ((k, d) :: ds)
end

theorem same_rd {F F' : Hp} {a : Addr} {u : HO} (e : Same F F') (h : Rd F a u) : Rd F' a u := by
  rcases h with h | ⟨o, h⟩
  · exact .inl (e _ _ h)
  · exact .inr ⟨o, e _ _ h⟩
theorem same_sqT {K : PySem.W.Frag} {F F' : Hp} {a : Addr} {xs : List V} (e : Same F F') (h : SqT K F a xs) : SqT K F' a xs := by
  rcases h with h | h
  · exact .inl (same_rd e h)
  · exact .inr h

mutual
theorem RD.mono {K : PySem.W.Frag} {F F' : Hp} (e : Same F F') : ∀ (d : D) {v : V}, RD K F v d → RD K F' v d
  | .non, _, h => by cases h; exact .non
  | .bl b, _, h => by cases h; exact .bl b
  | .int i, _, h => by cases h; exact .int i
  | .str x, _, h => by cases h; exact .str x
  | .lst ds, _, h => by
    cases h with
    | lst h1 h2 => exact .lst (e _ _ h1) (RDs.mono e ds h2)
  | .tup ds, _, h => by
    cases h with
    | tup h1 h2 => exact .tup (same_sqT e h1) (RDs.mono e ds h2)
  | .dic ds, _, h => by
    cases h with
    | dic h1 h2 => exact .dic (e _ _ h1) (RDk.mono e ds h2)
  | .scr ns, _, h => by
    cases h with
    | scr _ h1 => exact .scr ns (e.seq h1)
  | .obj c ds, _, h => by
    cases h with
    | obj h1 h2 h3 => exact .obj h1 (e _ _ h2) (RDf.mono e ds h3)
theorem RDs.mono {K : PySem.W.Frag} {F F' : Hp} (e : Same F F') : ∀ (ds : List D) {vs : List V}, RDs K F vs ds → RDs K F' vs ds
  | [], _, h => by cases h; exact .nil
  | d :: ds, _, h => by
    cases h with
    | cons h1 h2 => exact .cons (RD.mono e d h1) (RDs.mono e ds h2)
theorem RDk.mono {K : PySem.W.Frag} {F F' : Hp} (e : Same F F') : ∀ (ds : List (Key × D)) {vs : List (Key × V)}, RDk K F vs ds → RDk K F' vs ds
  | [], _, h => by cases h; exact .nil
  | (k, d) :: ds, _, h => by
    cases h with
    | cons h1 h2 => exact .cons (RD.mono e d h1) (RDk.mono e ds h2)
theorem RDf.mono {K : PySem.W.Frag} {F F' : Hp} (e : Same F F') : ∀ (ds : List (Str × D)) {vs : List (Str × V)}, RDf K F vs ds → RDf K F' vs ds
  | [], _, h => by cases h; exact .nil
  | (k, d) :: ds, _, h => by
    cases h with
    | cons h1 h2 => exact .cons (RD.mono e d h1) (RDf.mono e ds h2)
end

section
variable {K : PySem.W.Frag} {F : Hp}
theorem RDs.length : ∀ {vs : List V} {ds : List D}, RDs K F vs ds → vs.length = ds.length
  | _, [], h => by cases h; rfl
  | _, d :: ds, h => by
    cases h with
    | cons h1 h2 => rw [List.length_cons, List.length_cons, RDs.length h2]
theorem RDs.get : ∀ {vs : List V} {ds : List D} {i : Nat} {d : D}, RDs K F vs ds → ds[i]? = some d → ∃ v, vs[i]? = some v ∧ RD K F v d
  | _, [], _, _, h, e => by simp at e
  | _, x :: ds, 0, d, h, e => by
    cases h with
    | cons h1 h2 =>
      have q : x = d := Option.some.inj e
      subst q
      exact ⟨_, rfl, h1⟩
  | _, x :: ds, i + 1, d, h, e => by
    cases h with
    | cons h1 h2 => exact RDs.get (i := i) h2 e
theorem RDs.app : ∀ {vs ws : List V} {ds es : List D}, RDs K F vs ds → RDs K F ws es → RDs K F (vs ++ ws) (ds ++ es)
  | _, _, [], _, h, h' => by cases h; exact h'
  | _, _, d :: ds, _, h, h' => by
    cases h with
    | cons h1 h2 => exact .cons h1 (RDs.app h2 h')
theorem RDs.tk : ∀ {vs : List V} {ds : List D} (n : Nat), RDs K F vs ds → RDs K F (vs.take n) (ds.take n)
  | _, [], n, h => by cases h; simp; exact .nil
  | _, d :: ds, 0, h => by simp; exact .nil
  | _, d :: ds, n + 1, h => by
    cases h with
    | cons h1 h2 => exact .cons h1 (RDs.tk n h2)
theorem RDs.dp : ∀ {vs : List V} {ds : List D} (n : Nat), RDs K F vs ds → RDs K F (vs.drop n) (ds.drop n)
  | _, [], n, h => by cases h; simp; exact .nil
  | _, d :: ds, 0, h => h
  | _, d :: ds, n + 1, h => by
    cases h with
    | cons h1 h2 => exact RDs.dp n h2
theorem RDs.upd {x : V} {e : D} (r : RD K F x e) : ∀ {vs : List V} {ds : List D} (n : Nat), RDs K F vs ds → RDs K F (vs.set n x) (ds.set n e)
  | _, [], n, h => by cases h; exact .nil
  | _, d :: ds, 0, h => by
    cases h with
    | cons h1 h2 => exact .cons r h2
  | _, d :: ds, n + 1, h => by
    cases h with
    | cons h1 h2 => exact .cons h1 (RDs.upd r n h2)
theorem RDs.ints : ∀ (ns : List Int), RDs K F (ns.map V.int) (ns.map D.int)
  | [] => .nil
  | n :: ns => .cons (.int n) (RDs.ints ns)
end

/-! ### environments -/
/-- an error: its class's name, its attributes -/
structure Exn where
  c : Str
  fs : List (Str × D)
/-- further things that a name may own: a set of tuples, a dict with texts as keys -/
inductive Tg where
  | st (ds : List D)
  | dk (kvs : List (Key × D))
/-- what a slot holds: shared data that nobody changes any more, or a list that this name owns -/
inductive OV where
  | sh (d : D)
  | ow (xs : List D)
  /-- a dict with tuples as keys that this name owns -/
  | od (kvs : List (D × D))
  /-- an instance that this name owns (self in __init__) -/
  | oi (c : Str) (fs : List (Str × D))
  | th (t : Tg)
  /-- the error of an except clause -/
  | exc (x : Exn)
def OV.own : OV → Bool
  | .ow _ => true
  | .od _ => true
  | .oi _ _ => true
  | .th _ => true
  | .exc _ => false
  | .sh _ => false
/-- frozen: as plain data (a dict of the third kind is never frozen) -/
def OV.d : OV → D
  | .sh d => d
  | .ow xs => .lst xs
  | .od _ => .non
  | .oi _ _ => .non
  | .th _ => .non
  | .exc _ => .non
abbrev En := List (Option OV)
inductive Rs (α : Type) where
  | ok (a : α) (r : En)
  | bad
  | ex (x : Exn) (r : En)
@[inline] def Rs.bind {α β : Type} (x : Rs α) (k : α → En → Rs β) : Rs β :=
  match x with
  | .ok a r => k a r
  | .bad => .bad
  | .ex x r => .ex x r
def Rs.map {α β : Type} (f : α → β) (x : Rs α) : Rs β :=
  match x with
  | .ok a r => .ok (f a) r
  | .bad => .bad
  | .ex x r => .ex x r
/-- an error in it is as bad as anything -/
def Rs.noE {α : Type} (x : Rs α) : Rs α :=
  match x with
  | .ok a r => .ok a r
  | _ => .bad
def ofO {α : Type} (o : Option α) (r : En) : Rs α :=
  match o with
  | some a => .ok a r
  | none => .bad

/-- at a def's entry: the frozen heap, the heap, the slots of the parameters by reference and their addresses; X: further objects that stay as they are -/
structure G where
  F0 : Hp
  H0 : Hp
  B : List (Nat × Addr)
  X : List (Addr × HO)
  w : World
  /-- the wish about errors, the error that is handled -/
  W : Option WX
  xc : Option (Addr × Value × Option Addr)
  /-- the tables of code objects, with the name of all that they hold -/
  T : List (Addr × Str)

/-! data as a dict key -/
mutual
def D.nk : D → Option NestedKey
  | .non => some .none
  | .bl b => some (.num (if b = true then 1 else 0))
  | .int i => some (.num i)
  | .str x => some (.text x)
  | .tup ds => (nks ds).map NestedKey.tup
  | _ => none
def nks : List D → Option (List NestedKey)
  | [] => some []
  | d :: ds => d.nk.bind fun k => (nks ds).map fun ks => k :: ks
end
/-- the dict's object at a: its entries (key, the key's address, the value) -/
def OdO (w : World) (a : Addr) (xs : List (NestedKey × Addr × V)) : HO := .ext fun h => (a == sysModules) = false ∧ (xs.map (·.1)).Nodup ∧ ∃ us ep, Vals (xs.map (·.2.2)) us ∧ h.get? a = some { cls := .type "dict", data := .dict (List.zipWith (fun (x : NestedKey × Addr × V) (u : Value) => (⟨x.1.hash w, .ref x.2.1, u⟩ : DictEntry)) xs us).toArray ep }
inductive RDm (K : PySem.W.Frag) (F : Hp) : List (NestedKey × Addr × V) → List (D × D) → Prop
  | nil : RDm K F [] []
  | cons {k : NestedKey} {a : Addr} {v : V} {xs : List (NestedKey × Addr × V)} {kd d : D} {ds : List (D × D)} : RD K F (.ref a) kd → kd.nk = some k ∧ k.depth ≤ 8 → RD K F v d → RDm K F xs ds → RDm K F ((k, a, v) :: xs) ((kd, d) :: ds)
theorem RDm.mono {K : PySem.W.Frag} {F F' : Hp} (e : Same F F') : ∀ (ds : List (D × D)) {xs : List (NestedKey × Addr × V)}, RDm K F xs ds → RDm K F' xs ds
  | [], _, h => by cases h; exact .nil
  | (kd, d) :: ds, _, h => by
    cases h with
    | cons h1 h2 h3 h4 => exact .cons (RD.mono e kd h1) h2 (RD.mono e d h3) (RDm.mono e ds h4)
/-- the instance's object: class, dict, attributes -/
def OiO (x : Addr × Addr × List (Str × V)) : HO := .ins x.1 x.2.1 x.2.2
def RDi (K : PySem.W.Frag) (c : Str) (F : Hp) (x : Addr × Addr × List (Str × V)) (fs : List (Str × D)) : Prop := ClsAt K c x.1 ∧ RDf K F x.2.2 fs
theorem RDi.mono {K : PySem.W.Frag} {c : Str} {F F' : Hp} (e : Same F F') (fs : List (Str × D)) {x : Addr × Addr × List (Str × V)} (h : RDi K c F x fs) : RDi K c F' x fs := ⟨h.1, RDf.mono e fs h.2⟩
/-- the members of a set, each at its address -/
inductive RDn (K : PySem.W.Frag) (F : Hp) : List KA → List D → Prop
  | nil : RDn K F [] []
  | cons {a : Addr} {k : NestedKey} {d : D} {L : List KA} {ds : List D} : RD K F (.ref a) d → d.nk = some k ∧ k.depth ≤ 8 → RDn K F L ds → RDn K F ((a, k) :: L) (d :: ds)
theorem RDn.mono {K : PySem.W.Frag} {F F' : Hp} (e : Same F F') : ∀ (ds : List D) {L : List KA}, RDn K F L ds → RDn K F' L ds
  | [], _, h => by cases h; exact .nil
  | d :: ds, _, h => by
    cases h with
    | cons h1 h2 h3 => exact .cons (RD.mono e d h1) h2 (RDn.mono e ds h3)
/-- the set's object: what was put in, in its order -/
def StO (w : World) (a : Addr) (ks : List KA) : HO := .ext fun h => ∃ L, SetN0 w h a L ∧ GotN ks ks.length L
def RT (K : PySem.W.Frag) (w : World) (F : Hp) (a : Addr) (o : HO) : Tg → Prop
  | .st ds => ∃ L, o = StO w a L ∧ RDn K F L ds
  | .dk kvs => ∃ vs, o = .dK vs ∧ RDk K F vs kvs
theorem RT.mono {K : PySem.W.Frag} {w : World} {a : Addr} {o : HO} {F F' : Hp} (e : Same F F') : ∀ (t : Tg), RT K w F a o t → RT K w F' a o t
  | .st ds, ⟨L, h1, h2⟩ => ⟨L, h1, RDn.mono e ds h2⟩
  | .dk kvs, ⟨vs, h1, h2⟩ => ⟨vs, h1, RDk.mono e kvs h2⟩
/-- an error of that class and with that dict is read as x -/
def RX (K : PySem.W.Frag) (F : Hp) (cls : Value) (d : Option Addr) (x : Exn) : Prop := ∃ C, cls = .ref C ∧ ClsAt K x.c C ∧ ((d = none ∧ x.fs = []) ∨ ∃ dd vs, d = some dd ∧ F dd = some (.xd vs) ∧ RDf K F vs x.fs)
theorem RX.mono {K : PySem.W.Frag} {F F' : Hp} {cls : Value} {d : Option Addr} {x : Exn} (e : Same F F') (h : RX K F cls d x) : RX K F' cls d x := by
  obtain ⟨C, h1, h2, h3 | ⟨dd, vs, h3, h4, h5⟩⟩ := h
  · exact ⟨C, h1, h2, .inl h3⟩
  · exact ⟨C, h1, h2, .inr ⟨dd, vs, h3, e _ _ h4, RDf.mono e _ h5⟩⟩
def RE (K : PySem.W.Frag) (xc : Option (Addr × Value × Option Addr)) (F : Hp) (v : V) (x : Exn) : Prop := ∃ a cls d, v = .ref a ∧ xc = some (a, cls, d) ∧ RX K F cls d x
theorem RE.mono {K : PySem.W.Frag} {xc : Option (Addr × Value × Option Addr)} {F F' : Hp} {v : V} {x : Exn} (e : Same F F') (h : RE K xc F v x) : RE K xc F' v x := by
  obtain ⟨a, cls, d, h1, h2, h3⟩ := h
  exact ⟨a, cls, d, h1, h2, h3.mono e⟩
def RO (K : PySem.W.Frag) (w : World) (xc : Option (Addr × Value × Option Addr)) (F H : Hp) (v : V) : OV → Prop
  | .sh d => RD K F v d
  | .ow xs => ∃ a vs, v = .ref a ∧ F a = none ∧ H a = some (.lst vs) ∧ RDs K F vs xs
  | .od kvs => ∃ a xs, v = .ref a ∧ F a = none ∧ H a = some (OdO w a xs) ∧ RDm K F xs kvs
  | .oi c fs => ∃ a xs, v = .ref a ∧ F a = none ∧ H a = some (OiO xs) ∧ RDi K c F xs fs
  | .th t => ∃ a o, v = .ref a ∧ F a = none ∧ H a = some o ∧ RT K w F a o t
  | .exc x => RE K xc F v x

/-- the table at P holds code objects of the name q alone -/
def TabF (F H : Hp) (P : Addr) (q : Str) : Prop := ∃ ps : Array Value, H P = some (.tbl ps) ∧ TriplesOk ps.toList ∧ ∀ (pos : Pos) (cv : Value), codeAmong pos ps.toList = some cv → ∃ c, cv = .ref c ∧ F c = some (LamX.CodeO c q)
def Tbs (g : G) (F H : Hp) : Prop := ∀ p ∈ g.T, F p.1 = none ∧ g.H0 p.1 ≠ none ∧ (∀ q ∈ g.B, q.2 ≠ p.1) ∧ TabF F H p.1 p.2
section
variable {g : G} {F F' H H' : Hp} {a : Addr} {o : HO}
theorem Tbs.go (h : Tbs g F H) (sF : Same F F') (nF : ∀ p ∈ g.T, F' p.1 = none) (sH : ∀ p ∈ g.T, ∀ ps, H p.1 = some (.tbl ps) → H' p.1 = some (.tbl ps)) : Tbs g F' H' := fun p hp => by
  obtain ⟨_, h2, h3, ps, h4, h5, h6⟩ := h p hp
  refine ⟨nF p hp, h2, h3, ps, sH p hp ps h4, h5, fun pos cv e => ?_⟩
  obtain ⟨c, e1, e2⟩ := h6 pos cv e
  exact ⟨c, e1, sF _ _ e2⟩
theorem Tbs.tn (h : Tbs g F H) (h0 : g.H0 a = none) : ∀ p ∈ g.T, p.1 ≠ a := fun p hp z => (h p hp).2.1 (by rw [z]; exact h0)
theorem Tbs.tno (h : Tbs g F H) {i : Nat} (ao : g.H0 a = none ∨ (i, a) ∈ g.B) : ∀ p ∈ g.T, p.1 ≠ a := fun p hp z => by
  rcases ao with q | q
  · exact h.tn q p hp z
  · exact (h p hp).2.2.1 _ q z.symm
theorem Tbs.fresh (h : Tbs g F H) (hp : H a = none) : ∀ p ∈ g.T, p.1 ≠ a := fun p hm z => by
  obtain ⟨_, _, _, ps, h4, _⟩ := h p hm
  rw [z, hp] at h4
  cases h4
theorem Tbs.at (h : Tbs g F H) (n : ∀ p ∈ g.T, p.1 ≠ a) : Tbs g F (L2.upd H a o) := h.go (fun _ _ e => e) (fun p hp => (h p hp).1) fun p hp ps e => by rw [upd_ne (n p hp)]; exact e
theorem Tbs.atF (h : Tbs g F H) (n : ∀ p ∈ g.T, p.1 ≠ a) (hF : F a = none) : Tbs g (L2.upd F a o) H := h.go (fun b x e => by
  rw [upd_ne (ne_of_none e hF)]
  exact e) (fun p hp => by rw [upd_ne (n p hp)]; exact (h p hp).1) fun p hp ps e => e
theorem Tbs.atFH {u : HO} (h : Tbs g F H) (n : ∀ p ∈ g.T, p.1 ≠ a) (hF : F a = none) : Tbs g (L2.upd F a o) (L2.upd H a u) := (h.atF n hF).at n
theorem Tbs.up (h : Tbs g F H) (e : Same H H') : Tbs g F H' := h.go (fun _ _ e => e) (fun p hp => (h p hp).1) fun p hp ps z => e _ _ z
theorem Tbs.call (h : Tbs g F H) (s1 : Same F F') (s3 : Same H H') (fr : ∀ b o, F' b = some o → F b = none → H b = none) : Tbs g F' H' := h.go s1 (fun p hp => by
  cases z : F' p.1 with
  | none => rfl
  | some u =>
    obtain ⟨h1, _, _, ps, h4, _⟩ := h p hp
    rw [fr _ _ z h1] at h4
    cases h4) fun p hp ps z => s3 _ _ z
theorem Tbs.callA (h : Tbs g F H) (s1 : Same F F') (s3 : ∀ b o, H b = some o → b ≠ a → H' b = some o) (fr : ∀ b o, F' b = some o → F b = none → H b = none) (n : ∀ p ∈ g.T, p.1 ≠ a) : Tbs g F' H' := h.go s1 (fun p hp => by
  cases z : F' p.1 with
  | none => rfl
  | some u =>
    obtain ⟨h1, _, _, ps, h4, _⟩ := h p hp
    rw [fr _ _ z h1] at h4
    cases h4) fun p hp ps z => s3 _ _ z (n p hp)
end
structure Rel (K : PySem.W.Frag) (g : G) (F H : Hp) (s : St) (r : En) : Prop where
  sub : Same F H
  f0 : Same g.F0 F
  fnew : ∀ b o, F b = some o → g.F0 b = none → g.H0 b = none
  keep : ∀ b o, g.H0 b = some o → (∀ p ∈ g.B, p.2 ≠ b) → (∀ p ∈ g.T, p.1 ≠ b) → H b = some o
  slot : ∀ (i : Nat) (o : OV), r[i]? = some (some o) → ∃ v, s[i]? = some (some v) ∧ RO K g.w g.xc F H v o
  own : ∀ (i : Nat) (o : OV) (a : Addr), r[i]? = some (some o) → o.own = true → s[i]? = some (some (.ref a)) → g.H0 a = none ∨ (i, a) ∈ g.B
  dist : ∀ (i j : Nat) (o u : OV) (a : Addr), i ≠ j → r[i]? = some (some o) → o.own = true → r[j]? = some (some u) → u.own = true → s[i]? = some (some (.ref a)) → s[j]? = some (some (.ref a)) → False
  pin : ∀ p ∈ g.B, s[p.1]? = some (some (.ref p.2)) ∧ ∃ o, r[p.1]? = some (some o) ∧ o.own = true
  len : r.length = s.length
  tb : Tbs g F H
  ext : ∀ p ∈ g.X, H p.1 = some p.2 ∧ F p.1 = none ∧ ∀ (j : Nat) (o : OV), r[j]? = some (some o) → o.own = true → s[j]? ≠ some (some (.ref p.1))

/-- what is wanted of an error that is let out -/
def exW (K : PySem.W.Frag) (g : G) (x : Exn) (r : En) : Prop := match g.W with
  | none => False
  | some W => ∀ F' H' s' cls d, Rel K g F' H' s' r → RX K F' cls d x → W cls d s' H'
/-- what is wanted of a result -/
def post {α : Type} (K : PySem.W.Frag) (g : G) (P : α → En → Prop) : Rs α → Prop
  | .ok a r => P a r
  | .bad => False
  | .ex x r => exW K g x r
section
variable {K : PySem.W.Frag} {g : G}
theorem post_bind {α β : Type} {P : β → En → Prop} {x : Rs α} {k : α → En → Rs β} (h : post K g P (x.bind k)) : post K g (fun a r => post K g P (k a r)) x := by
  cases x with
  | ok a r => exact h
  | bad => exact h
  | ex x r => exact h
theorem post_map {α β : Type} {P : β → En → Prop} {x : Rs α} {f : α → β} (h : post K g P (x.map f)) : post K g (fun a r => P (f a) r) x := by
  cases x with
  | ok a r => exact h
  | bad => exact h
  | ex x r => exact h
theorem post_mono {α : Type} {P P' : α → En → Prop} {x : Rs α} (h : post K g P x) (i : ∀ a r, P a r → P' a r) : post K g P' x := by
  cases x with
  | ok a r => exact i a r h
  | bad => exact h
  | ex x r => exact h
theorem post_ofO {α : Type} {P : α → En → Prop} {o : Option α} {r : En} (h : post K g P (ofO o r)) : ∃ a, o = some a ∧ P a r := by
  cases o with
  | none => exact h.elim
  | some a => exact ⟨a, rfl, h⟩
/-- no error: then the wish does not matter -/
theorem post_noE {α : Type} {P : α → En → Prop} {x : Rs α} {g' : G} (h : post K g P x.noE) : post K g' P x := by
  cases x with
  | ok a r => exact h
  | bad => exact h
  | ex x r => exact h.elim
end

section
variable {K : PySem.W.Frag} {g : G} {F F' H H' : Hp} {s : St} {r : En}
theorem Rel.live (R : Rel K g F H s r) {b : Addr} (h : H b = none) : g.H0 b = none := by
  cases e : g.H0 b with
  | none => rfl
  | some o =>
    by_cases hb : ∀ p ∈ g.B, p.2 ≠ b
    · by_cases ht : ∀ p ∈ g.T, p.1 ≠ b
      · rw [R.keep b o e hb ht] at h; cases h
      · exact (ht (R.tb.fresh h)).elim
    · have : ∃ p ∈ g.B, p.2 = b := Classical.byContradiction fun hn => hb fun p hp q => hn ⟨p, hp, q⟩
      obtain ⟨p, hp, q⟩ := this
      obtain ⟨h1, o', h2, h3⟩ := R.pin p hp
      obtain ⟨v, h4, h5⟩ := R.slot _ _ h2
      rw [h1] at h4
      cases h4
      cases o' with
      | sh d => cases h3
      | ow xs =>
        obtain ⟨a, vs, e1, _, e2, _⟩ := h5
        cases e1
        rw [q, h] at e2; cases e2
      | od xs =>
        obtain ⟨a, vs, e1, _, e2, _⟩ := h5
        cases e1
        rw [q, h] at e2; cases e2
      | oi c xs =>
        obtain ⟨a, vs, e1, _, e2, _⟩ := h5
        cases e1
        rw [q, h] at e2; cases e2
      | th xs =>
        obtain ⟨a, vs, e1, _, e2, _⟩ := h5
        cases e1
        rw [q, h] at e2; cases e2
      | exc c => cases h3
theorem Rel.ff (R : Rel K g F H s r) {b : Addr} (h : H b = none) : F b = none := R.sub.free h
theorem RO.mono {w : World} {xc : Option (Addr × Value × Option Addr)} {v : V} {o : OV} (e : Same F F') (eh : ∀ a vs, v = .ref a → F a = none → H a = some vs → F' a = none ∧ H' a = some vs) (h : RO K w xc F H v o) : RO K w xc F' H' v o := by
  cases o with
  | sh d => exact RD.mono e d h
  | ow xs =>
    obtain ⟨a, vs, e1, e2, e3, e4⟩ := h
    obtain ⟨e5, e6⟩ := eh a _ e1 e2 e3
    exact ⟨a, vs, e1, e5, e6, RDs.mono e xs e4⟩
  | od xs =>
    obtain ⟨a, vs, e1, e2, e3, e4⟩ := h
    obtain ⟨e5, e6⟩ := eh a _ e1 e2 e3
    exact ⟨a, vs, e1, e5, e6, RDm.mono e xs e4⟩
  | oi c xs =>
    obtain ⟨a, vs, e1, e2, e3, e4⟩ := h
    obtain ⟨e5, e6⟩ := eh a _ e1 e2 e3
    exact ⟨a, vs, e1, e5, e6, RDi.mono e xs e4⟩
  | th xs =>
    obtain ⟨a, vs, e1, e2, e3, e4⟩ := h
    obtain ⟨e5, e6⟩ := eh a _ e1 e2 e3
    exact ⟨a, vs, e1, e5, e6, RT.mono e xs e4⟩
  | exc c => exact RE.mono e h
theorem same_upd {H : Hp} {p : Addr} {o : HO} (h : H p = none) : Same H (L2.upd H p o) := fun b x e => by
  rw [upd_ne (ne_of_none e h)]
  exact e
/-- a new object, frozen at once -/
theorem Rel.alloc (R : Rel K g F H s r) {p : Addr} {o : HO} (h : H p = none) : Rel K g (L2.upd F p o) (L2.upd H p o) s r := by
  have hF := R.ff h
  refine ⟨fun b u e => ?_, R.f0.trans (same_upd hF), fun b u e e0 => ?_, fun b u e hb ht => ?_, fun i u e => ?_, R.own, R.dist, R.pin, R.len, R.tb.atFH (R.tb.fresh h) hF, fun q hq => ?_⟩
  · by_cases hb : b = p
    · subst hb; rw [upd_same] at e ⊢; exact e
    · rw [upd_ne hb] at e ⊢; exact R.sub b u e
  · by_cases hb : b = p
    · subst hb; exact R.live h
    · rw [upd_ne hb] at e; exact R.fnew b u e e0
  · have q := R.keep b u e hb ht
    rw [upd_ne (ne_of_none q h)]; exact q
  · obtain ⟨v, h1, h2⟩ := R.slot i u e
    refine ⟨v, h1, h2.mono (same_upd hF) fun a vs e1 e2 e3 => ?_⟩
    have hn := ne_of_none e3 h
    rw [upd_ne hn, upd_ne hn]
    exact ⟨e2, e3⟩
  · obtain ⟨x1, x2, x3⟩ := R.ext q hq
    have hn := ne_of_none x1 h
    rw [upd_ne hn, upd_ne hn]
    exact ⟨x1, x2, x3⟩
/-- a new object, not frozen -/
theorem Rel.laid (R : Rel K g F H s r) {p : Addr} {o : HO} (h : H p = none) : Rel K g F (L2.upd H p o) s r := by
  refine ⟨R.sub.trans (same_upd h), R.f0, R.fnew, fun b u e hb ht => same_upd h b u (R.keep b u e hb ht), fun i u e => ?_, R.own, R.dist, R.pin, R.len, R.tb.at (R.tb.fresh h), fun q hq => ⟨same_upd h _ _ (R.ext q hq).1, (R.ext q hq).2⟩⟩
  obtain ⟨v, h1, h2⟩ := R.slot i u e
  exact ⟨v, h1, h2.mono (Same.refl F) fun a vs e1 e2 e3 => ⟨e2, same_upd h _ _ e3⟩⟩
end

/-- a value that an expression gives: an owned list is new and no slot's -/
def RV (K : PySem.W.Frag) (g : G) (F H : Hp) (s : St) (r : En) (v : V) : OV → Prop
  | .sh d => RD K F v d
  | .ow xs => ∃ a vs, v = .ref a ∧ F a = none ∧ H a = some (.lst vs) ∧ RDs K F vs xs ∧ g.H0 a = none ∧ (∀ (j : Nat) (o : OV), r[j]? = some (some o) → o.own = true → s[j]? ≠ some (some (.ref a))) ∧ ∀ p ∈ g.X, p.1 ≠ a
  | .od _ => False
  | .oi _ _ => False
  | .th _ => False
  | .exc _ => False

/-! ### readings by data -/
def PO (K : PySem.W.Frag) (g : G) (F : Hp) (s : St) (Q : VK) (o : OV) (r' : En) : Prop := ∀ F' H' v, Same F F' → Rel K g F' H' s r' → RV K g F' H' s r' v o → Q v H'
def PD (K : PySem.W.Frag) (g : G) (F : Hp) (s : St) (Q : VK) (d : D) (r' : En) : Prop := ∀ F' H' v, Same F F' → Rel K g F' H' s r' → RD K F' v d → Q v H'
def tO (K : PySem.W.Frag) (g : G) (f : En → Rs OV) : TE := fun s H Q => ∃ F r, Rel K g F H s r ∧ post K g (PO K g F s Q) (f r)
def tD (K : PySem.W.Frag) (g : G) (f : En → Rs D) : TE := fun s H Q => ∃ F r, Rel K g F H s r ∧ post K g (PD K g F s Q) (f r)
/-- the expression e computes f, by data -/
def DE (X : Cx) (g : G) (e : Expr) (f : En → Rs D) : Prop := PE X e (tD X.K g f)
def DO (X : Cx) (g : G) (e : Expr) (f : En → Rs OV) : Prop := PE X e (tO X.K g f)

theorem PE.imp {X : Cx} {e : Expr} {t t' : TE} (h : PE X e t) (i : ∀ s H Q, t' s H Q → t s H Q) : PE X e t' :=
  ⟨fun pins s σ H Q I q => h.run pins s σ H Q I (i σ H Q q)⟩
theorem PT.imp {X : Cx} {e : Expr} {t t' : TT} (h : PT X e t) (i : ∀ s H Q, t' s H Q → t s H Q) : PT X e t' :=
  ⟨fun pins s σ H Q I q => h.run pins s σ H Q I (i σ H Q q)⟩
theorem PS.imp {X : Cx} {e : Stmt} {t t' : TS} (h : PS X e t) (i : ∀ D s H, t' D s H → t D s H) : PS X e t' :=
  ⟨fun pins s σ H Q I q => h.run pins s σ H Q I (i Q σ H q)⟩
theorem PSs.imp {X : Cx} {e : List Stmt} {t t' : TS} (h : PSs X e t) (i : ∀ D s H, t' D s H → t D s H) : PSs X e t' :=
  ⟨fun pins s σ H Q I q => h.run pins s σ H Q I (i Q σ H q)⟩
theorem PI.imp {X : Cx} {tg e : Expr} {t t' : TI} (h : PI X tg e t) (i : ∀ s H R, t' s H R → t s H R) : PI X tg e t' :=
  ⟨fun pins s σ H Q I q => h.run pins s σ H Q I (i σ H Q q)⟩
theorem PA.imp {X : Cx} {e : List Expr} {t t' : TA} (h : PA X e t) (i : ∀ s H Q, t' s H Q → t s H Q) : PA X e t' :=
  ⟨fun pos pins s σ H Q I q => h.run pos pins s σ H Q I (i σ H Q q)⟩

section
variable {X : Cx} {g : G} {e a b : Expr} {pos : Pos}
/-- freeze what an expression gives -/
theorem RV.frz {K : PySem.W.Frag} {F H : Hp} {s : St} {r : En} {v : V} {o : OV} (R : Rel K g F H s r) (hv : RV K g F H s r v o) : ∃ F', Same F F' ∧ Rel K g F' H s r ∧ RD K F' v o.d := by
  cases o with
  | sh d => exact ⟨F, Same.refl _, R, hv⟩
  | ow xs =>
    obtain ⟨a, vs, rfl, e2, e3, e4, e5, e6, e7⟩ := hv
    have sF : Same F (L2.upd F a (.lst vs)) := same_upd e2
    refine ⟨L2.upd F a (.lst vs), sF, ⟨fun b u e => ?_, R.f0.trans sF, fun b u e e0 => ?_, R.keep, fun i u e => ?_, R.own, R.dist, R.pin, R.len, R.tb.atF (R.tb.tn e5) e2, fun q hq => ⟨(R.ext q hq).1, by rw [upd_ne (e7 q hq)]; exact (R.ext q hq).2.1, (R.ext q hq).2.2⟩⟩, .lst upd_same (RDs.mono sF xs e4)⟩
    · by_cases hb : b = a
      · subst hb; rw [L2.upd_same] at e; cases e; exact e3
      · rw [upd_ne hb] at e; exact R.sub b u e
    · by_cases hb : b = a
      · subst hb; exact e5
      · rw [upd_ne hb] at e; exact R.fnew b u e e0
    · obtain ⟨v, h1, h2⟩ := R.slot i u e
      refine ⟨v, h1, ?_⟩
      cases u with
      | sh d => exact RD.mono sF d h2
      | ow ys =>
        obtain ⟨b, ws, rfl, f2, f3, f4⟩ := h2
        have hb : b ≠ a := fun z => e6 i _ e rfl (by rw [h1, z])
        exact ⟨b, ws, rfl, by rw [upd_ne hb]; exact f2, f3, RDs.mono sF ys f4⟩
      | od ys =>
        obtain ⟨b, ws, rfl, f2, f3, f4⟩ := h2
        have hb : b ≠ a := fun z => e6 i _ e rfl (by rw [h1, z])
        exact ⟨b, ws, rfl, by rw [upd_ne hb]; exact f2, f3, RDm.mono sF ys f4⟩
      | oi c ys =>
        obtain ⟨b, ws, rfl, f2, f3, f4⟩ := h2
        have hb : b ≠ a := fun z => e6 i _ e rfl (by rw [h1, z])
        exact ⟨b, ws, rfl, by rw [upd_ne hb]; exact f2, f3, RDi.mono sF ys f4⟩
      | th ys =>
        obtain ⟨b, ws, rfl, f2, f3, f4⟩ := h2
        have hb : b ≠ a := fun z => e6 i _ e rfl (by rw [h1, z])
        exact ⟨b, ws, rfl, by rw [upd_ne hb]; exact f2, f3, RT.mono sF ys f4⟩
      | exc c => exact RE.mono sF h2
  | od xs => exact hv.elim
  | oi c xs => exact hv.elim
  | th xs => exact hv.elim
  | exc c => exact hv.elim
theorem DO.frz {f : En → Rs OV} (h : DO X g e f) : DE X g e (fun r => (f r).map OV.d) :=
  PE.imp h fun s H Q ⟨F, r, R, q⟩ => ⟨F, r, R, post_mono (post_map q) fun o r' q F' H' v sm R' hv => by
    obtain ⟨F2, s2, R2, h2⟩ := RV.frz R' hv
    exact q F2 H' v (sm.trans s2) R2 h2⟩
theorem DE.sh {f : En → Rs D} (h : DE X g e f) : DO X g e (fun r => (f r).map OV.sh) :=
  PE.imp h fun s H Q ⟨F, r, R, q⟩ => ⟨F, r, R, post_mono (post_map q) fun o r' q F' H' v sm R' hv => q F' H' v sm R' hv⟩

/-! ### constants and names -/
def cD (d : D) : En → Rs D := fun r => .ok d r
theorem de_int {i : Int} {j : Nat} : DE X g (.Constant (.int i) j pos) (cD (.int i)) :=
  PE.imp pe_int fun s H Q ⟨F, r, R, q⟩ => q F H _ (Same.refl _) R (.int i)
theorem de_bl {i : Bool} {j : Nat} : DE X g (.Constant (.bool i) j pos) (cD (.bl i)) :=
  PE.imp pe_bl fun s H Q ⟨F, r, R, q⟩ => q F H _ (Same.refl _) R (.bl i)
theorem de_str {i : Str} {j : Nat} : DE X g (.Constant (.str i) j pos) (cD (.str i)) :=
  PE.imp pe_str fun s H Q ⟨F, r, R, q⟩ => q F H _ (Same.refl _) R (.str i)
theorem de_non {j : Nat} : DE X g (.Constant .none j pos) (cD .non) :=
  PE.imp pe_non fun s H Q ⟨F, r, R, q⟩ => q F H _ (Same.refl _) R .non
/-- a name's value: what is owned is frozen (not a parameter by reference) -/
def vD (i : Nat) : En → Rs D := fun r =>
  match r[i]? with
  | some (some (.sh d)) => .ok d r
  | some (some (.ow xs)) => .ok (.lst xs) (r.set i (some (.sh (.lst xs))))
  | _ => .bad
theorem de_var (i : Nat) {x : Str} (hb : ∀ p ∈ g.B, p.1 ≠ i) (h : PE X (.Name x pos) (tVar i)) : DE X g (.Name x pos) (vD i) := by
  refine PE.imp h fun s H Q ⟨F, r, R, q⟩ => ?_
  unfold vD at q
  revert q
  cases e : r[i]? with
  | none => exact fun q => q.elim
  | some w =>
    cases w with
    | none => exact fun q => q.elim
    | some o =>
      obtain ⟨v, h1, h2⟩ := R.slot i o e
      cases o with
      | sh d => exact fun q => ⟨v, h1, q F H v (Same.refl _) R h2⟩
      | ow xs =>
        intro q
        obtain ⟨a, vs, rfl, e2, e3, e4⟩ := h2
        have sF : Same F (L2.upd F a (.lst vs)) := same_upd e2
        have hi : i < r.length := by
          have := (List.getElem?_eq_some_iff.mp e).1
          exact this
        have ne : ∀ j u, (r.set i (some (.sh (.lst xs))))[j]? = some (some u) → u.own = true → j ≠ i ∧ r[j]? = some (some u) := fun j u z zo => by
          by_cases hj : i = j
          · subst hj
            rw [List.getElem?_set_self hi] at z
            cases z
            cases zo
          · rw [List.getElem?_set_ne hj] at z
            exact ⟨fun z => hj z.symm, z⟩
        have h0 : g.H0 a = none := by
          rcases R.own i _ a e rfl h1 with z | z
          · exact z
          · exact absurd rfl (hb _ z)
        refine ⟨_, h1, q (L2.upd F a (.lst vs)) H (.ref a) sF ⟨fun b u e => ?_, R.f0.trans sF, fun b u e e0 => ?_, R.keep, fun j u z => ?_, fun j u b z zo => ?_, fun j k u w b hjk z zo y yo => ?_, fun p hp => ?_, ?_, R.tb.atF (R.tb.tn h0) e2, fun p hp => ?_⟩ (.lst upd_same (RDs.mono sF xs e4))⟩
        · by_cases hb : b = a
          · subst hb; rw [upd_same] at e; cases e; exact e3
          · rw [upd_ne hb] at e; exact R.sub b u e
        · by_cases hb : b = a
          · subst hb; exact h0
          · rw [upd_ne hb] at e; exact R.fnew b u e e0
        · by_cases hj : i = j
          · subst hj
            rw [List.getElem?_set_self hi] at z
            cases z
            exact ⟨_, h1, .lst upd_same (RDs.mono sF xs e4)⟩
          · rw [List.getElem?_set_ne hj] at z
            obtain ⟨w, g1, g2⟩ := R.slot j u z
            refine ⟨w, g1, ?_⟩
            cases u with
            | sh d => exact RD.mono sF d g2
            | ow ys =>
              obtain ⟨b, ws, rfl, f2, f3, f4⟩ := g2
              have hb : b ≠ a := fun zz => R.dist i j _ _ a hj e rfl z rfl h1 (by rw [g1, zz])
              exact ⟨b, ws, rfl, by rw [upd_ne hb]; exact f2, f3, RDs.mono sF ys f4⟩
            | od ys =>
              obtain ⟨b, ws, rfl, f2, f3, f4⟩ := g2
              have hb : b ≠ a := fun zz => R.dist i j _ _ a hj e rfl z rfl h1 (by rw [g1, zz])
              exact ⟨b, ws, rfl, by rw [upd_ne hb]; exact f2, f3, RDm.mono sF ys f4⟩
            | oi c ys =>
              obtain ⟨b, ws, rfl, f2, f3, f4⟩ := g2
              have hb : b ≠ a := fun zz => R.dist i j _ _ a hj e rfl z rfl h1 (by rw [g1, zz])
              exact ⟨b, ws, rfl, by rw [upd_ne hb]; exact f2, f3, RDi.mono sF ys f4⟩
            | th ys =>
              obtain ⟨b, ws, rfl, f2, f3, f4⟩ := g2
              have hb : b ≠ a := fun zz => R.dist i j _ _ a hj e rfl z rfl h1 (by rw [g1, zz])
              exact ⟨b, ws, rfl, by rw [upd_ne hb]; exact f2, f3, RT.mono sF ys f4⟩
            | exc c => exact RE.mono sF g2
        · obtain ⟨_, z'⟩ := ne j u z zo
          exact R.own j u b z' zo
        · obtain ⟨_, z'⟩ := ne j u z zo
          obtain ⟨_, y'⟩ := ne k w y yo
          exact R.dist j k u w b hjk z' zo y' yo
        · obtain ⟨p1, o, p2, p3⟩ := R.pin p hp
          refine ⟨p1, o, ?_, p3⟩
          rw [List.getElem?_set_ne fun z => hb p hp z.symm]
          exact p2
        · rw [List.length_set]; exact R.len
        · obtain ⟨x1, x2, x3⟩ := R.ext p hp
          refine ⟨x1, ?_, fun j u z zo => x3 j u (ne j u z zo).2 zo⟩
          have hn : p.1 ≠ a := fun zz => x3 i _ e rfl (by rw [h1, zz])
          rw [upd_ne hn]; exact x2
      | od xs => exact fun q => q.elim
      | oi c xs => exact fun q => q.elim
      | th xs => exact fun q => q.elim
      | exc c => exact fun q => q.elim
/-- a further object that stays -/
def G.more (g : G) (a : Addr) (o : HO) : G := { g with X := (a, o) :: g.X }
theorem Rel.more {K : PySem.W.Frag} {F H : Hp} {s : St} {r : En} {a : Addr} {o : HO} (R : Rel K g F H s r) (h1 : H a = some o) (h2 : F a = none) (h3 : ∀ (j : Nat) (o : OV), r[j]? = some (some o) → o.own = true → s[j]? ≠ some (some (.ref a))) : Rel K (g.more a o) F H s r :=
  ⟨R.sub, R.f0, R.fnew, R.keep, R.slot, R.own, R.dist, R.pin, R.len, R.tb, fun p hp => by
    rcases List.mem_cons.mp hp with e | hp
    · subst e; exact ⟨h1, h2, h3⟩
    · exact R.ext p hp⟩
theorem Rel.less {K : PySem.W.Frag} {F H : Hp} {s : St} {r : En} {a : Addr} {o : HO} (R : Rel K (g.more a o) F H s r) : Rel K g F H s r ∧ H a = some o ∧ F a = none ∧ ∀ (j : Nat) (o : OV), r[j]? = some (some o) → o.own = true → s[j]? ≠ some (some (.ref a)) :=
  ⟨⟨R.sub, R.f0, R.fnew, R.keep, R.slot, R.own, R.dist, R.pin, R.len, R.tb, fun p hp => R.ext p (List.mem_cons_of_mem _ hp)⟩, R.ext (a, o) (List.mem_cons_self ..)⟩
end
end DL

/-! Data layer, part 2: operands, operators, tests, displays, statements. -/
namespace DL
open PySem L2

/-! ### operands: an expression, or a name that is only looked at -/
inductive Opd where
  | ex (f : En → Rs D)
  | va (i : Nat)
/-- is the slot filled -/
def fill (r : En) (i : Nat) : Rs Unit :=
  match r[i]? with
  | some (some _) => .ok () r
  | _ => .bad
theorem post_fill {K : PySem.W.Frag} {g : G} {P : Unit → En → Prop} {r : En} {i : Nat} (h : post K g P (fill r i)) : (∃ o, r[i]? = some (some o)) ∧ P () r := by
  unfold fill at h
  split at h
  · next o e => exact ⟨⟨o, e⟩, h⟩
  · exact h.elim
def Opd.run : Opd → En → Rs (Sum D Nat)
  | .ex f, r => (f r).map Sum.inl
  | .va i, r => (fill r i).bind fun _ r => .ok (.inr i) r
def lookV (r : En) (i : Nat) : Option OV :=
  match r[i]? with
  | some (some (.sh d)) => some (.sh d)
  | some (some (.ow xs)) => some (.ow xs)
  | _ => none
theorem lookV_some {r : En} {i : Nat} {o : OV} (h : lookV r i = some o) : r[i]? = some (some o) := by
  unfold lookV at h
  split at h
  · next x e => rw [e, h]
  · next x e => rw [e, h]
  · cases h
theorem lookV_noi {r : En} {i : Nat} {c : Str} {kvs : List (Str × D)} (h : lookV r i = some (.oi c kvs)) : False := by
  unfold lookV at h
  split at h
  · cases h
  · cases h
  · cases h
theorem lookV_noth {r : En} {i : Nat} {t : Tg} (h : lookV r i = some (.th t)) : False := by
  unfold lookV at h
  split at h
  · cases h
  · cases h
  · cases h
theorem lookV_nox {r : En} {i : Nat} {x : Exn} (h : lookV r i = some (.exc x)) : False := by
  unfold lookV at h
  split at h
  · cases h
  · cases h
  · cases h
theorem lookV_nod {r : En} {i : Nat} {kvs : List (D × D)} (h : lookV r i = some (.od kvs)) : False := by
  unfold lookV at h
  split at h
  · cases h
  · cases h
  · cases h
def look (r : En) : Sum D Nat → Option D
  | .inl d => some d
  | .inr i => (lookV r i).map OV.d
/-- read as data: frozen, or a list whose items are frozen -/
def RB (K : PySem.W.Frag) (F H : Hp) (v : V) (d : D) : Prop :=
  RD K F v d ∨ ∃ a vs xs, v = .ref a ∧ d = .lst xs ∧ H a = some (.lst vs) ∧ RDs K F vs xs
def OpdOk (K : PySem.W.Frag) (F : Hp) (s : St) (v : V) : Sum D Nat → Prop
  | .inl d => RD K F v d
  | .inr i => s[i]? = some (some v)
def PB (K : PySem.W.Frag) (g : G) (F : Hp) (s : St) (Q : VK) (z : Sum D Nat) (r' : En) : Prop := ∀ F' H' v, Same F F' → Rel K g F' H' s r' → OpdOk K F' s v z → Q v H'
def tB (K : PySem.W.Frag) (g : G) (p : Opd) : TE := fun s H Q => ∃ F r, Rel K g F H s r ∧ post K g (PB K g F s Q) (p.run r)
def DB (X : Cx) (g : G) (e : Expr) (p : Opd) : Prop := PE X e (tB X.K g p)

section
variable {K : PySem.W.Frag} {g : G} {F F' H H' : Hp} {s : St} {r : En} {v : V} {d : D}
theorem RB.rd (sub : Same F H) (h : RB K F H v d) : RD K H v d := by
  rcases h with h | ⟨a, vs, xs, rfl, rfl, h1, h2⟩
  · exact RD.mono sub d h
  · exact .lst h1 (RDs.mono sub xs h2)
theorem RB.lst {ds : List D} (sub : Same F H) (h : RB K F H v (.lst ds)) : ∃ a vs, v = .ref a ∧ H a = some (.lst vs) ∧ RDs K F vs ds := by
  rcases h with h | ⟨a, vs, xs, rfl, e, h1, h2⟩
  · cases h with
    | lst h1 h2 => exact ⟨_, _, rfl, sub _ _ h1, h2⟩
  · cases e
    exact ⟨a, vs, rfl, h1, h2⟩
theorem RB.flat (h : RB K F H v d) (hd : ∀ xs, d ≠ .lst xs) : RD K F v d := by
  rcases h with h | ⟨a, vs, xs, rfl, e, h1, h2⟩
  · exact h
  · exact absurd e (hd xs)
theorem look_ok {z : Sum D Nat} (R : Rel K g F H s r) (h : OpdOk K F s v z) (e : look r z = some d) : RB K F H v d := by
  cases z with
  | inl x => cases e; exact .inl h
  | inr i =>
    obtain ⟨o, q, rfl⟩ := Option.map_eq_some_iff.mp e
    obtain ⟨w, h1, h2⟩ := R.slot i o (lookV_some q)
    have hv : s[i]? = some (some v) := h
    rw [hv] at h1
    cases h1
    cases o with
    | sh d => exact .inl h2
    | ow xs =>
      obtain ⟨a, vs, e1, _, e3, e4⟩ := h2
      exact .inr ⟨a, vs, xs, e1, rfl, e3, e4⟩
    | od xs => exact (lookV_nod q).elim
    | oi c xs => exact (lookV_noi q).elim
    | th xs => exact (lookV_noth q).elim
    | exc c => exact (lookV_nox q).elim
theorem OpdOk.mono {z : Sum D Nat} (e : Same F F') (h : OpdOk K F s v z) : OpdOk K F' s v z := by
  cases z with
  | inl x => exact RD.mono e x h
  | inr i => exact h
end

section
variable {X : Cx} {g : G} {e a b c : Expr} {pos : Pos} {p q : Opd}
theorem DE.opd {f : En → Rs D} (h : DE X g e f) : DB X g e (.ex f) := PE.imp h fun s H Q ⟨F, r, R, q⟩ => ⟨F, r, R, post_map (f := Sum.inl) q⟩
theorem db_var (i : Nat) {x : Str} (h : PE X (.Name x pos) (tVar i)) : DB X g (.Name x pos) (.va i) :=
  PE.imp h fun s H Q ⟨F, r, R, q⟩ => by
    obtain ⟨⟨o, e⟩, q⟩ := post_fill (post_bind q)
    obtain ⟨v, h1, h2⟩ := R.slot i o e
    exact ⟨v, h1, q F H v (Same.refl _) R h1⟩

/-! ### operators -/
def op1 (p : Opd) (sem : D → Option D) : En → Rs D := fun r => (p.run r).bind fun x r1 => ofO ((look r1 x).bind sem) r1
def op2 (p q : Opd) (sem : D → D → Option D) : En → Rs D := fun r => (p.run r).bind fun x r1 => (q.run r1).bind fun y r2 => ofO ((look r2 x).bind fun dx => (look r2 y).bind fun dy => sem dx dy) r2
/-- an operation on values that computes sem -/
def rD1 (K : PySem.W.Frag) (g : G) (sem : D → Option D) : V → Hp → VK → Prop := fun x H Q => ∃ F s r dx d, Rel K g F H s r ∧ RB K F H x dx ∧ sem dx = some d ∧ PD K g F s Q d r
def rD2 (K : PySem.W.Frag) (g : G) (sem : D → D → Option D) : R2 := fun x y H Q => ∃ F s r dx dy d, Rel K g F H s r ∧ RB K F H x dx ∧ RB K F H y dy ∧ sem dx dy = some d ∧ PD K g F s Q d r

theorem tD_op1 {K : PySem.W.Frag} {sem : D → Option D} {s : St} {H : Hp} {Q : VK} (h : tD K g (op1 p sem) s H Q) : tB K g p s H fun x H1 => rD1 K g sem x H1 Q := by
  obtain ⟨F, r, R, h⟩ := h
  refine ⟨F, r, R, post_mono (post_bind h) fun z r1 q F1 H1 v sm R1 hv => ?_⟩
  obtain ⟨d, e, q⟩ := post_ofO q
  obtain ⟨dx, e1, e2⟩ := Option.bind_eq_some_iff.mp e
  exact ⟨F1, s, r1, dx, d, R1, look_ok R1 hv e1, e2, fun F2 H2 v2 s2 R2 h2 => q F2 H2 v2 (sm.trans s2) R2 h2⟩
theorem tD_op2 {K : PySem.W.Frag} {sem : D → D → Option D} {s : St} {H : Hp} {Q : VK} (h : tD K g (op2 p q sem) s H Q) :
    tB K g p s H fun x H1 => tB K g q s H1 fun y H2 => rD2 K g sem x y H2 Q := by
  obtain ⟨F, r, R, h⟩ := h
  refine ⟨F, r, R, post_mono (post_bind h) fun z r1 q1 F1 H1 v sm R1 hv => ⟨F1, r1, R1, post_mono (post_bind q1) fun y r2 q2 F2 H2 w s2 R2 hw => ?_⟩⟩
  obtain ⟨d, e, q2⟩ := post_ofO q2
  obtain ⟨dx, e1, e⟩ := Option.bind_eq_some_iff.mp e
  obtain ⟨dy, e2, e3⟩ := Option.bind_eq_some_iff.mp e
  exact ⟨F2, s, r2, dx, dy, d, R2, look_ok R2 (hv.mono s2) e1, look_ok R2 hw e2, e3, fun F3 H3 v3 s3 R3 h3 => q2 F3 H3 v3 ((sm.trans s2).trans s3) R3 h3⟩
theorem de_op {op : Operator} {sem : D → D → Option D} (ho : OpR X (binaryOp op) (rD2 X.K g sem)) (ha : DB X g a p) (hb : DB X g b q) : DE X g (.BinOp a op b pos) (op2 p q sem) :=
  PE.imp (pe_op ho ha hb) fun s H Q h => tD_op2 h
theorem de_un {op : UnaryOp} {sem : D → Option D} (ho : UnR X (unaryOp op) (rD1 X.K g sem)) (ha : DB X g a p) : DE X g (.UnaryOp op a pos) (op1 p sem) :=
  PE.imp (pe_un ho ha) fun s H Q h => tD_op1 h
theorem de_cmp {op : CmpOp} {sem : D → D → Option D} (ho : OpR X (compareOp op) (rD2 X.K g sem)) (ha : DB X g a p) (hb : DB X g b q) (hm : behindInMarks op b = false) : DE X g (.Compare a [op] [b] pos) (op2 p q sem) :=
  PE.imp (pe_cmpR ho ha hb hm) fun s H Q h => tD_op2 h
theorem de_ix {sem : D → D → Option D} (ho : IxR X (rD2 X.K g sem)) (ha : DB X g a p) (hb : DB X g b q) (hs : PlainIx b) : DE X g (.Subscript a b pos) (op2 p q sem) :=
  PE.imp (pe_ix ho ha hb hs) fun s H Q h => tD_op2 h

/-! ### tests -/
def PT' (K : PySem.W.Frag) (g : G) (F : Hp) (s : St) (Q : Bool → Hp → Prop) (b : Bool) (r' : En) : Prop := ∀ F' H', Same F F' → Rel K g F' H' s r' → Q b H'
def tTD (K : PySem.W.Frag) (g : G) (f : En → Rs Bool) : TT := fun s H Q => ∃ F r, Rel K g F H s r ∧ post K g (PT' K g F s Q) (f r)
def DT (X : Cx) (g : G) (e : Expr) (f : En → Rs Bool) : Prop := PT X e (tTD X.K g f)
def D.asB : D → Option Bool
  | .bl b => some b
  | _ => none
def toB (f : En → Rs D) : En → Rs Bool := fun r => (f r).bind fun d r1 => ofO d.asB r1
theorem asB_some {d : D} {b : Bool} (h : d.asB = some b) : d = .bl b := by
  cases d <;> first | (cases h; rfl) | cases h
/-- a comparison as a test -/
theorem dt_cmp {op : CmpOp} {sem : D → D → Option D} (ho : OpR X (compareOp op) (rD2 X.K g sem)) (ha : DB X g a p) (hb : DB X g b q) (hm : behindInMarks op b = false) : DT X g (.Compare a [op] [b] pos) (toB (op2 p q sem)) :=
  PT.imp (pt_cmpR ho ha hb hm) fun s H Q ⟨F, r, R, h⟩ => by
    refine tD_op2 ⟨F, r, R, post_mono (post_bind h) fun d r1 q F1 H1 v sm R1 hv => ?_⟩
    obtain ⟨b, e, q⟩ := post_ofO q
    have e := asB_some e
    subst e
    cases hv
    exact ⟨b, rfl, q F1 H1 sm R1⟩
/-- a plain bool expression as a test -/
theorem dt_val {f : En → Rs D} (h : DE X g e f) (he : ∀ whole, isTrue e X.env whole = (do let v ← whole; standAt e.pos; holding [v] (truthy v)) := by intro _; rfl) : DT X g e (toB f) :=
  PT.imp (pt_val h he) fun s H Q ⟨F, r, R, h⟩ => by
    refine ⟨F, r, R, post_mono (post_bind h) fun d r1 q F1 H1 v sm R1 hv => ?_⟩
    obtain ⟨b, e, q⟩ := post_ofO q
    have e := asB_some e
    subst e
    cases hv
    exact ⟨b, rfl, q F1 H1 sm R1⟩
def notT (f : En → Rs Bool) : En → Rs Bool := fun r => (f r).map (!·)
theorem dt_not {f : En → Rs Bool} (h : DT X g a f) : DT X g (.UnaryOp .Not a pos) (notT f) :=
  PT.imp (pt_not h) fun s H Q ⟨F, r, R, h⟩ => ⟨F, r, R, post_mono (post_map (f := fun b : Bool => !b) h) fun c r1 q => q⟩
/-- and, or as tests -/
def DW (X : Cx) (g : G) (e : Expr) (f : En → Rs Bool) : Prop := PW X e (tTD X.K g f)
def andT (f h : En → Rs Bool) : En → Rs Bool := fun r => (f r).bind fun b r1 => if b = true then h r1 else .ok false r1
def orT (f h : En → Rs Bool) : En → Rs Bool := fun r => (f r).bind fun b r1 => if b = true then .ok true r1 else h r1
theorem PW.imp {X : Cx} {e : Expr} {t t' : TT} (h : PW X e t) (i : ∀ s H Q, t' s H Q → t s H Q) : PW X e t' :=
  ⟨fun wh pins s σ H Q I q => h.run wh pins s σ H Q I (i σ H Q q)⟩
theorem dw_and1 {f : En → Rs Bool} (h : DT X g a f) : DW X g (.BoolOp .And [a] pos) f := pw_and1 h
theorem dw_or1 {f : En → Rs Bool} (h : DT X g a f) : DW X g (.BoolOp .Or [a] pos) f := pw_or1 h
theorem dw_and {f h : En → Rs Bool} {rest : List Expr} (hf : DT X g a f) (hh : DW X g (.BoolOp .And (b :: rest) pos) h) : DW X g (.BoolOp .And (a :: b :: rest) pos) (andT f h) :=
  PW.imp (pw_and hf hh) fun s H Q ⟨F, r, R, q⟩ => ⟨F, r, R, post_mono (post_bind q) fun c r1 q F1 H1 sm R1 => by
    cases c with
    | true => exact ⟨F1, r1, R1, post_mono q fun c r2 q F2 H2 s2 R2 => q F2 H2 (sm.trans s2) R2⟩
    | false => exact q F1 H1 sm R1⟩
theorem dw_or {f h : En → Rs Bool} {rest : List Expr} (hf : DT X g a f) (hh : DW X g (.BoolOp .Or (b :: rest) pos) h) : DW X g (.BoolOp .Or (a :: b :: rest) pos) (orT f h) :=
  PW.imp (pw_or hf hh) fun s H Q ⟨F, r, R, q⟩ => ⟨F, r, R, post_mono (post_bind q) fun c r1 q F1 H1 sm R1 => by
    cases c with
    | false => exact ⟨F1, r1, R1, post_mono q fun c r2 q F2 H2 s2 R2 => q F2 H2 (sm.trans s2) R2⟩
    | true => exact q F1 H1 sm R1⟩
theorem DW.dt {f : En → Rs Bool} (h : DW X g e f) : DT X g e f := PW.pt h

/-! ### and, or, not, if as values; truth -/
def andD (f h : En → Rs D) : En → Rs D := fun r => (f r).bind fun d r1 => (ofO d.asB r1).bind fun c r1 => if c = true then h r1 else .ok (.bl false) r1
def orD (f h : En → Rs D) : En → Rs D := fun r => (f r).bind fun d r1 => (ofO d.asB r1).bind fun c r1 => if c = true then .ok (.bl true) r1 else h r1
theorem de_one {op : BoolOp} {f : En → Rs D} (h : DE X g a f) : DE X g (.BoolOp op [a] pos) f := pe_one h
theorem de_and {f h : En → Rs D} {rest : List Expr} (hf : DE X g a f) (hh : DE X g (.BoolOp .And (b :: rest) pos) h) : DE X g (.BoolOp .And (a :: b :: rest) pos) (andD f h) :=
  PE.imp (pe_and hf hh) fun s H Q ⟨F, r, R, q⟩ => ⟨F, r, R, post_mono (post_bind q) fun d r1 q F1 H1 v sm R1 hv => by
    obtain ⟨c, e, q⟩ := post_ofO (post_bind q)
    have e := asB_some e
    subst e
    cases hv
    refine ⟨c, rfl, ?_⟩
    cases c with
    | true => exact ⟨F1, r1, R1, post_mono q fun c r2 q F2 H2 v s2 R2 hv => q F2 H2 v (sm.trans s2) R2 hv⟩
    | false => exact q F1 H1 _ sm R1 (.bl false)⟩
def notD (f : En → Rs D) : En → Rs D := fun r => (f r).bind fun d r1 => (ofO d.asB r1).map fun c => .bl (!c)
theorem de_not {f : En → Rs D} (hf : DE X g a f) : DE X g (.UnaryOp .Not a pos) (notD f) :=
  PE.imp (pe_not hf) fun s H Q ⟨F, r, R, q⟩ => ⟨F, r, R, post_mono (post_bind q) fun d r1 q F1 H1 v sm R1 hv => by
    obtain ⟨c, e, q⟩ := post_ofO (post_map q)
    have e := asB_some e
    subst e
    cases hv
    exact ⟨c, rfl, q F1 H1 _ sm R1 (.bl _)⟩⟩
def ifD {α : Type} (c : En → Rs Bool) (f h : En → Rs α) : En → Rs α := fun r => (c r).bind fun b r1 => if b = true then f r1 else h r1
/-! ### argument lists of data; displays -/
def evs : List (En → Rs D) → En → Rs (List D)
  | [], r => .ok [] r
  | f :: fs, r => (f r).bind fun d r1 => (evs fs r1).bind fun ds r2 => .ok (d :: ds) r2
def PA' (K : PySem.W.Frag) (g : G) (F : Hp) (s : St) (Q : List V → Hp → Prop) (ds : List D) (r' : En) : Prop := ∀ F' H' vs, Same F F' → Rel K g F' H' s r' → RDs K F' vs ds → Q vs H'
def tAD (K : PySem.W.Frag) (g : G) (f : En → Rs (List D)) : TA := fun s H Q => ∃ F r, Rel K g F H s r ∧ post K g (PA' K g F s Q) (f r)
def DA (X : Cx) (g : G) (es : List Expr) (fs : List (En → Rs D)) : Prop := PA X es (tAD X.K g (evs fs))
theorem da_nil : DA X g [] [] := PA.imp pa_nil fun s H Q ⟨F, r, R, q⟩ => q F H [] (Same.refl _) R .nil
theorem da_cons {es : List Expr} {f : En → Rs D} {fs : List (En → Rs D)} (h : DE X g e f) (hs : DA X g es fs) (hst : starEach (e :: es) X.env = (false, eval e X.env) :: starEach es X.env := by rfl) : DA X g (e :: es) (f :: fs) :=
  PA.imp (pa_cons h hs hst) fun s H Q ⟨F, r, R, q⟩ => ⟨F, r, R, post_mono (post_bind q) fun d r1 q F1 H1 v sm R1 hv => ⟨F1, r1, R1, post_mono (post_bind q) fun ds r2 q F2 H2 vs s2 R2 hvs =>
    q F2 H2 (v :: vs) (sm.trans s2) R2 (.cons (RD.mono s2 d hv) hvs)⟩⟩
def tupD (fs : List (En → Rs D)) : En → Rs D := fun r => (evs fs r).bind fun ds r1 => if ds.length ≤ 1000 then .ok (.tup ds) r1 else .bad
def lstD (fs : List (En → Rs D)) : En → Rs OV := fun r => (evs fs r).bind fun ds r1 => if ds.length ≤ 1000 then .ok (.ow ds) r1 else .bad
theorem le_line {n : Nat} (h : n ≤ 1000) : n ≤ sizeLine := Nat.le_of_lt (small1000 h)
theorem post_if {K : PySem.W.Frag} {g : G} {α : Type} {P : α → En → Prop} {c : Prop} [Decidable c] {x : Rs α} (h : post K g P (if c then x else .bad)) : c ∧ post K g P x := by
  by_cases hc : c
  · rw [if_pos hc] at h; exact ⟨hc, h⟩
  · rw [if_neg hc] at h; exact h.elim
theorem de_tup {es : List Expr} {fs : List (En → Rs D)} {k : Nat} (h : DA X g es fs) : DE X g (.Tuple es k pos) (tupD fs) :=
  PE.imp (pe_tup h) fun s H Q ⟨F, r, R, q⟩ => ⟨F, r, R, post_mono (post_bind q) fun ds r1 q F1 H1 vs sm R1 hvs => by
    obtain ⟨hl, q⟩ := post_if q
    refine ⟨le_line (by rw [hvs.length]; exact hl), fun p np => ?_⟩
    have sF := same_upd (o := .tup vs) (R1.ff np)
    exact q _ _ _ (sm.trans sF) (R1.alloc np) (.tup (.of upd_same) (RDs.mono sF ds hvs))⟩
/-- a list just made is nobody's -/
theorem RV.new {K : PySem.W.Frag} {F H : Hp} {s : St} {r : En} {p : Addr} {vs : List V} {ds : List D} (R : Rel K g F H s r) (np : H p = none) (hvs : RDs K F vs ds) : RV K g F (L2.upd H p (.lst vs)) s r (.ref p) (.ow ds) := by
  refine ⟨p, vs, rfl, R.ff np, upd_same, hvs, R.live np, fun j o e eo z => ?_, fun q hq z => by have := (R.ext q hq).1; rw [z, np] at this; cases this⟩
  obtain ⟨v, h1, h2⟩ := R.slot j o e
  rw [z] at h1
  cases h1
  cases o with
  | sh d => cases eo
  | ow xs =>
    obtain ⟨a, ws, e1, _, e3, _⟩ := h2
    cases e1
    rw [np] at e3; cases e3
  | od xs =>
    obtain ⟨a, ws, e1, _, e3, _⟩ := h2
    cases e1
    rw [np] at e3; cases e3
  | oi c xs =>
    obtain ⟨a, ws, e1, _, e3, _⟩ := h2
    cases e1
    rw [np] at e3; cases e3
  | th xs =>
    obtain ⟨a, ws, e1, _, e3, _⟩ := h2
    cases e1
    rw [np] at e3; cases e3
  | exc c => cases eo
theorem do_lst {es : List Expr} {fs : List (En → Rs D)} (h : DA X g es fs) : DO X g (.List es pos) (lstD fs) :=
  PE.imp (pe_lst h) fun s H Q ⟨F, r, R, q⟩ => ⟨F, r, R, post_mono (post_bind q) fun ds r1 q F1 H1 vs sm R1 hvs => by
    obtain ⟨hl, q⟩ := post_if q
    refine ⟨le_line (by rw [hvs.length]; exact hl), fun p np => ?_⟩
    exact q _ _ _ sm (R1.laid np) (RV.new R1 np hvs)⟩
end
end DL

/-! Data layer, part 3: statements, targets, what is walked, loops, comprehensions. -/
namespace DL
open PySem L2

inductive SRs where
  | nx (r : En)
  | rt (o : OV) (r : En)
  | bk (r : En)
  | ct (r : En)
  | bad
  | ex (x : Exn) (r : En)
def SPost (K : PySem.W.Frag) (g : G) (F : Hp) (E : Ends) : SRs → Prop
  | .nx r' => ∀ F' H' s', Same F F' → Rel K g F' H' s' r' → E.nx s' H'
  | .rt o r' => ∀ F' H' s' v, Same F F' → Rel K g F' H' s' r' → RV K g F' H' s' r' v o → E.rt v H'
  | .bk r' => ∀ F' H' s', Same F F' → Rel K g F' H' s' r' → E.bk s' H'
  | .ct r' => ∀ F' H' s', Same F F' → Rel K g F' H' s' r' → E.ct s' H'
  | .bad => False
  | .ex x r' => exW K g x r'
def tSD (K : PySem.W.Frag) (g : G) (f : En → SRs) : TS := fun E s H => ∃ F r, Rel K g F H s r ∧ SPost K g F E (f r)
def DS (X : Cx) (g : G) (st : Stmt) (f : En → SRs) : Prop := PS X st (tSD X.K g f)
def DSs (X : Cx) (g : G) (st : List Stmt) (f : En → SRs) : Prop := PSs X st (tSD X.K g f)

theorem SPost.mono {K : PySem.W.Frag} {g : G} {F F' : Hp} {E : Ends} {x : SRs} (h : SPost K g F E x) (e : Same F F') : SPost K g F' E x := by
  cases x with
  | nx r => exact fun F2 H2 s2 e2 R2 => h F2 H2 s2 (e.trans e2) R2
  | rt o r => exact fun F2 H2 s2 v e2 R2 => h F2 H2 s2 v (e.trans e2) R2
  | bk r => exact fun F2 H2 s2 e2 R2 => h F2 H2 s2 (e.trans e2) R2
  | ct r => exact fun F2 H2 s2 e2 R2 => h F2 H2 s2 (e.trans e2) R2
  | bad => exact h
  | ex x r => exact h

def seqS (f h : En → SRs) : En → SRs := fun r => match f r with
  | .nx r1 => h r1
  | x => x
def nxS : En → SRs := fun r => .nx r
/-- a result that goes on -/
def thenS {α : Type} (x : Rs α) (k : α → En → SRs) : SRs := match x with
  | .ok a r => k a r
  | .bad => .bad
  | .ex x r => .ex x r
theorem post_then {α : Type} {K : PySem.W.Frag} {g : G} {F : Hp} {E : Ends} {x : Rs α} {k : α → En → SRs} (h : SPost K g F E (thenS x k)) : post K g (fun a r => SPost K g F E (k a r)) x := by
  cases x with
  | ok a r => exact h
  | bad => exact h
  | ex x r => exact h

section
variable {X : Cx} {g : G} {e a b c : Expr} {pos : Pos} {st : Stmt} {sts : List Stmt}
theorem ds_nil : DSs X g [] nxS := PSs.imp pss_nil fun E s H ⟨F, r, R, q⟩ => q F H s (Same.refl _) R
theorem ds_cons {f h : En → SRs} (h1 : DS X g st f) (h2 : DSs X g sts h) : DSs X g (st :: sts) (seqS f h) :=
  PSs.imp (pss_cons h1 h2) fun E s H ⟨F, r, R, q⟩ => by
    refine ⟨F, r, R, ?_⟩
    unfold seqS at q
    revert q
    cases f r with
    | nx r1 => exact fun q F1 H1 s1 sm R1 => ⟨F1, r1, R1, q.mono sm⟩
    | rt o r1 => exact fun q => q
    | bk r1 => exact fun q => q
    | ct r1 => exact fun q => q
    | bad => exact fun q => q
    | ex x r1 => exact fun q => q
theorem ds_one {f : En → SRs} (h1 : DS X g st f) : DSs X g [st] f := pss_one h1
def bkS : En → SRs := fun r => .bk r
def ctS : En → SRs := fun r => .ct r
def rtS (f : En → Rs OV) : En → SRs := fun r => thenS (f r) fun o r1 => .rt o r1
theorem ds_ret {f : En → Rs OV} (h : DO X g e f) : DS X g (.Return (some e) pos) (rtS f) :=
  PS.imp (ps_ret h) fun E s H ⟨F, r, R, q⟩ => ⟨F, r, R, post_mono (post_then q) fun o r1 q F1 H1 v sm R1 hv => q F1 H1 s v sm R1 hv⟩
def rtN : En → SRs := fun r => .rt (.sh .non) r
def ifS (t : En → Rs Bool) (f h : En → SRs) : En → SRs := fun r => thenS (t r) fun b r1 => if b = true then f r1 else h r1
theorem ds_if {t : En → Rs Bool} {f h : En → SRs} {sa sb : List Stmt} (hc : DT X g c t) (hf : DSs X g sa f) (hh : DSs X g sb h) : DS X g (.If c sa sb pos) (ifS t f h) :=
  PS.imp (ps_if hc hf hh) fun E s H ⟨F, r, R, q⟩ => ⟨F, r, R, post_mono (post_then q) fun b r1 q F1 H1 sm R1 => by
    cases b with
    | true => exact ⟨F1, r1, R1, q.mono sm⟩
    | false => exact ⟨F1, r1, R1, q.mono sm⟩⟩
/-- an expression whose value is dropped -/
def exS (f : En → Rs D) : En → SRs := fun r => thenS (f r) fun _ r1 => .nx r1
/-! ### stores -/
/-- a slot gets a value -/
theorem Rel.set {K : PySem.W.Frag} {F H : Hp} {s : St} {r : En} {i : Nat} {v : V} {o : OV} (R : Rel K g F H s r) (hb : ∀ p ∈ g.B, p.1 ≠ i) (hv : RV K g F H s r v o) : Rel K g F H (s.set i (some v)) (r.set i (some o)) := by
  have hl := R.len
  have cs : ∀ (j : Nat) (u : OV), (r.set i (some o))[j]? = some (some u) → (j = i ∧ u = o ∧ (s.set i (some v))[j]? = some (some v)) ∨ (j ≠ i ∧ r[j]? = some (some u) ∧ (s.set i (some v))[j]? = s[j]?) := fun j u z => by
    by_cases hj : i = j
    · subst hj
      have hi : i < r.length := by
        have := (List.getElem?_eq_some_iff.mp z).1
        rw [List.length_set] at this
        exact this
      rw [List.getElem?_set_self hi] at z
      cases z
      exact .inl ⟨rfl, rfl, List.getElem?_set_self (by rw [← hl]; exact hi)⟩
    · rw [List.getElem?_set_ne hj] at z
      exact .inr ⟨fun z => hj z.symm, z, List.getElem?_set_ne hj⟩
  refine ⟨R.sub, R.f0, R.fnew, R.keep, fun j u z => ?_, fun j u a z zo za => ?_, fun j k u w a hjk z zo y yo za ya => ?_, fun p hp => ?_, by rw [List.length_set, List.length_set]; exact hl, R.tb, fun p hp => ?_⟩
  · rcases cs j u z with ⟨rfl, rfl, e⟩ | ⟨hj, z', e⟩
    · refine ⟨v, e, ?_⟩
      cases u with
      | sh d => exact hv
      | ow xs =>
        obtain ⟨a, vs, e1, e2, e3, e4, _⟩ := hv
        exact ⟨a, vs, e1, e2, e3, e4⟩
      | od xs => exact hv.elim
      | oi c xs => exact hv.elim
      | th xs => exact hv.elim
      | exc c => exact hv.elim
    · rw [e]; exact R.slot j u z'
  · rcases cs j u z with ⟨rfl, rfl, e⟩ | ⟨hj, z', e⟩
    · rw [e] at za
      cases za
      cases u with
      | sh d => cases zo
      | ow xs =>
        obtain ⟨b, vs, e1, e2, e3, e4, e5, _⟩ := hv
        cases e1
        exact .inl e5
      | od xs => exact hv.elim
      | oi c xs => exact hv.elim
      | th xs => exact hv.elim
      | exc c => exact hv.elim
    · rw [e] at za; exact R.own j u a z' zo za
  · have key : ∀ (k : Nat) (w : OV), r[k]? = some (some w) → w.own = true → s[k]? = some (some (.ref a)) → v = .ref a → o.own = true → False := fun k2 w2 y2 yo2 ya2 hva ho => by
      cases o with
      | sh d => cases ho
      | ow xs =>
        obtain ⟨b, vs, e1, e2, e3, e4, e5, e6, e7⟩ := hv
        rw [hva] at e1
        cases e1
        exact e6 k2 w2 y2 yo2 ya2
      | od xs => exact hv.elim
      | oi c xs => exact hv.elim
      | th xs => exact hv.elim
      | exc c => exact hv.elim
    rcases cs j u z with ⟨ej, eu, e⟩ | ⟨hj, z', e⟩
    · rcases cs k w y with ⟨ek, _, _⟩ | ⟨hk, y', e'⟩
      · exact hjk (ej.trans ek.symm)
      · rw [e] at za
        rw [e'] at ya
        exact key k w y' yo ya (by cases za; rfl) (by rw [← eu]; exact zo)
    · rcases cs k w y with ⟨ek, ew, e'⟩ | ⟨hk, y', e'⟩
      · rw [e'] at ya
        rw [e] at za
        exact key j u z' zo za (by cases ya; rfl) (by rw [← ew]; exact yo)
      · rw [e] at za
        rw [e'] at ya
        exact R.dist j k u w a hjk z' zo y' yo za ya
  · obtain ⟨p1, u, p2, p3⟩ := R.pin p hp
    have h := hb p hp
    exact ⟨by rw [List.getElem?_set_ne fun z => h z.symm]; exact p1, u, by rw [List.getElem?_set_ne fun z => h z.symm]; exact p2, p3⟩
  · obtain ⟨x1, x2, x3⟩ := R.ext p hp
    refine ⟨x1, x2, fun j u z zo za => ?_⟩
    rcases cs j u z with ⟨rfl, rfl, e⟩ | ⟨hj, z', e⟩
    · rw [e] at za
      cases u with
      | sh d => cases zo
      | ow xs =>
        obtain ⟨b, vs, e1, e2, e3, e4, e5, e6, e7⟩ := hv
        cases za
        cases e1
        exact e7 p hp rfl
      | od xs => exact hv.elim
      | oi c xs => exact hv.elim
      | th xs => exact hv.elim
      | exc c => exact hv.elim
    · rw [e] at za; exact x3 j u z' zo za
def setS (i : Nat) (f : En → Rs OV) : En → SRs := fun r => thenS (f r) fun o r1 => .nx (r1.set i (some o))
theorem ds_set {i : Nat} {x : Str} {pos' : Pos} {f : En → Rs OV} (hb : ∀ p ∈ g.B, p.1 ≠ i) (hN : X.N.Nodup) (h : DO X g e f) (hi : X.N[i]? = some x := by rfl) (hx : Loc X.env.scope x := by first | exact Or.inl rfl | exact Or.inr rfl)
    (hs : swapsWith e (some (.Name x pos')) pos.line X.env = pure false := by rfl) (hf : X.fn x = true ∨ X.env.scope.names.lookup x = some .local := by first | exact .inl rfl | exact .inr rfl | assumption) : DS X g (.Assign [.Name x pos'] e pos) (setS i f) :=
  PS.imp (ps_set hN hi hx h hs hf) fun E s H ⟨F, r, R, q⟩ => ⟨F, r, R, post_mono (post_then q) fun o r1 q F1 H1 v sm R1 hv => q F1 H1 _ sm (R1.set hb hv)⟩

/-! ### targets (ks: the slots that are stored to) -/
def Agr (ks : List Nat) (s s' : St) : Prop := s'.length = s.length ∧ ∀ i : Nat, i ∉ ks → s'[i]? = s[i]?
theorem Agr.refl (ks : List Nat) (s : St) : Agr ks s s := ⟨rfl, fun _ _ => rfl⟩
theorem Agr.trans {k1 k2 : List Nat} {s s1 s2 : St} (a : Agr k1 s s1) (b : Agr k2 s1 s2) : Agr (k1 ++ k2) s s2 :=
  ⟨b.1.trans a.1, fun i hi => (b.2 i fun z => hi (List.mem_append_right _ z)).trans (a.2 i fun z => hi (List.mem_append_left _ z))⟩
def tGD (K : PySem.W.Frag) (g : G) (ks : List Nat) (h : D → En → Option En) : TG := fun v s H Q => ∃ F r d r', Rel K g F H s r ∧ RD K F v d ∧ h d r = some r' ∧ ∀ s', Agr ks s s' → Rel K g F H s' r' → Q s' H
def DG (X : Cx) (g : G) (e : Expr) (ks : List Nat) (h : D → En → Option En) : Prop := PG X e (tGD X.K g ks h)
theorem PG.imp {X : Cx} {e : Expr} {t t' : TG} (h : PG X e t) (i : ∀ v s H Q, t' v s H Q → t v s H Q) : PG X e t' :=
  ⟨fun pins s σ H v u Q I rv q => h.run pins s σ H v u Q I rv (i v σ H Q q)⟩
theorem PGs.imp {X : Cx} {e : List Expr} {t t' : TGs} (h : PGs X e t) (i : ∀ v s H Q, t' v s H Q → t v s H Q) : PGs X e t' :=
  ⟨fun pins s σ H v u Q I rv q => h.run pins s σ H v u Q I rv (i v σ H Q q)⟩
def gN (i : Nat) : D → En → Option En := fun d r => some (r.set i (some (.sh d)))
theorem dg_name {i : Nat} {x : Str} (hb : ∀ p ∈ g.B, p.1 ≠ i) (hN : X.N.Nodup) (hi : X.N[i]? = some x := by rfl) (hx : Loc X.env.scope x := by first | exact Or.inl rfl | exact Or.inr rfl)
    (hf : X.fn x = true ∨ X.env.scope.names.lookup x = some .local := by first | exact .inl rfl | exact .inr rfl | assumption) : DG X g (.Name x pos) [i] (gN i) :=
  PG.imp (pg_name hN hi hx hf) fun v s H Q ⟨F, r, d, r', R, hd, e, q⟩ => by
    cases e
    exact q _ ⟨List.length_set .., fun j hj => List.getElem?_set_ne fun z => hj (by rw [z]; exact List.mem_singleton.mpr rfl)⟩ (R.set hb (o := .sh d) hd)
def gsNil : List D → En → Option En
  | [], r => some r
  | _ :: _, _ => none
def gsCons (h : D → En → Option En) (hs : List D → En → Option En) : List D → En → Option En
  | [], _ => none
  | d :: ds, r => (h d r).bind fun r1 => hs ds r1
def gT (n : Nat) (hs : List D → En → Option En) : D → En → Option En
  | .tup ds, r => if ds.length = n then hs ds r else none
  | .lst ds, r => if ds.length = n then hs ds r else none
  | _, _ => none
def asgS (f : En → Rs D) (h : D → En → Option En) : En → SRs := fun r => thenS (f r) fun d r1 => match h d r1 with
  | some r2 => .nx r2
  | none => .bad
end
end DL

/-! Data layer, part 4: what is walked, for, list comprehensions. -/
namespace DL
open PySem L2

/-- the iterator J yields the data ds -/
def Wk (K : PySem.W.Frag) (B : List (Nat × Addr)) (F : Hp) (J : It) (ds : List D) : Prop :=
  ∀ (g : G) (F1 H1 : Hp) (s : St) (r : En), g.B = B → Same F F1 → Rel K g F1 H1 s r →
    (∀ (i : Nat) (d : D), ds[i]? = some d → J.go i H1 ∧ ∀ x H2, J.yld i H1 x H2 → ∃ F2, Same F1 F2 ∧ Rel K g F2 H2 s r ∧ RD K F2 x d) ∧ (∀ i, ds.length ≤ i → J.stop i H1)
theorem Wk.mono {K : PySem.W.Frag} {B : List (Nat × Addr)} {F F' : Hp} {J : It} {ds : List D} (h : Wk K B F J ds) (e : Same F F') : Wk K B F' J ds := fun g F1 H1 s r hB e1 R => h g F1 H1 s r hB (e.trans e1) R
def PI' (K : PySem.W.Frag) (g : G) (F : Hp) (s : St) (Q : It → Hp → Prop) (ds : List D) (r' : En) : Prop := ∀ F' H' J, Same F F' → Rel K g F' H' s r' → Wk K g.B F' J ds → Q J H'
def tID (K : PySem.W.Frag) (g : G) (f : En → Rs (List D)) : TI := fun s H Q => ∃ F r, Rel K g F H s r ∧ post K g (PI' K g F s Q) (f r)
def DI (X : Cx) (g : G) (tg e : Expr) (f : En → Rs (List D)) : Prop := PI X tg e (tID X.K g f)

/-- over a list; over a tuple -/
def D.asL : D → Option (List D)
  | .lst ds => some ds
  | _ => none
section
variable {X : Cx} {g : G} {e a b c tg : Expr} {pos : Pos}
theorem wk_list {K : PySem.W.Frag} {B : List (Nat × Addr)} {F : Hp} {p : Addr} {vs : List V} {ds : List D} (h1 : F p = some (.lst vs)) (h2 : RDs K F vs ds) : Wk K B F (Itl K p) ds := fun g F1 H1 s r _ sm R => by
  have h1' : SqL K H1 p vs := .of (R.sub _ _ (sm _ _ h1))
  refine ⟨fun i d e => ?_, fun i hi => ⟨vs, h1', by rw [h2.length]; exact hi⟩⟩
  obtain ⟨v, e1, e2⟩ := h2.get e
  refine ⟨⟨vs, v, h1', e1⟩, fun x H2 ⟨eh, ey⟩ => ?_⟩
  subst eh
  have := ey vs h1'
  rw [e1] at this
  cases this
  exact ⟨F1, Same.refl _, R, RD.mono sm d e2⟩
theorem wk_tup {K : PySem.W.Frag} {B : List (Nat × Addr)} {F : Hp} {p : Addr} {vs : List V} {ds : List D} (h1 : SqT K F p vs) (h2 : RDs K F vs ds) : Wk K B F (Itt K p) ds := fun g F1 H1 s r _ sm R => by
  have h1' := same_sqT R.sub (same_sqT sm h1)
  refine ⟨fun i d e => ?_, fun i hi => ⟨vs, h1', by rw [h2.length]; exact hi⟩⟩
  obtain ⟨v, e1, e2⟩ := h2.get e
  refine ⟨⟨vs, v, h1', e1⟩, fun x H2 ⟨eh, ey⟩ => ?_⟩
  subst eh
  have := ey vs h1'
  rw [e1] at this
  cases this
  exact ⟨F1, Same.refl _, R, RD.mono sm d e2⟩
def D.asI : D → Option Int
  | .int i => some i
  | _ => none
theorem asI_some {d : D} {i : Int} (h : d.asI = some i) : d = .int i := by
  cases d <;> first | (cases h; rfl) | cases h
/-- lo, lo + 1, .. : n of them -/
def rangeD (lo : Int) (n : Nat) : List D := (List.range n).map fun (k : Nat) => D.int (lo + (k : Int))
theorem rangeD_get {lo : Int} {n i : Nat} {d : D} (h : (rangeD lo n)[i]? = some d) : i < n ∧ d = .int (lo + i) := by
  unfold rangeD at h
  rw [List.getElem?_map] at h
  obtain ⟨k, h1, h2⟩ := Option.map_eq_some_iff.mp h
  obtain ⟨h3, h4⟩ := List.getElem?_eq_some_iff.mp h1
  rw [List.length_range] at h3
  rw [List.getElem_range] at h4
  exact ⟨h3, by rw [← h2, ← h4]⟩
theorem wk_range {K : PySem.W.Frag} {B : List (Nat × Addr)} {F : Hp} {lo : Int} {n : Nat} : Wk K B F (Itr lo n) (rangeD lo n) := fun g F1 H1 s r _ sm R => by
  refine ⟨fun i d e => ?_, fun i hi => ?_⟩
  · obtain ⟨h1, rfl⟩ := rangeD_get e
    refine ⟨h1, fun x H2 ⟨eh, ex⟩ => ?_⟩
    subst eh ex
    exact ⟨F1, Same.refl _, R, .int _⟩
  · unfold rangeD at hi
    rw [List.length_map, List.length_range] at hi
    exact hi
def rg1 (f : En → Rs D) : En → Rs (List D) := fun r => (f r).bind fun d r1 => (ofO d.asI r1).bind fun i r1 => if -1000000 ≤ i ∧ i ≤ 1000000 then .ok (rangeD 0 i.toNat) r1 else .bad
def rg2 (f h : En → Rs D) : En → Rs (List D) := fun r => (f r).bind fun d r1 => (h r1).bind fun d' r2 => (ofO d.asI r2).bind fun i r2 => (ofO d'.asI r2).bind fun j r2 => if (-1000000 ≤ i ∧ i ≤ 1000000) ∧ -1000000 ≤ j ∧ j ≤ 1000000 then .ok (rangeD i (j - i).toNat) r2 else .bad
theorem di_range1 {f : En → Rs D} {p : Pos} (hg : Gl X "range") (hm : X.mg "range" = none) (h : DE X g a f) (hs : starEach [a] X.env = [(false, eval a X.env)] := by rfl) : DI X g tg (.Call (.Name "range" p) [a] [] pos) (rg1 f) :=
  PI.imp (pi_range1 hg hm (pa_cons h pa_nil hs) hs) fun s H Q ⟨F, r, R, q⟩ => ⟨F, r, R, post_mono (post_bind q) fun d r1 q F1 H1 v sm R1 hv => by
    obtain ⟨i, ed, q⟩ := post_ofO (post_bind q)
    have ed := asI_some ed
    subst ed
    obtain ⟨hi, q⟩ := post_if q
    cases hv
    exact ⟨i, rfl, by omega, by omega, q F1 H1 _ sm R1 wk_range⟩⟩
/-! ### for -/
def forS (h : D → En → Option En) (body : En → SRs) : List D → En → SRs
  | [], r => .nx r
  | d :: ds, r =>
    match h d r with
    | none => .bad
    | some r1 =>
      match body r1 with
      | .nx r2 => forS h body ds r2
      | .ct r2 => forS h body ds r2
      | .bk r2 => .nx r2
      | .rt o r2 => .rt o r2
      | .bad => .bad
      | .ex x r2 => .ex x r2
def forD (f : En → Rs (List D)) (h : D → En → Option En) (body : En → SRs) : En → SRs := fun r => thenS (f r) fun ds r1 => forS h body ds r1
theorem ds_for {f : En → Rs (List D)} {ks : List Nat} {h : D → En → Option En} {bf : En → SRs} {body : List Stmt} {iter : Expr} (hp : PassesOwn (model X.prog X.w) X.A X.env X.xe) (hc : X.calm = true)
    (hi : DI X g tg iter f) (hg : DG X g tg ks h) (hb : DSs X g body bf) (hs : ∀ x, foldedSetIterable iter X.env x = pure x := by intro _; rfl) : DS X g (.For tg iter body [] pos) (forD f h bf) :=
  PS.imp (ps_for hp hc hi hg hb hs) fun E s H ⟨F, r, R, q⟩ => ⟨F, r, R, post_mono (post_then q) fun ds r1 q F1 H1 J sm R1 wk => by
    refine ⟨fun i m s2 H2 => m = ds.length - i ∧ i ≤ ds.length ∧ ∃ F2 r2, Same F1 F2 ∧ Rel X.K g F2 H2 s2 r2 ∧ SPost X.K g F1 E (forS h bf (ds.drop i) r2), ⟨ds.length, rfl, Nat.zero_le _, F1, r1, Same.refl _, R1, by rw [List.drop_zero]; exact q.mono sm⟩, ?_⟩
    rintro i m s2 H2 ⟨rfl, hi, F2, r2, sm2, R2, q2⟩
    obtain ⟨w1, w2⟩ := wk g F2 H2 s2 r2 rfl sm2 R2
    by_cases hlt : i < ds.length
    · have ed : ds[i]? = some ds[i] := List.getElem?_eq_getElem hlt
      obtain ⟨go, yl⟩ := w1 i _ ed
      rw [List.drop_eq_getElem_cons hlt] at q2
      refine .inr ⟨go, fun s3 H3 => ∃ F3 r3, Same F1 F3 ∧ Rel X.K g F3 H3 s3 r3 ∧ SPost X.K g F1 E (forS h bf (ds.drop (i + 1)) r3), fun s3 H3 ⟨F3, r3, a1, a2, a3⟩ => ⟨ds.length - (i + 1), by omega, rfl, hlt, F3, r3, a1, a2, a3⟩, fun x H3 hy => ?_⟩
      obtain ⟨F3, sm3, R3, hx⟩ := yl x H3 hy
      have q3 : SPost X.K g F1 E (match h ds[i] r2 with
        | none => .bad
        | some r1 => match bf r1 with
          | .nx r2 => forS h bf (ds.drop (i + 1)) r2
          | .ct r2 => forS h bf (ds.drop (i + 1)) r2
          | .bk r2 => .nx r2
          | .rt o r2 => .rt o r2
          | .bad => .bad
          | .ex x r2 => .ex x r2) := q2
      cases eh : h ds[i] r2 with
      | none => rw [eh] at q3; exact q3.elim
      | some r3 =>
        rw [eh] at q3
        refine ⟨F3, r2, ds[i], r3, R3, hx, eh, fun s4 _ R4 => ⟨F3, r3, R4, ?_⟩⟩
        have sm13 : Same F1 F3 := sm2.trans sm3
        revert q3
        show SPost X.K g F1 E (match bf r3 with
          | .nx r2 => forS h bf (ds.drop (i + 1)) r2
          | .ct r2 => forS h bf (ds.drop (i + 1)) r2
          | .bk r2 => .nx r2
          | .rt o r2 => .rt o r2
          | .bad => .bad
          | .ex x r2 => .ex x r2) → _
        cases bf r3 with
        | nx r4 => exact fun q3 F5 H5 s5 sm5 R5 => ⟨F5, r4, sm13.trans sm5, R5, q3⟩
        | ct r4 => exact fun q3 F5 H5 s5 sm5 R5 => ⟨F5, r4, sm13.trans sm5, R5, q3⟩
        | bk r4 => exact fun q3 F5 H5 s5 sm5 R5 => q3 F5 H5 s5 (sm13.trans sm5) R5
        | rt o r4 => exact fun q3 F5 H5 s5 v sm5 R5 hv => q3 F5 H5 s5 v (sm13.trans sm5) R5 hv
        | bad => exact fun q3 => q3
        | ex x r4 => exact fun q3 => q3
    · have ei : i = ds.length := by omega
      rw [List.drop_of_length_le (by omega)] at q2
      exact .inl ⟨w2 i (by omega), q2 F2 H2 s2 sm2 R2⟩⟩

/-! ### while -/
/-- fuel: the turns at most -/
def whS (c : En → Rs Bool) (body : En → SRs) : Nat → En → SRs
  | 0, _ => .bad
  | n + 1, r => thenS (c r) fun b r1 => if b = true then
      match body r1 with
      | .nx r2 => whS c body n r2
      | .ct r2 => whS c body n r2
      | .bk r2 => .nx r2
      | .rt o r2 => .rt o r2
      | .bad => .bad
      | .ex x r2 => .ex x r2
    else .nx r1
theorem ds_while {t : En → Rs Bool} {bf : En → SRs} {body : List Stmt} (n : Nat) (hp : PassesOwn (model X.prog X.w) X.A X.env X.xe) (hc : DT X g c t) (hb : DSs X g body bf) : DS X g (.While c body [] pos) (whS t bf n) :=
  PS.imp (ps_while hp hc hb) fun E s H ⟨F, r, R, q⟩ => by
    refine ⟨fun m s2 H2 => ∃ F2 r2, Same F F2 ∧ Rel X.K g F2 H2 s2 r2 ∧ SPost X.K g F E (whS t bf m r2), ⟨n, F, r, Same.refl _, R, q⟩, ?_⟩
    rintro m s2 H2 ⟨F2, r2, sm2, R2, q2⟩
    cases m with
    | zero => exact q2.elim
    | succ m =>
      refine ⟨F2, r2, R2, post_mono (post_then (show SPost X.K g F E (thenS (t r2) _) from q2)) fun b r3 q3 F3 H3 sm3 R3 => ?_⟩
      have sm13 : Same F F3 := sm2.trans sm3
      cases b with
      | false => exact q3 F3 H3 s2 sm13 R3
      | true =>
        refine ⟨fun s4 H4 => ∃ F4 r4, Same F F4 ∧ Rel X.K g F4 H4 s4 r4 ∧ SPost X.K g F E (whS t bf m r4), fun s4 H4 hh => ⟨m, Nat.lt_succ_self m, hh⟩, F3, r3, R3, ?_⟩
        revert q3
        show SPost X.K g F E (match bf r3 with
          | .nx r2 => whS t bf m r2
          | .ct r2 => whS t bf m r2
          | .bk r2 => .nx r2
          | .rt o r2 => .rt o r2
          | .bad => .bad
          | .ex x r2 => .ex x r2) → _
        cases bf r3 with
        | nx r4 => exact fun q3 F5 H5 s5 sm5 R5 => ⟨F5, r4, sm13.trans sm5, R5, q3⟩
        | ct r4 => exact fun q3 F5 H5 s5 sm5 R5 => ⟨F5, r4, sm13.trans sm5, R5, q3⟩
        | bk r4 => exact fun q3 F5 H5 s5 sm5 R5 => q3 F5 H5 s5 (sm13.trans sm5) R5
        | rt o r4 => exact fun q3 F5 H5 s5 v sm5 R5 hv => q3 F5 H5 s5 v (sm13.trans sm5) R5 hv
        | bad => exact fun q3 => q3
        | ex x r4 => exact fun q3 => q3

/-! ### list comprehensions -/
/-- without a wish about errors -/
def G.nw (g : G) : G := { g with W := none }
/-- a block's own: no error leaves it -/
structure Blk (g g' : G) : Prop where
  B : g'.B = g.B
  w : g'.w = g.w
  xc : g'.xc = g.xc
  W : g'.W = none
theorem Rel.nw {K : PySem.W.Frag} {g : G} {F H : Hp} {s : St} {r : En} (R : Rel K g F H s r) : Rel K g.nw F H s r := ⟨R.sub, R.f0, R.fnew, R.keep, R.slot, R.own, R.dist, R.pin, R.len, R.tb, R.ext⟩
theorem Rel.unw {K : PySem.W.Frag} {g : G} {F H : Hp} {s : St} {r : En} (R : Rel K g.nw F H s r) : Rel K g F H s r := ⟨R.sub, R.f0, R.fnew, R.keep, R.slot, R.own, R.dist, R.pin, R.len, R.tb, R.ext⟩
theorem post_w {α : Type} {K : PySem.W.Frag} {g g' : G} {P : α → En → Prop} {x : Rs α} (h : post K g P x) (hw : g.W = none := by rfl) : post K g' P x := by
  cases x with
  | ok a r => exact h
  | bad => exact h
  | ex x r =>
    have h : exW K g x r := h
    unfold exW at h
    rw [hw] at h
    exact h.elim
def wipeE (r : En) : List Nat → En
  | [] => r
  | v :: vs => (wipeE r vs).set v none
theorem wipeE_len (r : En) : ∀ vs, (wipeE r vs).length = r.length
  | [] => rfl
  | v :: vs => by unfold wipeE; rw [List.length_set, wipeE_len r vs]
theorem wipeE_some {r : En} {i : Nat} {o : OV} : ∀ {vs : List Nat}, (wipeE r vs)[i]? = some (some o) → r[i]? = some (some o) ∧ i ∉ vs
  | [], h => ⟨h, by simp⟩
  | v :: vs, h => by
    unfold wipeE at h
    by_cases hv : v = i
    · subst hv
      by_cases hl : v < (wipeE r vs).length
      · rw [List.getElem?_set_self hl] at h; cases h
      · rw [List.getElem?_eq_none (by simpa using hl)] at h; cases h
    · rw [List.getElem?_set_ne hv] at h
      obtain ⟨h1, h2⟩ := wipeE_some h
      exact ⟨h1, fun z => (List.mem_cons.mp z).elim (fun z => hv z.symm) h2⟩
theorem wipeE_keep {r : En} {i : Nat} : ∀ {vs : List Nat}, i ∉ vs → (wipeE r vs)[i]? = r[i]?
  | [], _ => rfl
  | v :: vs, h => by
    unfold wipeE
    rw [List.getElem?_set_ne fun z => h (by rw [z]; exact List.mem_cons_self ..)]
    exact wipeE_keep fun z => h (List.mem_cons_of_mem _ z)
theorem wipe_keep {s : St} {i : Nat} : ∀ {vs : List Nat}, i ∉ vs → (wipe s vs)[i]? = s[i]?
  | [], _ => rfl
  | v :: vs, h => by
    unfold wipe
    rw [List.getElem?_set_ne fun z => h (by rw [z]; exact List.mem_cons_self ..)]
    exact wipe_keep fun z => h (List.mem_cons_of_mem _ z)
/-- forget the slots vs -/
theorem Rel.forget {K : PySem.W.Frag} {F H : Hp} {s s' : St} {r : En} {vs : List Nat} (R : Rel K g F H s r) (hb : ∀ p ∈ g.B, p.1 ∉ vs) (hl : s'.length = s.length) (hs : ∀ i, i ∉ vs → s'[i]? = s[i]?) : Rel K g F H s' (wipeE r vs) := by
  refine ⟨R.sub, R.f0, R.fnew, R.keep, fun i o e => ?_, fun i o a e eo ea => ?_, fun i j o u a hij e eo e' eo' ea ea' => ?_, fun p hp => ?_, by rw [wipeE_len, hl]; exact R.len, R.tb, fun p hp => ?_⟩
  · obtain ⟨h1, h2⟩ := wipeE_some e
    obtain ⟨v, h3, h4⟩ := R.slot i o h1
    exact ⟨v, by rw [hs i h2]; exact h3, h4⟩
  · obtain ⟨h1, h2⟩ := wipeE_some e
    rw [hs i h2] at ea
    exact R.own i o a h1 eo ea
  · obtain ⟨h1, h2⟩ := wipeE_some e
    obtain ⟨h3, h4⟩ := wipeE_some e'
    rw [hs i h2] at ea
    rw [hs j h4] at ea'
    exact R.dist i j o u a hij h1 eo h3 eo' ea ea'
  · obtain ⟨p1, o, p2, p3⟩ := R.pin p hp
    exact ⟨by rw [hs _ (hb p hp)]; exact p1, o, by rw [wipeE_keep (hb p hp)]; exact p2, p3⟩
  · obtain ⟨x1, x2, x3⟩ := R.ext p hp
    refine ⟨x1, x2, fun j o e eo => ?_⟩
    obtain ⟨h1, h2⟩ := wipeE_some e
    rw [hs j h2]
    exact x3 j o h1 eo
theorem agr_wipe {ks vs : List Nat} {s s' : St} (a : Agr ks (wipe s vs) s') (h : ∀ i ∈ ks, i ∈ vs) : wipe s' vs = wipe s vs := by
  refine List.ext_getElem? fun i => ?_
  by_cases hi : i ∈ vs
  · have no : ∀ (t : St) (us : List Nat), i ∈ us → (wipe t us)[i]? = if i < t.length then some none else none := fun t us => by
      induction us with
      | nil => intro z; cases z
      | cons v us ih =>
        intro z
        unfold wipe
        by_cases hv : v = i
        · subst hv
          by_cases hl : v < (wipe t us).length
          · rw [List.getElem?_set_self hl, if_pos (by rw [wipe_length] at hl; exact hl)]
          · rw [List.getElem?_eq_none (by simpa using hl), if_neg (by rw [wipe_length] at hl; exact hl)]
        · rw [List.getElem?_set_ne hv]
          exact ih ((List.mem_cons.mp z).resolve_left fun z => hv z.symm)
    rw [no _ _ hi, no _ _ hi, a.1, wipe_length]
  · rw [wipe_keep hi, a.2 i fun z => hi (h i z)]
def lcS (vs : List Nat) (h : D → En → Option En) (t : En → Rs Bool) (elt : En → Rs D) : List D → En → Rs (List D)
  | [], r => .ok [] r
  | d :: ds, r =>
    match h d (wipeE r vs) with
    | none => .bad
    | some r1 => (t r1).bind fun b r2 => if b = true then (elt r2).bind fun y r3 => (lcS vs h t elt ds (wipeE r3 vs)).bind fun ys r4 => .ok (y :: ys) r4 else lcS vs h t elt ds (wipeE r2 vs)
def lcD (f : En → Rs (List D)) (vs : List Nat) (h : D → En → Option En) (t : En → Rs Bool) (elt : En → Rs D) : En → Rs OV := fun r => (f r).bind fun ds r1 => if ds.length ≤ 1000000 then (lcS vs h t elt ds r1).noE.bind fun ys r2 => .ok (.ow ys) (wipeE r2 vs) else .bad
theorem not_own {K : PySem.W.Frag} {F H : Hp} {s : St} {r : En} {p : Addr} (R : Rel K g F H s r) (np : H p = none) (j : Nat) (o : OV) (e : r[j]? = some (some o)) (eo : o.own = true) : s[j]? ≠ some (some (.ref p)) := fun z => by
  obtain ⟨v, h1, h2⟩ := R.slot j o e
  rw [z] at h1
  cases h1
  cases o with
  | sh d => cases eo
  | ow xs =>
    obtain ⟨a, ws, e1, _, e3, _⟩ := h2
    cases e1
    rw [np] at e3; cases e3
  | od xs =>
    obtain ⟨a, ws, e1, _, e3, _⟩ := h2
    cases e1
    rw [np] at e3; cases e3
  | oi c xs =>
    obtain ⟨a, ws, e1, _, e3, _⟩ := h2
    cases e1
    rw [np] at e3; cases e3
  | th xs =>
    obtain ⟨a, ws, e1, _, e3, _⟩ := h2
    cases e1
    rw [np] at e3; cases e3
  | exc c => cases eo
/-- between two turns of a comprehension: the list at A holds what was made so far -/
def LcI (K : PySem.W.Frag) (g : G) (F1 : Hp) (s : St) (Q : VK) (A : Addr) (vs : List Nat) (h : D → En → Option En) (t : En → Rs Bool) (fe : En → Rs D) (ds : List D) (i : Nat) (H2 : Hp) : Prop :=
  ∃ F2 r2 acc vacc, Same F1 F2 ∧ Rel K g F2 H2 s r2 ∧ H2 A = some (.lst vacc) ∧ F2 A = none ∧ (∀ (j : Nat) (o : OV), r2[j]? = some (some o) → o.own = true → s[j]? ≠ some (some (.ref A))) ∧ RDs K F2 vacc acc ∧ acc.length ≤ i ∧
    post K g.nw (fun ys r3 => PO K g F1 s Q (.ow (acc ++ ys)) (wipeE r3 vs)) (lcS vs h t fe (ds.drop i) r2)
/-- what is held still is changed (the list at A grows) -/
theorem Rel.grow {K : PySem.W.Frag} {F H : Hp} {s : St} {r : En} {A : Addr} {o o' : HO} (R : Rel K (g.more A o) F H s r) (h0 : g.H0 A = none) (hX : ∀ p ∈ g.X, p.1 ≠ A) : Rel K g F (L2.upd H A o') s r := by
  obtain ⟨R, h1, h2, h3⟩ := R.less
  refine ⟨fun b u e => ?_, R.f0, R.fnew, fun b u e hb ht => ?_, fun i u e => ?_, R.own, R.dist, R.pin, R.len, R.tb.at (R.tb.tn h0), fun p hp => ?_⟩
  · rw [upd_ne fun z => by rw [z, h2] at e; cases e]; exact R.sub b u e
  · rw [upd_ne fun z => by rw [z, h0] at e; cases e]; exact R.keep b u e hb ht
  · obtain ⟨v, a1, a2⟩ := R.slot i u e
    refine ⟨v, a1, ?_⟩
    cases u with
    | sh d => exact a2
    | ow xs =>
      obtain ⟨b, ws, e1, e2, e3, e4⟩ := a2
      refine ⟨b, ws, e1, e2, ?_, e4⟩
      rw [upd_ne fun z => h3 i _ e rfl (by rw [a1, e1, z])]
      exact e3
    | od xs =>
      obtain ⟨b, ws, e1, e2, e3, e4⟩ := a2
      refine ⟨b, ws, e1, e2, ?_, e4⟩
      rw [upd_ne fun z => h3 i _ e rfl (by rw [a1, e1, z])]
      exact e3
    | oi c xs =>
      obtain ⟨b, ws, e1, e2, e3, e4⟩ := a2
      refine ⟨b, ws, e1, e2, ?_, e4⟩
      rw [upd_ne fun z => h3 i _ e rfl (by rw [a1, e1, z])]
      exact e3
    | th xs =>
      obtain ⟨b, ws, e1, e2, e3, e4⟩ := a2
      refine ⟨b, ws, e1, e2, ?_, e4⟩
      rw [upd_ne fun z => h3 i _ e rfl (by rw [a1, e1, z])]
      exact e3
    | exc c => exact a2
  · obtain ⟨x1, x2, x3⟩ := R.ext p hp
    exact ⟨by rw [upd_ne (hX p hp)]; exact x1, x2, x3⟩
theorem lc_imp {K : PySem.W.Frag} {vs ks : List Nat} {f : En → Rs (List D)} {h : D → En → Option En} {t : En → Rs Bool} {fe : En → Rs D} {s : St} {H : Hp} {Q : VK} (hb : ∀ p ∈ g.B, p.1 ∉ vs) (hks : ∀ i ∈ ks, i ∈ vs) (h0 : tO K g (lcD f vs h t fe) s H Q) :
    tLc (tID K g f) (fun v s H Q => ∃ g' : G, Blk g g' ∧ tGD K g' ks h v s H Q) (fun s H Q => ∃ g' : G, Blk g g' ∧ tTD K g' t s H Q) (fun s H Q => ∃ g' : G, Blk g g' ∧ tD K g' fe s H Q) vs s H Q := by
  obtain ⟨F, r, R, q⟩ := h0
  refine ⟨F, r, R, post_mono (post_bind q) fun ds r1 q F1 H1 J sm R1 wk => ?_⟩
  obtain ⟨hl, q⟩ := post_if q
  have q : post K g.nw _ _ := post_noE (post_bind q)
  intro A nA
  have hA0 : g.H0 A = none := R1.live nA
  have hAX : ∀ p ∈ g.X, p.1 ≠ A := fun p hp z => by have := (R1.ext p hp).1; rw [z, nA] at this; cases this
  refine ⟨fun i m H2 => m = ds.length - i ∧ i ≤ ds.length ∧ LcI K g F1 s Q A vs h t fe ds i H2, ⟨ds.length, rfl, Nat.zero_le _, F1, r1, [], [], Same.refl _, R1.laid nA, upd_same, R1.ff nA, fun j o e eo => not_own R1 nA j o e eo, .nil, Nat.le_refl _, ?_⟩, ?_⟩
  · rw [List.drop_zero]
    exact post_mono q fun ys r3 q F3 H3 v sm3 R3 hv => q F3 H3 v (sm.trans sm3) R3 hv
  rintro i m H2 ⟨rfl, hi2, F2, r2, acc, vacc, sm2, R2, hA, hFA, hAo, hacc, hal, q2⟩
  obtain ⟨w1, w2⟩ := wk g F2 H2 s r2 rfl sm2 R2
  by_cases hlt : i < ds.length
  · have ed : ds[i]? = some ds[i] := List.getElem?_eq_getElem hlt
    obtain ⟨go, yl⟩ := w1 i _ ed
    rw [List.drop_eq_getElem_cons hlt] at q2
    refine .inr ⟨go, fun H3 => LcI K g F1 s Q A vs h t fe ds (i + 1) H3, fun H3 hh => ⟨ds.length - (i + 1), by omega, rfl, hlt, hh⟩, fun x H3 hy => ?_⟩
    -- the turn, with the list at A held still
    have R2m : Rel K (g.more A (.lst vacc)) F2 H2 s r2 := R2.more hA hFA hAo
    obtain ⟨w1m, _⟩ := wk (g.more A (.lst vacc)) F2 H2 s r2 rfl sm2 R2m
    obtain ⟨F3, sm3, R3, hx⟩ := (w1m i _ ed).2 x H3 hy
    have R3w : Rel K (g.more A (.lst vacc)) F3 H3 (wipe s vs) (wipeE r2 vs) := R3.forget hb (wipe_length _ _) fun i hi => wipe_keep hi
    have q3 : post K g.nw (fun ys r3 => PO K g F1 s Q (.ow (acc ++ ys)) (wipeE r3 vs)) (match h ds[i] (wipeE r2 vs) with
      | none => .bad
      | some r1 => (t r1).bind fun b r2 => if b = true then (fe r2).bind fun y r3 => (lcS vs h t fe (ds.drop (i + 1)) (wipeE r3 vs)).bind fun ys r4 => .ok (y :: ys) r4 else lcS vs h t fe (ds.drop (i + 1)) (wipeE r2 vs)) := q2
    cases eh : h ds[i] (wipeE r2 vs) with
    | none => rw [eh] at q3; exact q3.elim
    | some r3 =>
      rw [eh] at q3
      refine ⟨(g.more A (.lst vacc)).nw, ⟨rfl, rfl, rfl, rfl⟩, F3, _, ds[i], r3, R3w.nw, hx, eh, fun s4 ag R4 => ⟨agr_wipe ag hks, (g.more A (.lst vacc)).nw, ⟨rfl, rfl, rfl, rfl⟩, F3, r3, R4, post_mono (post_w (post_bind q3)) fun b r4 q4 F4 H4 sm4 R4' => ?_⟩⟩
      have wkeep : ∀ i, i ∉ vs → s[i]? = s4[i]? := fun i hi => by rw [ag.2 i fun z => hi (hks i z), wipe_keep hi]
      have hl4 : s.length = s4.length := by rw [ag.1, wipe_length]
      have sm14 : Same F1 F4 := (sm2.trans sm3).trans sm4
      cases b with
      | false =>
        obtain ⟨R5, a1, a2, a3⟩ := R4'.unw.less
        refine ⟨F4, wipeE r4 vs, acc, vacc, sm14, R5.forget hb hl4 wkeep, a1, a2, fun j o e eo => ?_, RDs.mono (sm3.trans sm4) acc hacc, by omega, q4⟩
        obtain ⟨e1, e2⟩ := wipeE_some e
        rw [wkeep j e2]
        exact a3 j o e1 eo
      | true =>
        refine ⟨(g.more A (.lst vacc)).nw, ⟨rfl, rfl, rfl, rfl⟩, F4, r4, R4', post_mono (post_w (post_bind q4)) fun y r5 q5 F5 H5 v sm5 R5' hv => ?_⟩
        have R5' := R5'.unw
        have a1 := R5'.less.2.1
        have a2 := R5'.less.2.2.1
        have a3 := R5'.less.2.2.2
        have sm15 : Same F1 F5 := sm14.trans sm5
        have hacc5 := RDs.mono ((sm3.trans sm4).trans sm5) acc hacc
        refine ⟨vacc, a1, ?_, F5, wipeE r5 vs, acc ++ [y], vacc ++ [v], sm15, (R5'.grow hA0 hAX).forget hb hl4 wkeep, upd_same, a2, fun j o e eo => ?_, hacc5.app (.cons hv .nil), by rw [List.length_append]; simp; omega, ?_⟩
        · rw [hacc.length]
          have : (1000000 : Nat) < sizeLine := by decide
          omega
        · obtain ⟨e1, e2⟩ := wipeE_some e
          rw [wkeep j e2]
          exact a3 j o e1 eo
        · refine post_mono (post_bind q5) fun ys r6 q6 => ?_
          have q6 : PO K g F1 s Q (.ow (acc ++ y :: ys)) (wipeE r6 vs) := q6
          rw [List.append_assoc]
          exact q6
  · rw [List.drop_of_length_le (by omega)] at q2
    have q2 : PO K g F1 s Q (.ow (acc ++ [])) (wipeE r2 vs) := q2
    rw [List.append_nil] at q2
    refine .inl ⟨w2 i (by omega), q2 F2 H2 (.ref A) sm2 (R2.forget hb rfl fun _ _ => rfl) ⟨A, vacc, rfl, hFA, hA, hacc, hA0, fun j o e eo => ?_, hAX⟩⟩
    obtain ⟨e1, e2⟩ := wipeE_some e
    exact hAo j o e1 eo
theorem do_lc {elt iter : Expr} {ifs : List Expr} {scope : Scope} {own : List (Str × Nat)} {vs ks : List Nat} {f : En → Rs (List D)} {h : D → En → Option En} {t : En → Rs Bool} {fe : En → Rs D} (hc : X.calm = true) (hN : X.N.Nodup) (hi : DI X g tg iter f) (ok : BlkOk X.N X.env.scope scope own)
    (hvs : own.map (·.2) = vs) (hb : ∀ p ∈ g.B, p.1 ∉ vs) (hks : ∀ i ∈ ks, i ∈ vs)
    (hg : ∀ (s : Shared) (H : Hp) (C : Addr) (cl : List (Str × Addr)) (fp : List Addr) (g' : G), Blk g g' → DG (X.blk s H scope (compEnvC scope cl C X.env) fp) g' tg ks h)
    (ht : ∀ (s : Shared) (H : Hp) (C : Addr) (cl : List (Str × Addr)) (fp : List Addr) (g' : G), Blk g g' → PTs (X.blk s H scope (compEnvC scope cl C X.env) fp) ifs (tTD X.K g' t))
    (he : ∀ (s : Shared) (H : Hp) (C : Addr) (cl : List (Str × Addr)) (fp : List Addr) (g' : G), Blk g g' → DE (X.blk s H scope (compEnvC scope cl C X.env) fp) g' elt fe) (hs : ∀ x, foldedSetIterable iter X.env x = pure x := by intro _; rfl) :
    DO X g (.ListComp elt [⟨tg, iter, ifs, 0⟩] scope pos) (lcD f vs h t fe) := by
  subst hvs
  exact PE.imp (pe_lc hc hN hi ok (g := fun v s H Q => ∃ g' : G, Blk g g' ∧ tGD X.K g' ks h v s H Q) (tt := fun s H Q => ∃ g' : G, Blk g g' ∧ tTD X.K g' t s H Q) (te := fun s H Q => ∃ g' : G, Blk g g' ∧ tD X.K g' fe s H Q)
    (fun s H C cl fp => ⟨fun pins s2 σ H2 v u Q I rv ⟨g', eg, q⟩ => (hg s H C cl fp g' eg).run pins s2 σ H2 v u Q I rv q⟩)
    (fun s H C cl fp => ⟨fun pins s2 σ H2 Q I ⟨g', eg, q⟩ => (ht s H C cl fp g' eg).run pins s2 σ H2 Q I q⟩)
    (fun s H C cl fp => ⟨fun pins s2 σ H2 Q I ⟨g', eg, q⟩ => (he s H C cl fp g' eg).run pins s2 σ H2 Q I q⟩) hs) fun s H Q h0 => lc_imp hb hks h0
/-- name = [..] on one line, the name a plain local -/
theorem ds_setLc {i : Nat} {y : Str} {py spos : Pos} {elt iter : Expr} {ifs : List Expr} {scope : Scope} {own : List (Str × Nat)} {vs ks : List Nat} {f : En → Rs (List D)} {h : D → En → Option En} {t : En → Rs Bool} {fe : En → Rs D} (hbi : ∀ p ∈ g.B, p.1 ≠ i) (hc : X.calm = true) (hN : X.N.Nodup) (hi : DI X g tg iter f) (ok : BlkOk X.N X.env.scope scope own)
    (hvs : own.map (·.2) = vs) (hb : ∀ p ∈ g.B, p.1 ∉ vs) (hks : ∀ i ∈ ks, i ∈ vs)
    (hg : ∀ (s : Shared) (H : Hp) (C : Addr) (cl : List (Str × Addr)) (fp : List Addr) (g' : G), Blk g g' → DG (X.blk s H scope (compEnvC scope cl C X.env) fp) g' tg ks h)
    (ht : ∀ (s : Shared) (H : Hp) (C : Addr) (cl : List (Str × Addr)) (fp : List Addr) (g' : G), Blk g g' → PTs (X.blk s H scope (compEnvC scope cl C X.env) fp) ifs (tTD X.K g' t))
    (he : ∀ (s : Shared) (H : Hp) (C : Addr) (cl : List (Str × Addr)) (fp : List Addr) (g' : G), Blk g g' → DE (X.blk s H scope (compEnvC scope cl C X.env) fp) g' elt fe)
    (hsw : swapsWith (.ListComp elt [⟨tg, iter, ifs, 0⟩] scope pos) (some (.Name y py)) spos.line X.env = pure true) (hy : X.N[i]? = some y := by rfl) (hyl : X.env.scope.names.lookup y = some .local := by rfl) (hs : ∀ x, foldedSetIterable iter X.env x = pure x := by intro _; rfl) :
    DS X g (.Assign [.Name y py] (.ListComp elt [⟨tg, iter, ifs, 0⟩] scope pos) spos) (setS i (lcD f vs h t fe)) := by
  subst hvs
  refine PS.imp (ps_setLc hc hN hy hyl hsw hi ok (g := fun v s H Q => ∃ g' : G, Blk g g' ∧ tGD X.K g' ks h v s H Q) (tt := fun s H Q => ∃ g' : G, Blk g g' ∧ tTD X.K g' t s H Q) (te := fun s H Q => ∃ g' : G, Blk g g' ∧ tD X.K g' fe s H Q)
    (fun s H C cl fp => ⟨fun pins s2 σ H2 v u Q I rv ⟨g', eg, q⟩ => (hg s H C cl fp g' eg).run pins s2 σ H2 v u Q I rv q⟩)
    (fun s H C cl fp => ⟨fun pins s2 σ H2 Q I ⟨g', eg, q⟩ => (ht s H C cl fp g' eg).run pins s2 σ H2 Q I q⟩)
    (fun s H C cl fp => ⟨fun pins s2 σ H2 Q I ⟨g', eg, q⟩ => (he s H C cl fp g' eg).run pins s2 σ H2 Q I q⟩) hs) fun E s H ⟨F, r, R, q⟩ => ?_
  exact lc_imp hb hks ⟨F, r, R, post_mono (post_then q) fun o r1 q F1 H1 v sm R1 hv => q F1 H1 _ sm (R1.set hbi hv)⟩
end
end DL

/-! Data layer, part 5: what a def promises by data (its callers outside any repr), calls, the law's own call. -/
namespace DL
open PySem L2

/-- like FnOk, for callers that stand in no repr -/
structure FnG (P : Program) (w : World) (K : PySem.W.Frag) (mg : Str → Option Value) (base : Heap) (CX : CXT) (k : Nat) (f : Addr) (fd : FuncData) (ps : List Str) (sp : Sp) : Prop where
  len : ∀ vs H Q E, sp vs H Q E → vs.length = ps.length
  run : ∀ (A : Around) (outer : List Env) (s : Shared) (H : Hp) (args : Args) (us : List Value) (vs : List V) (Q : VK) (E : XK), A.guards = some [] → Room k A → Env0 P w K mg base A outer s H →
    BindsTo s fd args (ps.zip us) → Vals vs us → sp vs H Q E → codeAny (model P w) A (.call (.ref f) args) (CR CX outer P w H s Q E) s
section
variable {P : Program} {w : World} {K : PySem.W.Frag} {mg : Str → Option Value} {base : Heap} {CX : CXT}
theorem FnG.mono {j k : Nat} {f : Addr} {fd : FuncData} {ps : List Str} {sp : Sp} (F : FnG P w K mg base CX j f fd ps sp) (h : j ≤ k) : FnG P w K mg base CX k f fd ps sp :=
  ⟨F.len, fun A o s H as us vs Q E hg hr => F.run A o s H as us vs Q E hg (hr.mono h)⟩
theorem FnG.imp {k : Nat} {f : Addr} {fd : FuncData} {ps : List Str} {sp sp' : Sp} (F : FnG P w K mg base CX k f fd ps sp) (h : ∀ vs H Q E, sp' vs H Q E → sp vs H Q E) : FnG P w K mg base CX k f fd ps sp' :=
  ⟨fun vs H Q E q => F.len vs H Q E (h _ _ _ _ q), fun A o s H as us vs Q E hg hr e0 hb rv hs => F.run A o s H as us vs Q E hg hr e0 hb rv (h _ _ _ _ hs)⟩
/-- a def by its body -/
theorem fnG_of {x qual : Str} {st : Stmt} {f : Addr} {fd : FuncData} {N ps : List Str} {k : Nat} {sp : Sp} (F : Fun K x qual st f fd) (S : FnScope N ps (defScope st)) (len : ∀ vs H Q E, sp vs H Q E → vs.length = ps.length)
    (hbody : ∀ (cdv : Value) (A : Around) (outer : List Env) (s : Shared) (H : Hp) (vs : List V) (Q : VK) (E : XK), A.guards = some [] → Room k (A.deeper (PyProof.Rows.envOfC qual (defScope st) s.heap.objs.size f cdv)) → sp vs H Q E →
      ∃ t, PSs (cxOf CX P w K mg base N qual (defScope st) f cdv A outer s H E) (defBody st) t ∧ t { nx := fun _ H' => Q .non H', rt := Q } (start N vs) H) : FnG P w K mg base CX (k + 1) f fd ps sp := by
  obtain ⟨oc, od, kV, doc, pm, an, cdv, ct, osl, rfl, lk, hcd⟩ := F.ex
  refine ⟨len, ?_⟩
  intro A outer s H args us vs Q E hgd room en bind rel want
  have inK : K.In s.heap := en.mod.kin.keeps fun b u z => (en.bs b u z).1
  have nolim : s.heap.NoLimit := en.mod.nolimit.keeps fun b u z => (en.bs b u z).1
  have kinds : ∀ y ∈ ps.zip us, (defScope st).names.lookup y.1 = some .local ∨ ((defScope st).names.lookup y.1 = some .cell ∧ ((cellsFrom (s.heap.objs.size + 1) (defScope st).names []).lookup y.1).isSome = true) := by
    rintro ⟨nm, vl⟩ hy
    cases S.par nm (List.of_mem_zip hy).1 with
    | inl q => exact Or.inl q
    | inr q => exact Or.inr ⟨q, PySem.W.cellsFrom_some _ _ _ (.inl q)⟩
  refine codeAny_call_function room.depth (inK _ _ lk) rfl S.co S.gen rfl (PySem.W.codeRec_of inK hcd) (bind _ _ _ _ ?_)
  refine PySem.wpAny_newFunctionEnv_cells S.kind kinds fun env eenv s1 ic => ?_
  subst eenv
  refine ⟨nolim.keeps ic.toInCall.keep, codeAny_func ?_⟩
  obtain ⟨t, pt, tq⟩ := hbody cdv A outer s H vs Q E hgd (room.deeper _) want
  have inv0 : Inv (cxOf CX P w K mg base N qual (defScope st) f cdv A outer s H E) [] (start N vs) H s1 := inv_start S room.hd en (len _ _ _ _ want) rel ic
  refine wpAny_mono (pt.run [] s1 (start N vs) H _ inv0 tq) ?_ fun _ _ z => z
  intro fl s2 hs2
  have ending : ∀ {σ2 : St} {H2 : Hp} {v : V} {u : Value}, Inv (cxOf CX P w K mg base N qual (defScope st) f cdv A outer s H E) [] σ2 H2 s2 → RelV v u → Q v H2 → CE outer P w H s Q u s2 := by
    intro σ2 H2 v u J rv qv
    exact ⟨v, H2, J.os, J.bare, J.base, J.hok, rv, qv⟩
  cases fl with
  | next => obtain ⟨σ2, H2, J, qv⟩ := hs2; exact ending (v := V.non) (u := Value.none) J rfl qv
  | ret u => obtain ⟨v, σ2, H2, J, rv, qv⟩ := hs2; exact ending J rv qv
  | brk => obtain ⟨_, _, _, z⟩ := hs2; exact z.elim
  | cont => obtain ⟨_, _, _, z⟩ := hs2; exact z.elim
end

section
variable {X : Cx} {CX : CXT} {k : Nat} {f : Addr} {fd : FuncData} {ps : List Str} {sp : Sp} {E : XK} {x : Str} {p pos : Pos} {e : Expr} {es : List Expr} {t : TA}
theorem runG {pins : List (Addr × Obj)} {σ : St} {H : Hp} {s : Shared} {Q : VK} {us : List Value} {vs : List V} (F : FnG X.prog X.w X.K X.mg X.base CX k f fd ps sp) (hgd : X.A.guards = some []) (hr : Room k X.A) (hb : Binds X.K fd ps []) (hx : Passes CX X E)
    (I : Inv X pins σ H s) (r : Vals vs us) (h : sp vs H Q E) : wpAny (model X.prog X.w) X.A (call (.ref f) us) (EP X pins σ Q) X.xe s := by
  have bl := hb s us I.kIn (by rw [List.append_nil, ← r.length]; exact F.len _ _ _ _ h)
  rw [List.append_nil] at bl
  refine wpAny_call (codeAny_mono (F.run X.A X.stack s H ⟨us, []⟩ us vs Q E hgd hr I.env0 bl r h) ?_)
  intro res s2 hq
  cases res with
  | error er => exact hx pins σ H s er s2 I hq
  | ok fl =>
    cases fl with
    | ret u => exact I.after hq
    | next => cases hq
    | brk => cases hq
    | cont => cases hq
theorem pe_callG1 (F : FnG X.prog X.w X.K X.mg X.base CX k f fd ps sp) (hgd : X.A.guards = some []) (hr : Room k X.A) (hg : Gl X x) (hm : X.mg x = some (.ref f)) (hk : PySem.W.keepIn X.K (.ref f) = true) (hb : Binds X.K fd ps []) (hx : Passes CX X E)
    (ha : PA X (e :: es) t) (hdb : (x == ("__debug__" : Str)) = false := by decide) (he : starEach (e :: es) X.env = (false, eval e X.env) :: starEach es X.env := by rfl) (hpl : (backTo pos (starEach es X.env)).any (·.1) = false := by rfl) :
    PE X (.Call (.Name x p) (e :: es) [] pos) (fun σ H Q => t σ H fun vs H1 => sp vs H1 Q E) := by
  constructor
  intro pins s σ H Q I h
  refine PySem.wpAny_Call_Name_kw (ld_glob I hg hm ?_ hdb)
  refine PySem.W.callWith_K (h₀ := X.base) I.ok.mod.kin hk (thn (ha.run pos pins s σ H _ I h) ?_) he hpl
  rintro us s1 ⟨vs, H1, I1, rv, q⟩
  exact ⟨I1.kIn, runG F hgd hr hb hx I1 rv q⟩
end

/-! ### promises by data -/
def RVf (K : PySem.W.Frag) (F' H' H : Hp) (v : V) : OV → Prop
  | .sh d => RD K F' v d
  | .ow xs => ∃ a vs, v = .ref a ∧ F' a = none ∧ H' a = some (.lst vs) ∧ RDs K F' vs xs ∧ H a = none
  | .od _ => False
  | .oi _ _ => False
  | .th _ => False
  | .exc _ => False
def Fresh (F F' H : Hp) : Prop := ∀ b o, F' b = some o → F b = none → H b = none
def spP (K : PySem.W.Frag) (n : Nat) (f : List D → Option OV) : Sp := fun vs H Q _ => ∃ F ds o, Same F H ∧ RDs K F vs ds ∧ ds.length = n ∧ f ds = some o ∧
  ∀ F' H' v, Same F F' → Same F' H' → Fresh F F' H → Same H H' → RVf K F' H' H v o → Q v H'
def spB (K : PySem.W.Frag) (n : Nat) (f : List D → List D → Option (OV × List D)) : Sp := fun vs H Q _ => ∃ F a bs vb ws ds o bs', vs = .ref a :: ws ∧ Same F H ∧ F a = none ∧ H a = some (.lst vb) ∧ RDs K F vb bs ∧ RDs K F ws ds ∧ ds.length = n ∧ f bs ds = some (o, bs') ∧
  ∀ F' H' v vb', Same F F' → Same F' H' → Fresh F F' H → (∀ b o, H b = some o → b ≠ a → H' b = some o) → F' a = none → H' a = some (.lst vb') → RDs K F' vb' bs' → RVf K F' H' H v o → Q v H'
def startE (n : Nat) (os : List OV) : En := os.map some ++ List.replicate (n - os.length) none
def fnP (n : Nat) (m : En → SRs) : List D → Option OV := fun ds => match m (startE n (ds.map OV.sh)) with
  | .nx _ => some (.sh .non)
  | .rt o _ => some o
  | _ => none
def OV.lst? : OV → Option (List D)
  | .ow xs => some xs
  | _ => none
def fnB (n : Nat) (m : En → SRs) : List D → List D → Option (OV × List D) := fun bs ds => match m (startE n (.ow bs :: ds.map OV.sh)) with
  | .nx r => ((lookV r 0).bind OV.lst?).map fun b => (.sh .non, b)
  | .rt o r => ((lookV r 0).bind OV.lst?).map fun b => (o, b)
  | _ => none

theorem startE_get {n : Nat} {os : List OV} {i : Nat} {o : OV} (h : (startE n os)[i]? = some (some o)) : os[i]? = some o := by
  unfold startE at h
  by_cases hi : i < os.length
  · rw [List.getElem?_append_left (by simpa using hi), List.getElem?_map] at h
    cases e : os[i]? with
    | none => rw [e] at h; cases h
    | some a => rw [e] at h; cases h; rfl
  · rw [List.getElem?_append_right (by simpa using hi), List.getElem?_replicate] at h
    split at h <;> cases h
theorem start_get {N : List Str} {vs : List V} {i : Nat} {v : V} (h : vs[i]? = some v) : (start N vs)[i]? = some (some v) := by
  unfold L2.start
  have hi : i < vs.length := (List.getElem?_eq_some_iff.mp h).1
  rw [List.getElem?_append_left (by simpa using hi), List.getElem?_map, h]
  rfl
theorem start_len (N : List Str) (vs : List V) (os : List OV) (h : vs.length = os.length) : (startE N.length os).length = (start N vs).length := by
  unfold L2.start startE
  simp [h]
section
variable {K : PySem.W.Frag} {F H : Hp} {w : World}
theorem relP {N : List Str} {vs : List V} {ds : List D} (sub : Same F H) (h : RDs K F vs ds) : Rel K ⟨F, H, [], [], w, none, none, []⟩ F H (start N vs) (startE N.length (ds.map OV.sh)) := by
  have nown : ∀ (i : Nat) (o : OV), (startE N.length (ds.map OV.sh))[i]? = some (some o) → ∃ d, ds[i]? = some d ∧ o = .sh d := fun i o e => by
    have q := startE_get e
    rw [List.getElem?_map] at q
    obtain ⟨d, q1, q2⟩ := Option.map_eq_some_iff.mp q
    exact ⟨d, q1, q2.symm⟩
  refine ⟨sub, Same.refl _, fun b o e z => ?_, fun b o e _ _ => e, fun i o e => ?_, fun i o a e eo => ?_, fun i j o u a _ e eo => ?_, fun p hp => ?_, start_len N vs _ (by rw [List.length_map, h.length]), fun p hp => (nomatch hp), fun p hp => ?_⟩
  · have z : F b = none := z
    rw [z] at e; cases e
  · obtain ⟨d, h1, rfl⟩ := nown i o e
    obtain ⟨v, h2, h3⟩ := h.get h1
    exact ⟨v, start_get h2, h3⟩
  · obtain ⟨d, h1, rfl⟩ := nown i o e
    cases eo
  · obtain ⟨d, h1, rfl⟩ := nown i o e
    cases eo
  · cases hp
  · cases hp
theorem relB {N : List Str} {a : Addr} {vb ws : List V} {bs ds : List D} (sub : Same F H) (fa : F a = none) (ha : H a = some (.lst vb)) (hb : RDs K F vb bs) (h : RDs K F ws ds) :
    Rel K ⟨F, H, [(0, a)], [], w, none, none, []⟩ F H (start N (.ref a :: ws)) (startE N.length (.ow bs :: ds.map OV.sh)) := by
  have nown : ∀ (i : Nat) (o : OV), (startE N.length (.ow bs :: ds.map OV.sh))[i]? = some (some o) → (i = 0 ∧ o = .ow bs) ∨ ∃ j d, i = j + 1 ∧ ds[j]? = some d ∧ o = .sh d := fun i o e => by
    have q := startE_get e
    cases i with
    | zero => cases q; exact .inl ⟨rfl, rfl⟩
    | succ j =>
      have q : (ds.map OV.sh)[j]? = some o := q
      rw [List.getElem?_map] at q
      obtain ⟨d, q1, q2⟩ := Option.map_eq_some_iff.mp q
      exact .inr ⟨j, d, rfl, q1, q2.symm⟩
  have s0 : (start N (.ref a :: ws))[0]? = some (some (.ref a)) := start_get rfl
  refine ⟨sub, Same.refl _, fun b o e z => ?_, fun b o e _ _ => e, fun i o e => ?_, fun i o b e eo es => ?_, fun i j o u b hij e eo e' eo' => ?_, fun p hp => ?_, start_len N (.ref a :: ws) (.ow bs :: ds.map OV.sh) (by simp [h.length]), fun p hp => (nomatch hp), fun p hp => by cases hp⟩
  · have z : F b = none := z
    rw [z] at e; cases e
  · rcases nown i o e with ⟨rfl, rfl⟩ | ⟨j, d, rfl, h1, rfl⟩
    · exact ⟨_, s0, a, vb, rfl, fa, ha, hb⟩
    · obtain ⟨v, h2, h3⟩ := h.get h1
      exact ⟨v, start_get (i := j + 1) h2, h3⟩
  · rcases nown i o e with ⟨rfl, rfl⟩ | ⟨j, d, rfl, h1, rfl⟩
    · rw [s0] at es
      cases es
      exact .inr (List.mem_singleton.mpr rfl)
    · cases eo
  · rcases nown i o e with ⟨rfl, rfl⟩ | ⟨j, d, rfl, h1, rfl⟩
    · rcases nown j u e' with ⟨rfl, rfl⟩ | ⟨k, d, rfl, h1, rfl⟩
      · exact absurd rfl hij
      · cases eo'
    · cases eo
  · have hp := List.mem_singleton.mp hp
    subst hp
    exact ⟨s0, .ow bs, by unfold startE; rfl, rfl⟩
end

section
variable {P : Program} {w : World} {K : PySem.W.Frag} {mg : Str → Option Value} {base : Heap}
/-- a def without parameters by reference -/
theorem fnP_ok {x qual : Str} {st : Stmt} {f : Addr} {fd : FuncData} {N ps : List Str} {k n np : Nat} {m : En → SRs} (F : Fun K x qual st f fd) (S : FnScope N ps (defScope st)) (en : N.length = n) (ep : ps.length = np)
    (hbody : ∀ (cdv : Value) (A : Around) (outer : List Env) (s : Shared) (H : Hp) (E : XK) (g : G), A.guards = some [] → Room k (A.deeper (PyProof.Rows.envOfC qual (defScope st) s.heap.objs.size f cdv)) → g.B = [] → g.w = w → g.W = none → g.xc = none →
      DSs (cxOf CX0 P w K mg base N qual (defScope st) f cdv A outer s H E).nox g (defBody st) m) : FnG P w K mg base CX0 (k + 1) f fd ps (spP K np (fnP n m)) := by
  subst en ep
  refine fnG_of F S (fun vs H Q E ⟨F, ds, o, _, h, hl, _⟩ => by rw [h.length]; exact hl) fun cdv A outer s H vs Q E hg hr hsp => ?_
  obtain ⟨Fz, ds, o, sub, h, hl, ef, q⟩ := hsp
  refine ⟨_, PSs.nox (hbody cdv A outer s H E ⟨Fz, H, [], [], w, none, none, []⟩ hg hr rfl rfl rfl rfl), Fz, startE N.length (ds.map OV.sh), relP sub h, ?_⟩
  unfold fnP at ef
  revert ef
  cases m (startE N.length (ds.map OV.sh)) with
  | nx r' =>
    intro ef F' H' s' sm R'
    cases ef
    exact q F' H' .non sm R'.sub (fun b o e e0 => R'.fnew b o e e0) (fun b o e => R'.keep b o e (fun p hp => by cases hp) fun p hp => by cases hp) .non
  | rt o' r' =>
    intro ef F' H' s' v sm R' hv
    cases ef
    refine q F' H' v sm R'.sub (fun b o e e0 => R'.fnew b o e e0) (fun b o e => R'.keep b o e (fun p hp => by cases hp) fun p hp => by cases hp) ?_
    cases o with
    | sh d => exact hv
    | ow xs =>
      obtain ⟨a, vs, e1, e2, e3, e4, e5, _⟩ := hv
      exact ⟨a, vs, e1, e2, e3, e4, e5⟩
    | od xs => exact hv.elim
    | oi c xs => exact hv.elim
    | th xs => exact hv.elim
    | exc c => exact hv.elim
  | bk r' => intro ef; cases ef
  | ct r' => intro ef; cases ef
  | bad => intro ef; cases ef
  | ex x r' => intro ef; cases ef
/-- a def whose first parameter is a list by reference -/
theorem fnB_ok {x qual : Str} {st : Stmt} {f : Addr} {fd : FuncData} {N : List Str} {p0 : Str} {ps : List Str} {k n np : Nat} {m : En → SRs} (F : Fun K x qual st f fd) (S : FnScope N (p0 :: ps) (defScope st)) (en : N.length = n) (ep : ps.length = np)
    (hbody : ∀ (cdv : Value) (A : Around) (outer : List Env) (s : Shared) (H : Hp) (E : XK) (g : G), A.guards = some [] → Room k (A.deeper (PyProof.Rows.envOfC qual (defScope st) s.heap.objs.size f cdv)) → g.B.map (·.1) = [0] → g.w = w → g.W = none → g.xc = none →
      DSs (cxOf CX0 P w K mg base N qual (defScope st) f cdv A outer s H E).nox g (defBody st) m) : FnG P w K mg base CX0 (k + 1) f fd (p0 :: ps) (spB K np (fnB n m)) := by
  subst en ep
  refine fnG_of F S (fun vs H Q E ⟨F, a, bs, vb, ws, ds, o, bs', e, _, _, _, _, h, hl, _⟩ => by rw [e, List.length_cons, List.length_cons, h.length, hl]) fun cdv A outer s H vs Q E hg hr hsp => ?_
  obtain ⟨Fz, a, bs, vb, ws, ds, o, bs', rfl, sub, fa, ha, hb, h, hl, ef, q⟩ := hsp
  refine ⟨_, PSs.nox (hbody cdv A outer s H E ⟨Fz, H, [(0, a)], [], w, none, none, []⟩ hg hr rfl rfl rfl rfl), Fz, startE N.length (.ow bs :: ds.map OV.sh), relB sub fa ha hb h, ?_⟩
  unfold fnB at ef
  have outs : ∀ {F' H' : Hp} {s' : St} {r' : En}, Rel K ⟨Fz, H, [(0, a)], [], w, none, none, []⟩ F' H' s' r' → (lookV r' 0).bind OV.lst? = some bs' → F' a = none ∧ ∃ vb', H' a = some (.lst vb') ∧ RDs K F' vb' bs' := fun {F' H' s' r'} R' e => by
    obtain ⟨o1, e1, e2⟩ := Option.bind_eq_some_iff.mp e
    obtain ⟨p1, _⟩ := R'.pin (0, a) (List.mem_singleton.mpr rfl)
    obtain ⟨v, h1, h2⟩ := R'.slot 0 o1 (lookV_some e1)
    rw [p1] at h1
    cases h1
    cases o1 with
    | sh d => cases e2
    | ow xs =>
      cases e2
      obtain ⟨b, vs, e3, e4, e5, e6⟩ := h2
      cases e3
      exact ⟨e4, vs, e5, e6⟩
    | od xs => cases e2
    | oi c xs => cases e2
    | th xs => cases e2
    | exc c => cases e2
  have kp : ∀ {F' H' : Hp} {s' : St} {r' : En}, Rel K ⟨Fz, H, [(0, a)], [], w, none, none, []⟩ F' H' s' r' → ∀ b o, H b = some o → b ≠ a → H' b = some o := fun {F' H' s' r'} R' b o e hb => R'.keep b o e (fun p hp => by
    have hp := List.mem_singleton.mp hp
    subst hp
    exact fun z => hb z.symm) fun p hp => by cases hp
  revert ef
  cases m (startE N.length (.ow bs :: ds.map OV.sh)) with
  | nx r' =>
    intro ef F' H' s' sm R'
    obtain ⟨b, e1, e2⟩ := Option.map_eq_some_iff.mp ef
    cases e2
    obtain ⟨f1, vb', f2, f3⟩ := outs R' e1
    exact q F' H' .non vb' sm R'.sub (fun b o e e0 => R'.fnew b o e e0) (kp R') f1 f2 f3 .non
  | rt o' r' =>
    intro ef F' H' s' v sm R' hv
    obtain ⟨b, e1, e2⟩ := Option.map_eq_some_iff.mp ef
    cases e2
    obtain ⟨f1, vb', f2, f3⟩ := outs R' e1
    refine q F' H' v vb' sm R'.sub (fun b o e e0 => R'.fnew b o e e0) (kp R') f1 f2 f3 ?_
    cases o with
    | sh d => exact hv
    | ow xs =>
      obtain ⟨a, vs, e1, e2, e3, e4, e5, _⟩ := hv
      exact ⟨a, vs, e1, e2, e3, e4, e5⟩
    | od xs => exact hv.elim
    | oi c xs => exact hv.elim
    | th xs => exact hv.elim
    | exc c => exact hv.elim
  | bk r' => intro ef; cases ef
  | ct r' => intro ef; cases ef
  | bad => intro ef; cases ef
  | ex x r' => intro ef; cases ef
end

/-! ### calls -/
structure HasP (P : Program) (w : World) (K : PySem.W.Frag) (mg : Str → Option Value) (base : Heap) (k : Nat) (x : Str) (n : Nat) (f : List D → Option OV) : Prop where
  ex : ∃ fa fd ps, FnG P w K mg base CX0 k fa fd ps (spP K n f) ∧ mg x = some (.ref fa) ∧ PySem.W.keepIn K (.ref fa) = true ∧ Binds K fd ps []
structure HasB (P : Program) (w : World) (K : PySem.W.Frag) (mg : Str → Option Value) (base : Heap) (k : Nat) (x : Str) (n : Nat) (f : List D → List D → Option (OV × List D)) : Prop where
  ex : ∃ fa fd ps, FnG P w K mg base CX0 k fa fd ps (spB K n f) ∧ mg x = some (.ref fa) ∧ PySem.W.keepIn K (.ref fa) = true ∧ Binds K fd ps []
theorem HasP.mono {P : Program} {w : World} {K : PySem.W.Frag} {mg : Str → Option Value} {base : Heap} {j k : Nat} {x : Str} {n : Nat} {f : List D → Option OV} (h : HasP P w K mg base j x n f) (hk : j ≤ k) : HasP P w K mg base k x n f := by
  obtain ⟨fa, fd, ps, F, h1, h2, h3⟩ := h.ex
  exact ⟨fa, fd, ps, F.mono hk, h1, h2, h3⟩
theorem HasB.mono {P : Program} {w : World} {K : PySem.W.Frag} {mg : Str → Option Value} {base : Heap} {j k : Nat} {x : Str} {n : Nat} {f : List D → List D → Option (OV × List D)} (h : HasB P w K mg base j x n f) (hk : j ≤ k) : HasB P w K mg base k x n f := by
  obtain ⟨fa, fd, ps, F, h1, h2, h3⟩ := h.ex
  exact ⟨fa, fd, ps, F.mono hk, h1, h2, h3⟩
/-- f(e, ..) by data -/
def callP (n : Nat) (f : List D → Option OV) (fs : List (En → Rs D)) : En → Rs OV := fun r => (evs fs r).bind fun ds r1 => if ds.length = n then ofO (f ds) r1 else .bad
/-- f(bag, e, ..), the bag in slot j -/
def callB (n : Nat) (f : List D → List D → Option (OV × List D)) (j : Nat) (fs : List (En → Rs D)) : En → Rs OV := fun r => (fill r j).bind fun _ r => (evs fs r).bind fun ds r1 => if ds.length = n then
  (ofO (((lookV r1 j).bind OV.lst?).bind fun bs => f bs ds) r1).bind fun z r1 => .ok z.1 (r1.set j (some (.ow z.2))) else .bad
section
variable {X : Cx} {g : G} {k n : Nat} {x : Str} {p pos : Pos} {e : Expr} {es : List Expr}
theorem do_callP {f : List D → Option OV} {fs : List (En → Rs D)} (h : HasP X.prog X.w X.K X.mg X.base k x n f) (hgd : X.A.guards = some []) (hr : Room k X.A) (ha : DA X g (e :: es) fs) (hg : Gl X x := by rfl)
    (hdb : (x == ("__debug__" : Str)) = false := by decide) (he : starEach (e :: es) X.env = (false, eval e X.env) :: starEach es X.env := by rfl) (hpl : (backTo pos (starEach es X.env)).any (·.1) = false := by rfl) : DO X g (.Call (.Name x p) (e :: es) [] pos) (callP n f fs) := by
  obtain ⟨fa, fd, ps, F, h1, h2, h3⟩ := h.ex
  refine PE.imp (pe_callG1 F hgd hr hg h1 h2 h3 pass0 ha hdb he hpl) fun s H Q ⟨Fz, r, R, q⟩ => ⟨Fz, r, R, post_mono (post_bind q) fun ds r1 q F1 H1 vs sm R1 hvs => ?_⟩
  obtain ⟨hn, q⟩ := post_if q
  obtain ⟨o, ef, q⟩ := post_ofO q
  refine ⟨F1, ds, o, R1.sub, hvs, hn, ef, fun F' H' v s1 s2 fr s3 hv => ?_⟩
  have fn : ∀ {a : Addr} {u : HO}, F1 a = none → H1 a = some u → F' a = none := fun {a u} z1 z2 => by
    cases z : F' a with
    | none => rfl
    | some o' => rw [fr a o' z z1] at z2; cases z2
  have R' : Rel X.K g F' H' s r1 := by
    refine ⟨s2, R1.f0.trans s1, fun b u e e0 => ?_, fun b u e hb ht => s3 _ _ (R1.keep b u e hb ht), fun i u e => ?_, R1.own, R1.dist, R1.pin, R1.len, R1.tb.call s1 s3 fr, fun q hq => ?_⟩
    · cases z : F1 b with
      | some u' => exact R1.fnew b u' z e0
      | none => exact R1.live (fr b u e z)
    · obtain ⟨w, a1, a2⟩ := R1.slot i u e
      exact ⟨w, a1, RO.mono s1 (fun a vs ew e2 e3 => ⟨fn e2 e3, s3 _ _ e3⟩) a2⟩
    · obtain ⟨x1, x2, x3⟩ := R1.ext q hq
      exact ⟨s3 _ _ x1, fn x2 x1, x3⟩
  refine q F' H' v (sm.trans s1) R' ?_
  cases o with
  | sh d => exact hv
  | ow xs =>
    obtain ⟨a, us, e1, e2, e3, e4, e5⟩ := hv
    exact ⟨a, us, e1, e2, e3, e4, R1.live e5, fun j o e eo => not_own R1 e5 j o e eo, fun q hq z => by have := (R1.ext q hq).1; rw [z, e5] at this; cases this⟩
  | od xs => exact hv.elim
  | oi c xs => exact hv.elim
  | th xs => exact hv.elim
  | exc c => exact hv.elim
/-- f(bag, e, ..): the bag is the list that slot j owns -/
theorem do_callB {f : List D → List D → Option (OV × List D)} {j : Nat} {y : Str} {yp : Pos} {fs : List (En → Rs D)} (h : HasB X.prog X.w X.K X.mg X.base k x n f) (hgd : X.A.guards = some []) (hr : Room k X.A) (hj : PE X (.Name y yp) (tVar j)) (ha : DA X g es fs)
    (hg : Gl X x := by rfl) (hst : starEach (.Name y yp :: es) X.env = (false, eval (.Name y yp) X.env) :: starEach es X.env := by rfl)
    (hdb : (x == ("__debug__" : Str)) = false := by decide) (hpl : (backTo pos (starEach es X.env)).any (·.1) = false := by rfl) : DO X g (.Call (.Name x p) (.Name y yp :: es) [] pos) (callB n f j fs) := by
  obtain ⟨fa, fd, ps, F, h1, h2, h3⟩ := h.ex
  refine PE.imp (pe_callG1 F hgd hr hg h1 h2 h3 pass0 (pa_cons hj ha hst) hdb hst hpl) fun s H Q ⟨Fz, r, R, q⟩ => ?_
  obtain ⟨⟨o, eo⟩, q⟩ := post_fill (post_bind q)
  obtain ⟨v, hv, _⟩ := R.slot j o eo
  refine ⟨v, hv, Fz, r, R, post_mono (post_bind q) fun ds r1 q F1 H1 vs sm R1 hvs => ?_⟩
  obtain ⟨hn, q⟩ := post_if q
  obtain ⟨⟨o, bs'⟩, ef, q⟩ := post_ofO (post_bind q)
  obtain ⟨bs, eb, ef⟩ := Option.bind_eq_some_iff.mp ef
  obtain ⟨ob, e1, e2⟩ := Option.bind_eq_some_iff.mp eb
  cases ob with
  | sh d => cases e2
  | ow xs =>
    cases e2
    have ej := lookV_some e1
    obtain ⟨v', hv', hb⟩ := R1.slot j _ ej
    rw [hv] at hv'
    cases hv'
    obtain ⟨a, vb, rfl, fa1, ha1, hb1⟩ := hb
    refine ⟨F1, a, bs, vb, vs, ds, o, bs', rfl, R1.sub, fa1, ha1, hb1, hvs, hn, ef, fun F' H' v vb' s1 s2 fr kp fa2 ha2 hb2 hv2 => ?_⟩
    have hj1 : j < r1.length := (List.getElem?_eq_some_iff.mp ej).1
    have fn : ∀ {c : Addr} {u : HO}, F1 c = none → H1 c = some u → F' c = none := fun {c u} z1 z2 => by
      cases z : F' c with
      | none => rfl
      | some o' => rw [fr c o' z z1] at z2; cases z2
    have ao : g.H0 a = none ∨ (j, a) ∈ g.B := R1.own j _ a ej rfl hv
    -- the slots behind the call
    have cs : ∀ (i : Nat) (u : OV), (r1.set j (some (.ow bs')))[i]? = some (some u) → (i = j ∧ u = .ow bs') ∨ (i ≠ j ∧ r1[i]? = some (some u)) := fun i u z => by
      by_cases hi : j = i
      · subst hi
        rw [List.getElem?_set_self hj1] at z
        cases z
        exact .inl ⟨rfl, rfl⟩
      · rw [List.getElem?_set_ne hi] at z
        exact .inr ⟨fun z => hi z.symm, z⟩
    have ow1 : ∀ (i : Nat) (u : OV), (r1.set j (some (.ow bs')))[i]? = some (some u) → u.own = true → ∃ u', r1[i]? = some (some u') ∧ u'.own = true := fun i u z zo => by
      rcases cs i u z with ⟨rfl, rfl⟩ | ⟨_, z'⟩
      · exact ⟨_, ej, rfl⟩
      · exact ⟨u, z', zo⟩
    have R' : Rel X.K g F' H' s (r1.set j (some (.ow bs'))) := by
      refine ⟨s2, R1.f0.trans s1, fun b u e e0 => ?_, fun b u e hb ht => ?_, fun i u e => ?_, fun i u b e eo eb => ?_, fun i i' u u' b hii e eo e' eo' => ?_, fun q hq => ?_, by rw [List.length_set]; exact R1.len, R1.tb.callA s1 kp fr (R1.tb.tno ao), fun q hq => ?_⟩
      · cases z : F1 b with
        | some u' => exact R1.fnew b u' z e0
        | none => exact R1.live (fr b u e z)
      · refine kp _ _ (R1.keep b u e hb ht) fun z => ?_
        subst z
        rcases ao with z | z
        · rw [z] at e; cases e
        · exact hb _ z rfl
      · rcases cs i u e with ⟨rfl, rfl⟩ | ⟨hi, e⟩
        · exact ⟨_, hv, a, vb', rfl, fa2, ha2, hb2⟩
        · obtain ⟨w, a1, a2⟩ := R1.slot i u e
          refine ⟨w, a1, ?_⟩
          cases u with
          | sh d => exact RD.mono s1 d a2
          | ow ys =>
            obtain ⟨c, ws, rfl, c2, c3, c4⟩ := a2
            exact ⟨c, ws, rfl, fn c2 c3, kp _ _ c3 fun z => R1.dist i j _ _ a hi e rfl ej rfl (by rw [a1, z]) hv, RDs.mono s1 ys c4⟩
          | od ys =>
            obtain ⟨c, ws, rfl, c2, c3, c4⟩ := a2
            exact ⟨c, ws, rfl, fn c2 c3, kp _ _ c3 fun z => R1.dist i j _ _ a hi e rfl ej rfl (by rw [a1, z]) hv, RDm.mono s1 ys c4⟩
          | oi c ys =>
            obtain ⟨c, ws, rfl, c2, c3, c4⟩ := a2
            exact ⟨c, ws, rfl, fn c2 c3, kp _ _ c3 fun z => R1.dist i j _ _ a hi e rfl ej rfl (by rw [a1, z]) hv, RDi.mono s1 ys c4⟩
          | th ys =>
            obtain ⟨c, ws, rfl, c2, c3, c4⟩ := a2
            exact ⟨c, ws, rfl, fn c2 c3, kp _ _ c3 fun z => R1.dist i j _ _ a hi e rfl ej rfl (by rw [a1, z]) hv, RT.mono s1 ys c4⟩
          | exc c => exact RE.mono s1 a2
      · obtain ⟨u', e', eo'⟩ := ow1 i u e eo
        exact R1.own i u' b e' eo' eb
      · obtain ⟨w, f1, f2⟩ := ow1 i u e eo
        obtain ⟨w', f1', f2'⟩ := ow1 i' u' e' eo'
        exact R1.dist i i' w w' b hii f1 f2 f1' f2'
      · obtain ⟨p1, u, p2, p3⟩ := R1.pin q hq
        refine ⟨p1, ?_⟩
        by_cases hi : j = q.1
        · exact ⟨.ow bs', by rw [← hi]; exact List.getElem?_set_self hj1, rfl⟩
        · exact ⟨u, by rw [List.getElem?_set_ne hi]; exact p2, p3⟩
      · obtain ⟨x1, x2, x3⟩ := R1.ext q hq
        refine ⟨kp _ _ x1 fun z => x3 j _ ej rfl (by rw [hv, z]), fn x2 x1, fun i u e eo => ?_⟩
        obtain ⟨u', e', eo'⟩ := ow1 i u e eo
        exact x3 i u' e' eo'
    refine q F' H' v (sm.trans s1) R' ?_
    cases o with
    | sh d => exact hv2
    | ow xs =>
      obtain ⟨c, us, d1, d2, d3, d4, d5⟩ := hv2
      refine ⟨c, us, d1, d2, d3, d4, R1.live d5, fun i u e eo => ?_, fun q hq z => by have := (R1.ext q hq).1; rw [z, d5] at this; cases this⟩
      obtain ⟨u', e', eo'⟩ := ow1 i u e eo
      exact not_own R1 d5 i u' e' eo'
    | od xs => exact hv2.elim
    | oi c xs => exact hv2.elim
    | th xs => exact hv2.elim
    | exc c => exact hv2.elim
  | od xs => cases e2
  | oi c xs => cases e2
  | th xs => cases e2
  | exc c => cases e2
/-- a name handed out: what it owned goes along -/
def mvD (i : Nat) : En → Rs OV := fun r => match lookV r i with
  | some (.sh d) => .ok (.sh d) r
  | some (.ow xs) => .ok (.ow xs) (r.set i none)
  | _ => .bad
theorem do_var (i : Nat) (hb : ∀ p ∈ g.B, p.1 ≠ i) (h : PE X (.Name x p) (tVar i)) : DO X g (.Name x p) (mvD i) := by
  refine PE.imp h fun s H Q ⟨F, r, R, q⟩ => ?_
  unfold mvD at q
  revert q
  cases e : lookV r i with
  | none => exact fun q => q.elim
  | some o =>
    have e := lookV_some e
    obtain ⟨v, h1, h2⟩ := R.slot i o e
    cases o with
    | sh d => exact fun q => ⟨v, h1, q F H v (Same.refl _) R h2⟩
    | ow xs =>
      intro q
      obtain ⟨a, vs, rfl, e2, e3, e4⟩ := h2
      have ew : r.set i none = wipeE r [i] := rfl
      have h0 : g.H0 a = none := by
        rcases R.own i _ a e rfl h1 with z | z
        · exact z
        · exact absurd rfl (hb _ z)
      have R' : Rel X.K g F H s (wipeE r [i]) := R.forget (fun p hp z => hb p hp (List.mem_singleton.mp z)) rfl fun _ _ => rfl
      refine ⟨_, h1, q F H (.ref a) (Same.refl _) R' ⟨a, vs, rfl, e2, e3, e4, h0, fun j o ej eo z => ?_, fun p hp z => ?_⟩⟩
      · have ej : (wipeE r [i])[j]? = some (some o) := ej
        obtain ⟨e5, e6⟩ := wipeE_some ej
        exact R.dist i j _ _ a (fun z => e6 (List.mem_singleton.mpr z.symm)) e rfl e5 eo h1 z
      · exact (R.ext p hp).2.2 i _ e rfl (by rw [h1, z])
    | od xs => exact fun q => q.elim
    | oi c xs => exact fun q => q.elim
    | th xs => exact fun q => q.elim
    | exc c => exact fun q => q.elim
end

/-! ### the law's own call -/
/-- the base has the table of modules: what is made stands elsewhere -/
def SysAt (base : Heap) : Prop := ∃ o, base.get? sysModules = some o
theorem law_callG {P : Program} {w : World} {K : PySem.W.Frag} {mg mb : Str → Option Value} {k : Nat} {fa a : Addr} {fd : FuncData} {x : Str} {sp : Sp} {s : Shared} {us : List Value} {ns : List Int}
    (inK : K.In s.heap) (hns : s.heap.Ns mainGlobals mg) (hbn : s.heap.Ns builtinsNs mb) (hbb : ∀ x : Str, x ≠ "__name__" → mb x = bootBuiltins x) (lim : s.heap.NoLimit) (hsys : ∃ mm, s.heap.Ns sysModules mm) (gens : s.gens = #[])
    (at_a : s.heap.get? a = some { cls := .type "list", data := .seq us.toArray }) (hints : PyProof.Rows.IntsAre us ns) (short : ns.length ≤ sizeLine) (room : Room k callerA)
    (F : ∀ base : Heap, K.In base → base.Ns mainGlobals mg → SysAt base → FnG P w K mg base CX0 k fa fd [x] sp) (bind : ∀ (s : Shared) (u : Value), BindsTo s fd ⟨[u], []⟩ [(x, u)])
    (hsp : ∀ H : Hp, Only H → SqL K H a (ns.map V.int) → sp [.ref a] H (fun v _ => v = .bl true) fun _ _ _ => False) :
    codeAny (model P w) callerA (.call (.ref fa) ⟨[.ref a], []⟩) (fun r s' => r = .ok (.ret (.bool true)) ∧ OldK s.heap s'.heap ∧ s'.os = s.os ∧ PyProof.Rows.AllBare s'.gens) s := by
  have main : ∀ H : Hp, Only H → SqL K H a (ns.map V.int) → HOk P w H s.heap → (∀ b, H b ≠ none → b = a) → (H a ≠ none → K.lookup a = none) →
      codeAny (model P w) callerA (.call (.ref fa) ⟨[.ref a], []⟩) (fun r s' => r = .ok (.ret (.bool true)) ∧ OldK s.heap s'.heap ∧ s'.os = s.os ∧ PyProof.Rows.AllBare s'.gens) s := by
    intro H only sq ok sole notK
    have hid : ∀ {b : Addr} {o : Obj}, s.heap.get? b = some o → H b = none → (hidT s.heap H).get? b = some o := fun z1 z2 => hidT_get z1 z2
    have dicts : ∀ {b : Addr} {o : Obj} {es : Array DictEntry} {ep : Nat}, s.heap.get? b = some o → o.data = .dict es ep → H b = none := by
      intro b o es ep z1 z2
      cases hz : H b with
      | none => rfl
      | some u =>
        have zb := sole b (by rw [hz]; exact Option.some_ne_none _)
        subst zb
        rw [at_a] at z1
        cases z1
        have z3 : Data.seq us.toArray _ = Data.dict es ep := z2
        cases z3
    have nsH : ∀ {b : Addr} {m : Str → Option Value}, s.heap.Ns b m → (hidT s.heap H).Ns b m := by
      rintro b m ⟨o, es, ep, z1, z2, z3⟩
      exact ⟨o, es, ep, hid z1 (dicts z1 z2), z2, z3⟩
    have inB : K.In (hidT s.heap H) := by
      intro b o z1
      refine hid (inK b o z1) ?_
      cases hz : H b with
      | none => rfl
      | some u =>
        have zb := sole b (by rw [hz]; exact Option.some_ne_none _)
        subst zb
        rw [notK (by rw [hz]; exact Option.some_ne_none _)] at z1
        cases z1
    have modl : Mod K mg (hidT s.heap H) := by
      obtain ⟨mc, l1, l2⟩ := lim
      exact ⟨inB, nsH hns, ⟨mb, nsH hbn, hbb⟩, ⟨mc, nsH l1, l2⟩⟩
    have en : Env0 P w K mg (hidT s.heap H) callerA [] s H := ⟨rfl, modl, fun b o z => of_hidT z, Nat.le_of_eq (hidT_size _ _), trivial, fun b z => absurd (show b ∈ ([] : List Addr) from z) List.not_mem_nil, ok, .of_eq gens⟩
    have sysB : SysAt (hidT s.heap H) := by
      obtain ⟨mm, hm⟩ := hsys
      obtain ⟨o, es, ep, z1, _⟩ := nsH hm
      exact ⟨o, z1⟩
    refine codeAny_mono ((F _ inB (nsH hns) sysB).run callerA [] s H ⟨[.ref a], []⟩ [.ref a] [.ref a] _ _ rfl room en (bind s (.ref a)) (.cons rfl .nil) (hsp H only sq)) ?_
    intro res s2 h2
    cases res with
    | error er => cases h2
    | ok fl =>
      cases fl with
      | next => cases h2
      | brk => cases h2
      | cont => cases h2
      | ret u =>
        obtain ⟨v, H2, os2, bare2, un2, ok2, rv, hv⟩ := h2
        have hv : v = .bl true := hv
        subst hv
        obtain rfl : u = Value.bool true := rv
        refine ⟨rfl, OldK.of_keep ?_, os2, bare2⟩
        intro b o z1
        cases hz : H b with
        | none => exact un2.keep b o z1 hz (fun z => absurd (show b ∈ ([] : List Addr) from z) List.not_mem_nil) (by simp)
        | some u =>
          cases only b with
          | inl z => rw [hz] at z; cases z
          | inr z =>
            obtain ⟨ob, xs, z⟩ := z
            have kept := (ok2 b _ (un2.frzs b ob _ z)).1
            have was := (ok b _ z).1
            rw [z1] at was
            cases was
            exact kept
  have rel := vals_ints hints
  cases look : K.lookup a with
  | some o =>
    have z := inK a o look
    rw [at_a] at z
    cases z
    exact main (fun _ => none) (fun _ => .inl rfl) (.inr ⟨_, us.toArray, _, look, rfl, rfl, rfl, by rw [List.size_toArray, hints.length]; exact short, by simpa using rel⟩) (fun b u z => nomatch (show (none : Option HO) = some u from z)) (fun b z => absurd rfl z) fun z => absurd rfl z
  | none =>
    let u0 : HO := .frz { cls := .type "list", data := .seq us.toArray } (.lst (ns.map V.int))
    have h1 : (fun b => if b = a then some u0 else none : Hp) a = some u0 := if_pos rfl
    have h2 : ∀ b, b ≠ a → (fun b => if b = a then some u0 else none : Hp) b = none := fun b hb => if_neg hb
    refine main (fun b => if b = a then some u0 else none) (fun b => ?_) (.inl (.inr ⟨_, h1⟩)) (fun b u z => ?_) (fun b z => Classical.byContradiction fun hb => z (h2 b hb)) fun _ => look
    · by_cases hb : b = a
      · subst hb; exact .inr ⟨_, _, h1⟩
      · exact .inl (h2 b hb)
    · by_cases hb : b = a
      · subst hb
        have z := h1.symm.trans z
        cases z
        exact ⟨at_a, by rw [List.length_map]; exact short, us, _, rel, at_a⟩
      · have z := (h2 b hb).symm.trans z
        cases z
end DL

/-! Data layer, part 6: operators, built-ins and methods by data. -/
namespace DL
open PySem L2

/-! ### data as the library's data; equality -/
mutual
def D.py : D → PyData
  | .non => .none
  | .bl b => .bool b
  | .int i => .int i
  | .str x => .str x
  | .lst xs => .list (pys xs)
  | .tup xs => .tuple (pys xs)
  | .dic kvs => .dict (pyk kvs)
  | .scr ns => .list (ns.map PyData.int)
  | .obj _ _ => .none
def pys : List D → List PyData
  | [] => []
  | d :: ds => d.py :: pys ds
def pyk : List (Key × D) → List (PyData × PyData)
  | [] => []
  | (k, d) :: ds => ((match k with | .inl i => .int i | .inr x => .str x), d.py) :: pyk ds
end
/-! plain: no dict, no script, texts of code points -/
mutual
def D.pl : D → Bool
  | .non => true
  | .bl _ => true
  | .int _ => true
  | .str x => x.cps.all (· < 1114112)
  | .lst xs => plAll xs
  | .tup xs => plAll xs
  | .dic _ => false
  | .scr _ => false
  | .obj _ _ => false
def plAll : List D → Bool
  | [] => true
  | d :: ds => d.pl && plAll ds
end
mutual
def D.dp : D → Nat
  | .lst xs => dpAll xs + 1
  | .tup xs => dpAll xs + 1
  | _ => 0
def dpAll : List D → Nat
  | [] => 0
  | d :: ds => max d.dp (dpAll ds)
end
mutual
def D.eqv : D → D → Bool
  | .non, .non => true
  | .bl a, .bl b => a == b
  | .bl a, .int j => (if a then 1 else 0) == j
  | .int i, .bl b => i == (if b then 1 else 0)
  | .int i, .int j => i == j
  | .str x, .str y => x == y
  | .lst xs, .lst ys => eqvAll xs ys
  | .tup xs, .tup ys => eqvAll xs ys
  | _, _ => false
def eqvAll : List D → List D → Bool
  | [], [] => true
  | x :: xs, y :: ys => x.eqv y && eqvAll xs ys
  | _, _ => false
end
/-- may be compared at any depth -/
def D.fit (d : D) : Bool := d.pl && decide (d.dp ≤ 64)
mutual
theorem py_lay : ∀ d : D, d.pl = true → d.py.canLay0 = true
  | .non, _ => rfl
  | .bl _, _ => rfl
  | .int _, _ => rfl
  | .str x, h => by
    exact h
  | .lst xs, h => by
    have h : plAll xs = true := h
    show PyData.canLayAll0 (pys xs) = true
    exact pys_lay xs h
  | .tup xs, h => by
    have h : plAll xs = true := h
    show PyData.canLayAll0 (pys xs) = true
    exact pys_lay xs h
  | .dic _, h => by cases h
  | .scr _, h => by cases h
  | .obj _ _, h => by cases h
theorem pys_lay : ∀ ds : List D, plAll ds = true → PyData.canLayAll0 (pys ds) = true
  | [], _ => rfl
  | d :: ds, h => by
    have h : (d.pl && plAll ds) = true := h
    obtain ⟨h1, h2⟩ := Bool.and_eq_true_iff.mp h
    show (d.py.canLay0 && PyData.canLayAll0 (pys ds)) = true
    rw [py_lay d h1, pys_lay ds h2]; rfl
end
mutual
theorem py_depth : ∀ d : D, d.pl = true → d.py.depth = d.dp
  | .non, _ => rfl
  | .bl _, _ => rfl
  | .int _, _ => rfl
  | .str x, h => rfl
  | .lst xs, h => by
    have h : plAll xs = true := h
    show PyData.depthAll (pys xs) + 1 = dpAll xs + 1
    rw [pys_depth xs h]
  | .tup xs, h => by
    have h : plAll xs = true := h
    show PyData.depthAll (pys xs) + 1 = dpAll xs + 1
    rw [pys_depth xs h]
  | .dic _, h => by cases h
  | .scr _, h => by cases h
  | .obj _ _, h => by cases h
theorem pys_depth : ∀ ds : List D, plAll ds = true → PyData.depthAll (pys ds) = dpAll ds
  | [], _ => rfl
  | d :: ds, h => by
    have h : (d.pl && plAll ds) = true := h
    obtain ⟨h1, h2⟩ := Bool.and_eq_true_iff.mp h
    show max d.py.depth (PyData.depthAll (pys ds)) = max d.dp (dpAll ds)
    rw [py_depth d h1, pys_depth ds h2]
end
theorem fit_shaped {d : D} (h : d.fit = true) : SeqAt.shaped d.py = true := by
  obtain ⟨h1, h2⟩ := Bool.and_eq_true_iff.mp h
  have h2 := of_decide_eq_true h2
  unfold SeqAt.shaped
  rw [py_lay d h1, py_depth d h1, decide_eq_true h2]; rfl
mutual
theorem py_eqv : ∀ d e : D, d.pl = true → e.pl = true → PyData.eqv d.py e.py = d.eqv e
  | .non, e, _, he => by cases e <;> first | rfl | cases he
  | .bl a, e, _, he => by cases e <;> first | rfl | cases he
  | .int a, e, _, he => by cases e <;> first | rfl | cases he
  | .str a, e, _, he => by cases e <;> first | rfl | cases he
  | .lst xs, e, h, he => by
    cases e with
    | lst ys =>
      have h : plAll xs = true := h
      have he : plAll ys = true := he
      show PyData.eqvAll (pys xs) (pys ys) = eqvAll xs ys
      exact pys_eqv xs ys h he
    | non => rfl
    | bl _ => rfl
    | int _ => rfl
    | str _ => rfl
    | tup _ => rfl
    | dic _ => cases he
    | scr _ => cases he
    | obj _ _ => cases he
  | .tup xs, e, h, he => by
    cases e with
    | tup ys =>
      have h : plAll xs = true := h
      have he : plAll ys = true := he
      show PyData.eqvAll (pys xs) (pys ys) = eqvAll xs ys
      exact pys_eqv xs ys h he
    | non => rfl
    | bl _ => rfl
    | int _ => rfl
    | str _ => rfl
    | lst _ => rfl
    | dic _ => cases he
    | scr _ => cases he
    | obj _ _ => cases he
  | .dic _, _, h, _ => by cases h
  | .scr _, _, h, _ => by cases h
  | .obj _ _, _, h, _ => by cases h
theorem pys_eqv : ∀ ds es : List D, plAll ds = true → plAll es = true → PyData.eqvAll (pys ds) (pys es) = eqvAll ds es
  | [], [], _, _ => rfl
  | [], _ :: _, _, _ => rfl
  | _ :: _, [], _, _ => rfl
  | d :: ds, e :: es, h, h' => by
    have h : (d.pl && plAll ds) = true := h
    have h' : (e.pl && plAll es) = true := h'
    obtain ⟨h1, h2⟩ := Bool.and_eq_true_iff.mp h
    obtain ⟨h3, h4⟩ := Bool.and_eq_true_iff.mp h'
    show (PyData.eqv d.py e.py && PyData.eqvAll (pys ds) (pys es)) = (d.eqv e && eqvAll ds es)
    rw [py_eqv d e h1 h3, pys_eqv ds es h2 h4]
end
section
variable {X : Cx} {pins : List (Addr × Obj)} {s : Shared} {F H : Hp} {sg : St}
mutual
theorem RD.reads (I : Inv X pins sg H s) : ∀ (d : D) (v : V) (u : Value), d.pl = true → RD X.K H v d → RelV v u → ∃ as, Reads s.heap u d.py as
  | .non, _, _, _, h, r => by cases h; cases r; exact ⟨_, Reads.none⟩
  | .bl b, _, _, _, h, r => by cases h; cases r; exact ⟨_, Reads.bool b⟩
  | .int i, _, _, _, h, r => by cases h; obtain ⟨t, rfl⟩ := r; exact ⟨_, Reads.int i t⟩
  | .str x, _, _, _, h, r => by cases h; obtain ⟨t, rfl⟩ := r; exact ⟨_, Reads.str x t⟩
  | .lst ds, _, _, hp, h, r => by
    have hp : plAll ds = true := hp
    cases h with
    | lst hs ha =>
      cases r
      obtain ⟨its, rv, ⟨o, n, ho, hc, _, hd⟩, _⟩ := I.list (SqL.of hs)
      obtain ⟨as, hr⟩ := RDs.reads I ds _ its hp ha rv
      exact ⟨_, Reads.list ho hc hd hr⟩
  | .tup ds, _, _, hp, h, r => by
    have hp : plAll ds = true := hp
    cases h with
    | tup hs ha =>
      cases r
      obtain ⟨its, rv, ⟨o, ho, hc, n, hd⟩, _⟩ := I.tuple hs
      obtain ⟨as, hr⟩ := RDs.reads I ds _ its hp ha rv
      exact ⟨_, Reads.tuple ho hc hd hr⟩
  | .dic _, _, _, hp, _, _ => by cases hp
  | .scr _, _, _, hp, _, _ => by cases hp
  | .obj _ _, _, _, hp, _, _ => by cases hp
theorem RDs.reads (I : Inv X pins sg H s) : ∀ (ds : List D) (vs : List V) (us : List Value), plAll ds = true → RDs X.K H vs ds → Vals vs us → ∃ as, ReadsAll s.heap us (pys ds) as
  | [], _, _, _, h, r => by cases h; cases r; exact ⟨_, ReadsAll.nil⟩
  | d :: ds, _, _, hp, h, r => by
    have hp : (d.pl && plAll ds) = true := hp
    obtain ⟨h1, h2⟩ := Bool.and_eq_true_iff.mp hp
    cases h with
    | cons a1 a2 =>
      cases r with
      | cons r1 r2 =>
        obtain ⟨as, q1⟩ := RD.reads I d _ _ h1 a1 r1
        obtain ⟨bs, q2⟩ := RDs.reads I ds _ _ h2 a2 r2
        exact ⟨_, ReadsAll.cons q1 q2⟩
end
end

/-- scalars are compared whatever their size -/
def D.sc : D → D → Option Bool
  | .int i, .int j => some (decide (i = j))
  | .str i, .str j => some (decide (i = j))
  | .bl i, .bl j => some (decide (i = j))
  | _, _ => none
/-- by the lengths alone, whatever is in them -/
def lenB : D → D → Option Bool
  | .lst xs, .lst ys => if xs.length = ys.length then none else some false
  | .tup xs, .tup [] => some xs.isEmpty
  | .tup (.str x :: xs), .tup [.str y] => some (decide (x = y) && xs.isEmpty)
  | _, _ => none
def eqB (d e : D) : Option Bool := match D.sc d e with
  | some b => some b
  | none => if d.fit && e.fit then some (d.eqv e) else lenB d e
def semEq (d e : D) : Option D := (eqB d e).map D.bl
def semNe (d e : D) : Option D := (eqB d e).map fun b => D.bl (!b)
def D.seq : D → Option (List D)
  | .lst xs => some xs
  | .tup xs => some xs
  | _ => none
def inB (d e : D) : Option Bool := match d, e with
  | .str x, .str y => some (!(Builtin.Str.occurrences y x 0 y.length 1).isEmpty)
  | d, e => match e.seq with
    | some ds => if d.fit && e.fit then some (ds.any fun z => z.eqv d) else none
    | none => none
def semIn (d e : D) : Option D := (inB d e).map D.bl
def semNotIn (d e : D) : Option D := (inB d e).map fun b => D.bl (!b)

section
variable {X : Cx} {g : G}
theorem sc_some {d e : D} {b : Bool} (h : D.sc d e = some b) : (∃ i j, d = .int i ∧ e = .int j ∧ b = decide (i = j)) ∨ (∃ i j, d = .str i ∧ e = .str j ∧ b = decide (i = j)) ∨ ∃ i j, d = .bl i ∧ e = .bl j ∧ b = decide (i = j) := by
  unfold D.sc at h
  split at h
  · cases h; exact .inl ⟨_, _, rfl, rfl, rfl⟩
  · cases h; exact .inr (.inl ⟨_, _, rfl, rfl, rfl⟩)
  · cases h; exact .inr (.inr ⟨_, _, rfl, rfl, rfl⟩)
  · cases h
theorem RB.tup {K : PySem.W.Frag} {F H : Hp} {v : V} {ds : List D} (sub : Same F H) (h : RB K F H v (.tup ds)) : ∃ a vs, v = .ref a ∧ SqT K H a vs ∧ SqT K F a vs ∧ RDs K F vs ds := by
  cases h.flat (fun _ => nofun) with
  | tup h1 h2 => exact ⟨_, _, rfl, same_sqT sub h1, h1, h2⟩
theorem opd_eq (hu : X.A.units + 64 < cLine) : OpR X (compareOp .Eq) (rD2 X.K g semEq) := by
  intro pins s sg H x y v u Q I rx ry h
  obtain ⟨F, s0, r, dx, dy, d, R, hx, hy, e, q⟩ := h
  obtain ⟨b, eb, rfl⟩ := Option.map_eq_some_iff.mp e
  clear e
  have e := eb
  unfold eqB at e
  split at e
  · next b' es =>
    cases e
    rcases sc_some es with ⟨i, j, rfl, rfl, rfl⟩ | ⟨i, j, rfl, rfl, rfl⟩ | ⟨i, j, rfl, rfl, rfl⟩
    · cases hx.flat (fun _ => nofun); cases hy.flat (fun _ => nofun)
      refine op_eq pins s sg H _ _ v u Q I rx ry ⟨rfl, ?_⟩
      have := q F H (.bl (decide (i = j))) (Same.refl _) R (.bl _)
      simpa using this
    · cases hx.flat (fun _ => nofun); cases hy.flat (fun _ => nofun)
      refine op_eq pins s sg H _ _ v u Q I rx ry ⟨rfl, ?_⟩
      have := q F H (.bl (decide (i = j))) (Same.refl _) R (.bl _)
      simpa using this
    · cases hx.flat (fun _ => nofun); cases hy.flat (fun _ => nofun)
      refine op_eq pins s sg H _ _ v u Q I rx ry ⟨rfl, ?_⟩
      have := q F H (.bl (decide (i = j))) (Same.refl _) R (.bl _)
      simpa using this
  · split at e
    · next hf =>
      cases e
      obtain ⟨f1, f2⟩ := Bool.and_eq_true_iff.mp hf
      have p1 := (Bool.and_eq_true_iff.mp f1).1
      have p2 := (Bool.and_eq_true_iff.mp f2).1
      obtain ⟨as, r1⟩ := RD.reads I dx x v p1 (hx.rd R.sub) rx
      obtain ⟨bs, r2⟩ := RD.reads I dy y u p2 (hy.rd R.sub) ry
      refine SeqAt.compareEq_shaped r1 r2 (fit_shaped f1) (fit_shaped f2) hu ⟨.bl _, H, I, rfl, ?_⟩
      rw [py_eqv dx dy p1 p2]
      exact q F H _ (Same.refl _) R (.bl _)
    · unfold lenB at e
      split at e
      · next xs ys =>
        split at e
        · cases e
        · next hne =>
          cases e
          obtain ⟨a, vs, rfl, h1, h2⟩ := hx.lst R.sub
          obtain ⟨b, ws, rfl, h3, h4⟩ := hy.lst R.sub
          cases rx
          cases ry
          obtain ⟨its, rv, pl, _⟩ := I.list (SqL.of h1)
          obtain ⟨its2, rv2, pl2, _⟩ := I.list (SqL.of h3)
          refine SeqAt.RcAt.lists_lengths pl.isList pl2.isList ?_ (by omega) X.prog X.w X.xe _ ⟨.bl false, H, I, rfl, q F H _ (Same.refl _) R (.bl _)⟩
          have z1 := rv.length
          have z2 := rv2.length
          have z3 := h2.length
          have z4 := h4.length
          simp only [List.size_toArray, bne_iff_ne, ne_eq]
          omega
      · next xs _ _ =>
        cases e
        obtain ⟨a, vs, rfl, h1, _, h2⟩ := hx.tup R.sub
        obtain ⟨b, ws, rfl, h3, _, h4⟩ := hy.tup R.sub
        cases rx
        cases ry
        obtain ⟨its, rv, pl, _⟩ := I.tuple h1
        obtain ⟨its2, rv2, pl2, _⟩ := I.tuple h3
        have z1 := rv.length
        have z2 := rv2.length
        have z3 := h2.length
        have z4 := h4.length
        have hz : its2 = [] := List.eq_nil_of_length_eq_zero (by rw [← z2, z4]; rfl)
        subst hz
        have hb : ((List.range (min its.toArray.size (List.toArray ([] : List Value)).size)).all (fun _ => true) && its.toArray.size == (List.toArray ([] : List Value)).size) = xs.isEmpty := by
          simp only [List.size_toArray, List.length_nil, Nat.min_zero, List.range_zero, List.all_nil, Bool.true_and]
          have z5 : its.length = xs.length := by rw [← z1, z3]
          rw [z5]
          cases xs with
          | nil => rfl
          | cons x xs => rfl
        have := SeqAt.RcAt.tuples (A := X.A) (s := s) (e := fun _ => true) pl pl2 (by omega) (fun j _ h => absurd h (by simp))
        rw [hb] at this
        exact this X.prog X.w X.xe _ ⟨.bl _, H, I, rfl, q F H _ (Same.refl _) R (.bl _)⟩
      · next x xs y _ _ =>
        cases e
        obtain ⟨a, vs, rfl, h1, _, h2⟩ := hx.tup R.sub
        obtain ⟨b, ws, rfl, h3, _, h4⟩ := hy.tup R.sub
        cases rx
        cases ry
        obtain ⟨its, rv, pl, _⟩ := I.tuple h1
        obtain ⟨its2, rv2, pl2, _⟩ := I.tuple h3
        cases h2 with
        | cons a1 a2 =>
        cases h4 with
        | cons a3 a4 =>
        cases a1; cases a3; cases a4
        cases rv with
        | cons r1 r2 =>
        cases rv2 with
        | cons r3 r4 =>
        obtain ⟨t1, rfl⟩ := r1
        obtain ⟨t2, rfl⟩ := r3
        cases r4
        have z1 := r2.length
        have z3 := a2.length
        rename_i its _ _
        have hb : ∀ (v u : Value) (its : List Value), its.length = xs.length → ((List.range (min (v :: its).toArray.size [u].toArray.size)).all (fun _ => decide (x = y)) && (v :: its).toArray.size == [u].toArray.size) = (decide (x = y) && xs.isEmpty) := by
          intro v u its z5
          have hm : min (its.length + 1) 1 = 1 := by omega
          simp only [List.size_toArray, List.length_cons, List.length_nil, Nat.zero_add, hm, z5]
          cases xs with
          | nil => simp [List.range, List.range.loop]
          | cons x xs => simp [List.range, List.range.loop]
        have := SeqAt.RcAt.tuples (A := X.A) (s := s) (e := fun _ => decide (x = y)) pl pl2 (by omega) (fun j _ h => by
          have : j = 0 := by simp at h; omega
          subst this
          exact SeqAt.EqAt.str_str _ _ _ _)
        rw [hb _ _ _ (by omega)] at this
        exact this X.prog X.w X.xe _ ⟨.bl _, H, I, rfl, q F H _ (Same.refl _) R (.bl _)⟩
      · cases e
theorem opd_ne (hu : X.A.units + 64 < cLine) : OpR X (compareOp .NotEq) (rD2 X.K g semNe) := by
  intro pins s sg H x y v u Q I rx ry h
  obtain ⟨F, s0, r, dx, dy, d, R, hx, hy, e, q⟩ := h
  obtain ⟨b, eb, rfl⟩ := Option.map_eq_some_iff.mp e
  clear e
  have e := eb
  unfold eqB at e
  split at e
  · next b' es =>
    cases e
    rcases sc_some es with ⟨i, j, rfl, rfl, rfl⟩ | ⟨i, j, rfl, rfl, rfl⟩ | ⟨i, j, rfl, rfl, rfl⟩
    · cases hx.flat (fun _ => nofun); cases hy.flat (fun _ => nofun)
      refine op_ne pins s sg H _ _ v u Q I rx ry ⟨rfl, ?_⟩
      have := q F H (.bl (!decide (i = j))) (Same.refl _) R (.bl _)
      simpa using this
    · cases hx.flat (fun _ => nofun); cases hy.flat (fun _ => nofun)
      refine op_ne pins s sg H _ _ v u Q I rx ry ⟨rfl, ?_⟩
      have := q F H (.bl (!decide (i = j))) (Same.refl _) R (.bl _)
      simpa using this
    · cases hx.flat (fun _ => nofun); cases hy.flat (fun _ => nofun)
      refine op_ne pins s sg H _ _ v u Q I rx ry ⟨rfl, ?_⟩
      have := q F H (.bl (!decide (i = j))) (Same.refl _) R (.bl _)
      simpa using this
  · split at e
    · next hf =>
      cases e
      obtain ⟨f1, f2⟩ := Bool.and_eq_true_iff.mp hf
      have p1 := (Bool.and_eq_true_iff.mp f1).1
      have p2 := (Bool.and_eq_true_iff.mp f2).1
      obtain ⟨as, r1⟩ := RD.reads I dx x v p1 (hx.rd R.sub) rx
      obtain ⟨bs, r2⟩ := RD.reads I dy y u p2 (hy.rd R.sub) ry
      refine SeqAt.compareNe_shaped r1 r2 (fit_shaped f1) (fit_shaped f2) hu ⟨.bl _, H, I, rfl, ?_⟩
      rw [py_eqv dx dy p1 p2]
      exact q F H _ (Same.refl _) R (.bl _)
    · unfold lenB at e
      split at e
      · next xs ys =>
        split at e
        · cases e
        · next hne =>
          cases e
          obtain ⟨a, vs, rfl, h1, h2⟩ := hx.lst R.sub
          obtain ⟨b, ws, rfl, h3, h4⟩ := hy.lst R.sub
          cases rx
          cases ry
          obtain ⟨its, rv, pl, _⟩ := I.list (SqL.of h1)
          obtain ⟨its2, rv2, pl2, _⟩ := I.list (SqL.of h3)
          refine SeqAt.RcNeAt.lists_lengths pl.isList pl2.isList ?_ (by omega) X.prog X.w X.xe _ ⟨.bl true, H, I, rfl, q F H _ (Same.refl _) R (.bl _)⟩
          have z1 := rv.length
          have z2 := rv2.length
          have z3 := h2.length
          have z4 := h4.length
          simp only [List.size_toArray, bne_iff_ne, ne_eq]
          omega
      · next xs _ _ =>
        cases e
        obtain ⟨a, vs, rfl, h1, _, h2⟩ := hx.tup R.sub
        obtain ⟨b, ws, rfl, h3, _, h4⟩ := hy.tup R.sub
        cases rx
        cases ry
        obtain ⟨its, rv, pl, _⟩ := I.tuple h1
        obtain ⟨its2, rv2, pl2, _⟩ := I.tuple h3
        have z1 := rv.length
        have z2 := rv2.length
        have z3 := h2.length
        have z4 := h4.length
        have hz : its2 = [] := List.eq_nil_of_length_eq_zero (by rw [← z2, z4]; rfl)
        subst hz
        have hb : ((List.range (min its.toArray.size (List.toArray ([] : List Value)).size)).all (fun _ => true) && its.toArray.size == (List.toArray ([] : List Value)).size) = xs.isEmpty := by
          simp only [List.size_toArray, List.length_nil, Nat.min_zero, List.range_zero, List.all_nil, Bool.true_and]
          have z5 : its.length = xs.length := by rw [← z1, z3]
          rw [z5]
          cases xs with
          | nil => rfl
          | cons x xs => rfl
        have := SeqAt.RcNeAt.tuples (A := X.A) (s := s) (e := fun _ => true) pl pl2 (by omega) (fun j _ h => absurd h (by simp))
        rw [hb] at this
        exact this X.prog X.w X.xe _ ⟨.bl _, H, I, rfl, q F H _ (Same.refl _) R (.bl _)⟩
      · next x xs y _ _ =>
        cases e
        obtain ⟨a, vs, rfl, h1, _, h2⟩ := hx.tup R.sub
        obtain ⟨b, ws, rfl, h3, _, h4⟩ := hy.tup R.sub
        cases rx
        cases ry
        obtain ⟨its, rv, pl, _⟩ := I.tuple h1
        obtain ⟨its2, rv2, pl2, _⟩ := I.tuple h3
        cases h2 with
        | cons a1 a2 =>
        cases h4 with
        | cons a3 a4 =>
        cases a1; cases a3; cases a4
        cases rv with
        | cons r1 r2 =>
        cases rv2 with
        | cons r3 r4 =>
        obtain ⟨t1, rfl⟩ := r1
        obtain ⟨t2, rfl⟩ := r3
        cases r4
        have z1 := r2.length
        have z3 := a2.length
        rename_i its _ _
        have hb : ∀ (v u : Value) (its : List Value), its.length = xs.length → ((List.range (min (v :: its).toArray.size [u].toArray.size)).all (fun _ => decide (x = y)) && (v :: its).toArray.size == [u].toArray.size) = (decide (x = y) && xs.isEmpty) := by
          intro v u its z5
          have hm : min (its.length + 1) 1 = 1 := by omega
          simp only [List.size_toArray, List.length_cons, List.length_nil, Nat.zero_add, hm, z5]
          cases xs with
          | nil => simp [List.range, List.range.loop]
          | cons x xs => simp [List.range, List.range.loop]
        have := SeqAt.RcNeAt.tuples (A := X.A) (s := s) (e := fun _ => decide (x = y)) pl pl2 (by omega) (fun j _ h => by
          have : j = 0 := by simp at h; omega
          subst this
          exact SeqAt.EqAt.str_str _ _ _ _)
        rw [hb _ _ _ (by omega)] at this
        exact this X.prog X.w X.xe _ ⟨.bl _, H, I, rfl, q F H _ (Same.refl _) R (.bl _)⟩
      · cases e
theorem any_py (ds : List D) (d : D) (h : plAll ds = true) (hd : d.pl = true) : ((pys ds).any fun y => PyData.eqv y d.py) = ds.any fun z => z.eqv d := by
  induction ds with
  | nil => rfl
  | cons e es ih =>
    have h : (e.pl && plAll es) = true := h
    obtain ⟨h1, h2⟩ := Bool.and_eq_true_iff.mp h
    show (PyData.eqv e.py d.py || (pys es).any fun y => PyData.eqv y d.py) = (e.eqv d || es.any fun z => z.eqv d)
    rw [ih h2, py_eqv e d h1 hd]
theorem room_in {n m : Nat} {A : Around} (h : m ≤ 64) (hu : A.units + 65 < cLine) : A.units + 1 + min n m < cLine := by
  have : min n m ≤ m := Nat.min_le_right _ _
  omega
theorem inB_cases {dx dy : D} {b : Bool} (e : inB dx dy = some b) : (∃ x y, dx = .str x ∧ dy = .str y ∧ b = !(Builtin.Str.occurrences y x 0 y.length 1).isEmpty) ∨ ∃ ds, dy.seq = some ds ∧ dx.fit = true ∧ dy.fit = true ∧ b = ds.any fun z => z.eqv dx := by
  unfold inB at e
  split at e
  · cases e; exact .inl ⟨_, _, rfl, rfl, rfl⟩
  · split at e
    · next ds es =>
      split at e
      · next hf =>
        cases e
        obtain ⟨f1, f2⟩ := Bool.and_eq_true_iff.mp hf
        exact .inr ⟨ds, es, f1, f2, rfl⟩
      · cases e
    · cases e
theorem opd_in (hu : X.A.units + 65 < cLine) : OpR X (compareOp .In) (rD2 X.K g semIn) := by
  intro pins s sg H x y v u Q I rx ry h
  obtain ⟨F, s0, r, dx, dy, d, R, hx, hy, e, q⟩ := h
  obtain ⟨b, eb, rfl⟩ := Option.map_eq_some_iff.mp e
  clear e
  have e := eb
  rcases inB_cases e with ⟨x', y', rfl, rfl, rfl⟩ | ⟨ds, es, f1, f2, rfl⟩
  · cases hx.flat (fun _ => nofun); cases hy.flat (fun _ => nofun)
    exact op_in_str pins s sg H _ _ v u Q I rx ry ⟨_, _, rfl, rfl, q F H _ (Same.refl _) R (.bl _)⟩
  · have p1 := (Bool.and_eq_true_iff.mp f1).1
    have p2 := (Bool.and_eq_true_iff.mp f2).1
    have dp1 := of_decide_eq_true (Bool.and_eq_true_iff.mp f1).2
    obtain ⟨as, r1⟩ := RD.reads I dx x v p1 (hx.rd R.sub) rx
    obtain ⟨bs, r2⟩ := RD.reads I dy y u p2 (hy.rd R.sub) ry
    have fin : EP X pins sg Q (.bool ((pys ds).any fun y => PyData.eqv y dx.py)) s := by
      refine ⟨.bl _, H, I, rfl, ?_⟩
      have pd : plAll ds = true := by
        cases dy <;> first | (cases es; exact p2) | cases es
      rw [any_py ds dx pd p1]
      exact q F H _ (Same.refl _) R (.bl _)
    cases dy with
    | lst zs =>
      cases es
      exact SeqAt.in_list_reads (show Reads s.heap u (.list (pys ds)) bs from r2) r1 (pys_lay ds p2) (py_lay dx p1) (by rw [py_depth dx p1]; exact room_in dp1 hu) fin
    | tup zs =>
      cases es
      exact SeqAt.in_tuple_reads (show Reads s.heap u (.tuple (pys ds)) bs from r2) r1 (pys_lay ds p2) (py_lay dx p1) (by rw [py_depth dx p1]; exact room_in dp1 hu) fin
    | _ => cases es
theorem opd_notIn (hu : X.A.units + 65 < cLine) : OpR X (compareOp .NotIn) (rD2 X.K g semNotIn) := by
  intro pins s sg H x y v u Q I rx ry h
  obtain ⟨F, s0, r, dx, dy, d, R, hx, hy, e, q⟩ := h
  obtain ⟨b, eb, rfl⟩ := Option.map_eq_some_iff.mp e
  clear e
  have e := eb
  rcases inB_cases e with ⟨x', y', rfl, rfl, rfl⟩ | ⟨ds, es, f1, f2, rfl⟩
  · cases hx.flat (fun _ => nofun); cases hy.flat (fun _ => nofun)
    exact op_notin_str pins s sg H _ _ v u Q I rx ry ⟨_, _, rfl, rfl, q F H _ (Same.refl _) R (.bl _)⟩
  · have p1 := (Bool.and_eq_true_iff.mp f1).1
    have p2 := (Bool.and_eq_true_iff.mp f2).1
    have dp1 := of_decide_eq_true (Bool.and_eq_true_iff.mp f1).2
    obtain ⟨as, r1⟩ := RD.reads I dx x v p1 (hx.rd R.sub) rx
    obtain ⟨bs, r2⟩ := RD.reads I dy y u p2 (hy.rd R.sub) ry
    have fin : EP X pins sg Q (.bool (!(pys ds).any fun y => PyData.eqv y dx.py)) s := by
      refine ⟨.bl _, H, I, rfl, ?_⟩
      have pd : plAll ds = true := by
        cases dy <;> first | (cases es; exact p2) | cases es
      rw [any_py ds dx pd p1]
      exact q F H _ (Same.refl _) R (.bl _)
    cases dy with
    | lst zs =>
      cases es
      exact SeqAt.notIn_list_reads (show Reads s.heap u (.list (pys ds)) bs from r2) r1 (pys_lay ds p2) (py_lay dx p1) (by rw [py_depth dx p1]; exact room_in dp1 hu) fin
    | tup zs =>
      cases es
      exact SeqAt.notIn_tuple_reads (show Reads s.heap u (.tuple (pys ds)) bs from r2) r1 (pys_lay ds p2) (py_lay dx p1) (by rw [py_depth dx p1]; exact room_in dp1 hu) fin
    | _ => cases es
end
end DL

/-! Data layer, part 7: arithmetic, subscripts, slices, built-ins, methods. -/
namespace DL
open PySem L2

/-! ### arithmetic -/
def big : Nat := 1000000
def semAdd : D → D → Option D
  | .int i, .int j => some (.int (i + j))
  | .str x, .str y => if x.length + y.length ≤ 1000000 then some (.str (x ++ y)) else none
  | .lst xs, .lst ys => if xs.length + ys.length ≤ 1000000 then some (.lst (xs ++ ys)) else none
  | .tup xs, .tup ys => if xs.length + ys.length ≤ 1000000 then some (.tup (xs ++ ys)) else none
  | _, _ => none
def semSub : D → D → Option D
  | .int i, .int j => some (.int (i - j))
  | _, _ => none
def semMul : D → D → Option D
  | .int i, .int j => if (-18446744073709551616 < i ∧ i < 18446744073709551616) then some (.int (i * j)) else none
  | .lst xs, .int k => if 0 ≤ k ∧ k ≤ 10000 ∧ xs.length ≤ 1000 then some (.lst (List.replicate k.toNat xs).flatten) else none
  | .str x, .int k => if 0 ≤ k ∧ k ≤ 1000 ∧ x.length ≤ 1000 then some (.str (Txt.mul x k)) else none
  | .tup xs, .int k => if xs ≠ [] ∧ 2 ≤ k ∧ k ≤ 1000 ∧ xs.length ≤ 1000 then some (.tup (List.replicate k.toNat xs).flatten) else none
  | _, _ => none
theorem mulOk_small {x : Str} {k : Int} (h : 0 ≤ k ∧ k ≤ 1000 ∧ x.length ≤ 1000) : MulOk x k := by
  refine ⟨?_, fun h1 _ h2 => ?_, fun _ _ => ?_⟩
  · have h1 : decide (k < -(2 ^ 63 : Int)) = false := decide_eq_false (by omega)
    have h2 : decide (k ≥ 2 ^ 63) = false := decide_eq_false (by omega)
    rw [h1, h2]; rfl
  · have h3 : (x.length : Int) ≤ 1000 := by omega
    have h4 : (1000 : Int) ≤ (2 ^ 63 - 1) / k := by
      apply Int.le_ediv_of_mul_le (by omega)
      omega
    omega
  · have h5 : k.toNat ≤ 1000 := by omega
    have h6 : x.length * k.toNat ≤ 1000 * 1000 := Nat.mul_le_mul h.2.2 h5
    unfold Builtin.Str.tooLong
    rw [sizeLine_eq]
    simp
    omega
def semFdiv : D → D → Option D
  | .int i, .int j => if 0 < j ∧ j < 1073741824 then some (.int (i / j)) else none
  | _, _ => none
def semMod : D → D → Option D
  | .int i, .int j => if 0 < j then some (.int (i % j)) else none
  | _, _ => none
def semPow : D → D → Option D
  | .int i, .int j => if 0 ≤ j ∧ j ≤ 1000 ∧ i.natAbs < 1000 then some (.int (i ^ j.toNat)) else none
  | _, _ => none
def semNeg : D → Option D
  | .int i => some (.int (-i))
  | _ => none
theorem mil_line : (1000000 : Nat) ≤ sizeLine := by decide
section
variable {X : Cx} {g : G}
/-- a new list, frozen -/
theorem PD.lst {K : PySem.W.Frag} {F H : Hp} {s : St} {r : En} {Q : VK} {ds : List D} {vs : List V} (R : Rel K g F H s r) (hvs : RDs K F vs ds) (q : PD K g F s Q (.lst ds) r) (p : Addr) (np : H p = none) : Q (.ref p) (L2.upd H p (.lst vs)) := by
  have sF := same_upd (o := .lst vs) (R.ff np)
  exact q _ _ _ sF (R.alloc np) (.lst upd_same (RDs.mono sF ds hvs))
theorem PD.tup {K : PySem.W.Frag} {F H : Hp} {s : St} {r : En} {Q : VK} {ds : List D} {vs : List V} (R : Rel K g F H s r) (hvs : RDs K F vs ds) (q : PD K g F s Q (.tup ds) r) (p : Addr) (np : H p = none) : Q (.ref p) (L2.upd H p (.tup vs)) := by
  have sF := same_upd (o := .tup vs) (R.ff np)
  exact q _ _ _ sF (R.alloc np) (.tup (.of upd_same) (RDs.mono sF ds hvs))
theorem opd_add : OpR X (binaryOp .Add) (rD2 X.K g semAdd) := by
  intro pins s sg H x y v u Q I rx ry h
  obtain ⟨F, s0, r, dx, dy, d, R, hx, hy, e, q⟩ := h
  unfold semAdd at e
  split at e
  · cases e
    cases hx.flat (fun _ => nofun); cases hy.flat (fun _ => nofun)
    exact op_add pins s sg H _ _ v u Q I rx ry ⟨_, _, rfl, rfl, q F H _ (Same.refl _) R (.int _)⟩
  · split at e
    · next hl =>
      cases e
      cases hx.flat (fun _ => nofun); cases hy.flat (fun _ => nofun)
      exact op_add_str pins s sg H _ _ v u Q I rx ry ⟨_, _, rfl, rfl, Nat.le_trans hl mil_line, q F H _ (Same.refl _) R (.str _)⟩
    · cases e
  · split at e
    · next hl =>
      cases e
      obtain ⟨a, vs, rfl, h1, h2⟩ := hx.lst R.sub
      obtain ⟨b, ws, rfl, h3, h4⟩ := hy.lst R.sub
      exact op_cat pins s sg H _ _ v u Q I rx ry ⟨a, b, vs, ws, rfl, rfl, h1, h3, by rw [h2.length, h4.length]; exact Nat.le_trans hl mil_line, PD.lst R (h2.app h4) q⟩
    · cases e
  · split at e
    · next hl =>
      cases e
      obtain ⟨a, vs, rfl, h1, h1', h2⟩ := hx.tup R.sub
      obtain ⟨b, ws, rfl, h3, h3', h4⟩ := hy.tup R.sub
      refine op_catA pins s sg H _ _ v u Q I rx ry ⟨a, b, vs, ws, rfl, rfl, h1, h3, by rw [h2.length, h4.length]; exact Nat.le_trans hl mil_line, fun z => ?_, fun _ z => ?_, fun _ _ => PD.tup R (h2.app h4) q⟩
      · subst z
        cases h2
        rw [List.nil_append] at q
        exact q F H _ (Same.refl _) R (.tup h3' h4)
      · subst z
        cases h4
        rw [List.append_nil] at q
        exact q F H _ (Same.refl _) R (.tup h1' h2)
    · cases e
  · cases e
theorem opd_sub : OpR X (binaryOp .Sub) (rD2 X.K g semSub) := by
  intro pins s sg H x y v u Q I rx ry h
  obtain ⟨F, s0, r, dx, dy, d, R, hx, hy, e, q⟩ := h
  unfold semSub at e
  split at e
  · cases e
    cases hx.flat (fun _ => nofun); cases hy.flat (fun _ => nofun)
    exact op_sub pins s sg H _ _ v u Q I rx ry ⟨_, _, rfl, rfl, q F H _ (Same.refl _) R (.int _)⟩
  · cases e
theorem opd_mul : OpR X (binaryOp .Mult) (rD2 X.K g semMul) := by
  intro pins s sg H x y v u Q I rx ry h
  obtain ⟨F, s0, r, dx, dy, d, R, hx, hy, e, q⟩ := h
  unfold semMul at e
  split at e
  · split at e
    · next hl =>
      cases e
      cases hx.flat (fun _ => nofun); cases hy.flat (fun _ => nofun)
      exact op_mul pins s sg H _ _ v u Q I rx ry ⟨_, _, rfl, rfl, .inl ⟨by omega, by omega⟩, q F H _ (Same.refl _) R (.int _)⟩
    · cases e
  · split at e
    · next xs k hl =>
      cases e
      obtain ⟨a, vs, rfl, h1, h2⟩ := hx.lst R.sub
      cases hy.flat (fun _ => nofun)
      have rep : ∀ n : Nat, RDs X.K F (List.replicate n vs).flatten (List.replicate n xs).flatten := fun n => by
        induction n with
        | zero => exact .nil
        | succ n ih =>
          rw [List.replicate_succ, List.replicate_succ, List.flatten_cons, List.flatten_cons]
          exact h2.app ih
      refine op_rep pins s sg H _ _ v u Q I rx ry ⟨a, k, vs, rfl, rfl, h1, by omega, by omega, ?_, PD.lst R (rep _) q⟩
      rw [h2.length]
      have h5 : k.toNat ≤ 10000 := by omega
      have h6 : xs.length * k.toNat ≤ 1000 * 10000 := Nat.mul_le_mul hl.2.2 h5
      exact Nat.le_trans h6 (by decide)
    · cases e
  · split at e
    · next x k hl =>
      cases e
      cases hx.flat (fun _ => nofun); cases hy.flat (fun _ => nofun)
      obtain ⟨t, rfl⟩ := rx
      obtain ⟨t', rfl⟩ := ry
      exact SB.mul (mulOk_small hl) fun t'' k' => ⟨.str _, H, I.tok _, ⟨_, rfl⟩, q F H _ (Same.refl _) R (.str _)⟩
    · cases e
  · split at e
    · next xs k hl =>
      cases e
      obtain ⟨a, vs, rfl, h1, _, h2⟩ := hx.tup R.sub
      cases hy.flat (fun _ => nofun)
      have rep : ∀ n : Nat, RDs X.K F (List.replicate n vs).flatten (List.replicate n xs).flatten := fun n => by
        induction n with
        | zero => exact .nil
        | succ n ih =>
          rw [List.replicate_succ, List.replicate_succ, List.flatten_cons, List.flatten_cons]
          exact h2.app ih
      refine op_repT pins s sg H _ _ v u Q I rx ry ⟨a, k, vs, rfl, rfl, h1, fun z => hl.1 ?_, hl.2.1, hl.2.2.1, by rw [h2.length]; exact hl.2.2.2, PD.tup R (rep _) q⟩
      have := h2.length
      rw [z] at this
      exact List.length_eq_zero_iff.mp this.symm
    · cases e
  · cases e
theorem opd_fdiv : OpR X (binaryOp .FloorDiv) (rD2 X.K g semFdiv) := by
  intro pins s sg H x y v u Q I rx ry h
  obtain ⟨F, s0, r, dx, dy, d, R, hx, hy, e, q⟩ := h
  unfold semFdiv at e
  split at e
  · split at e
    · next hl =>
      cases e
      cases hx.flat (fun _ => nofun); cases hy.flat (fun _ => nofun)
      exact op_fdiv pins s sg H _ _ v u Q I rx ry ⟨_, _, rfl, rfl, hl, q F H _ (Same.refl _) R (.int _)⟩
    · cases e
  · cases e
theorem opd_mod : OpR X (binaryOp .Mod) (rD2 X.K g semMod) := by
  intro pins s sg H x y v u Q I rx ry h
  obtain ⟨F, s0, r, dx, dy, d, R, hx, hy, e, q⟩ := h
  unfold semMod at e
  split at e
  · split at e
    · next hl =>
      cases e
      cases hx.flat (fun _ => nofun); cases hy.flat (fun _ => nofun)
      exact op_mod pins s sg H _ _ v u Q I rx ry ⟨_, _, rfl, rfl, hl, q F H _ (Same.refl _) R (.int _)⟩
    · cases e
  · cases e
theorem opd_pow : OpR X (binaryOp .Pow) (rD2 X.K g semPow) := by
  intro pins s sg H x y v u Q I rx ry h
  obtain ⟨F, s0, r, dx, dy, d, R, hx, hy, e, q⟩ := h
  unfold semPow at e
  split at e
  · split at e
    · next i j hl =>
      cases e
      cases hx.flat (fun _ => nofun); cases hy.flat (fun _ => nofun)
      refine op_pow pins s sg H _ _ v u Q I rx ry ⟨_, _, rfl, rfl, ⟨hl.1, by omega, ?_⟩, q F H _ (Same.refl _) R (.int _)⟩
      exact Nat.lt_trans hl.2.2 (by decide)
    · cases e
  · cases e
theorem und_neg : UnR X (unaryOp .USub) (rD1 X.K g semNeg) := by
  intro pins s sg H x v Q I rx h
  obtain ⟨F, s0, r, dx, d, R, hx, e, q⟩ := h
  unfold semNeg at e
  split at e
  · cases e
    cases hx.flat (fun _ => nofun)
    exact un_neg pins s sg H _ v Q I rx ⟨_, rfl, q F H _ (Same.refl _) R (.int _)⟩
  · cases e

/-! ### order -/
def semLt : D → D → Option D
  | .int i, .int j => some (.bl (decide (i < j)))
  | .str i, .str j => some (.bl (decide (i.cps.toList < j.cps.toList)))
  | _, _ => none
def semLe : D → D → Option D
  | .int i, .int j => some (.bl (decide (i ≤ j)))
  | _, _ => none
def semGt : D → D → Option D
  | .int i, .int j => some (.bl (decide (j < i)))
  | _, _ => none
def semGe : D → D → Option D
  | .int i, .int j => some (.bl (decide (j ≤ i)))
  | _, _ => none
theorem opd_lt : OpR X (compareOp .Lt) (rD2 X.K g semLt) := by
  intro pins s sg H x y v u Q I rx ry h
  obtain ⟨F, s0, r, dx, dy, d, R, hx, hy, e, q⟩ := h
  unfold semLt at e
  split at e
  · cases e
    cases hx.flat (fun _ => nofun); cases hy.flat (fun _ => nofun)
    exact op_lt pins s sg H _ _ v u Q I rx ry ⟨_, _, rfl, rfl, q F H _ (Same.refl _) R (.bl _)⟩
  · cases e
    cases hx.flat (fun _ => nofun); cases hy.flat (fun _ => nofun)
    exact op_lt_str pins s sg H _ _ v u Q I rx ry ⟨_, _, rfl, rfl, q F H _ (Same.refl _) R (.bl _)⟩
  · cases e
theorem opd_le : OpR X (compareOp .LtE) (rD2 X.K g semLe) := by
  intro pins s sg H x y v u Q I rx ry h
  obtain ⟨F, s0, r, dx, dy, d, R, hx, hy, e, q⟩ := h
  unfold semLe at e
  split at e
  · cases e
    cases hx.flat (fun _ => nofun); cases hy.flat (fun _ => nofun)
    exact op_le pins s sg H _ _ v u Q I rx ry ⟨_, _, rfl, rfl, q F H _ (Same.refl _) R (.bl _)⟩
  · cases e
theorem opd_gt : OpR X (compareOp .Gt) (rD2 X.K g semGt) := by
  intro pins s sg H x y v u Q I rx ry h
  obtain ⟨F, s0, r, dx, dy, d, R, hx, hy, e, q⟩ := h
  unfold semGt at e
  split at e
  · cases e
    cases hx.flat (fun _ => nofun); cases hy.flat (fun _ => nofun)
    exact op_gt pins s sg H _ _ v u Q I rx ry ⟨_, _, rfl, rfl, q F H _ (Same.refl _) R (.bl _)⟩
  · cases e
theorem opd_ge : OpR X (compareOp .GtE) (rD2 X.K g semGe) := by
  intro pins s sg H x y v u Q I rx ry h
  obtain ⟨F, s0, r, dx, dy, d, R, hx, hy, e, q⟩ := h
  unfold semGe at e
  split at e
  · cases e
    cases hx.flat (fun _ => nofun); cases hy.flat (fun _ => nofun)
    exact op_ge pins s sg H _ _ v u Q I rx ry ⟨_, _, rfl, rfl, q F H _ (Same.refl _) R (.bl _)⟩
  · cases e
/-- is None, is not None -/
def D.isN : D → Bool
  | .non => true
  | _ => false
def semIs : D → D → Option D
  | d, .non => some (.bl d.isN)
  | _, _ => none
def semIsNot : D → D → Option D
  | d, .non => some (.bl (!d.isN))
  | _, _ => none
/-! ### subscripts -/
def semIx : D → D → Option D
  | .lst xs, .int i => atI xs i
  | .tup xs, .int i => atI xs i
  | .str x, .int i => if x.length ≤ 1000000 then (atI x.cps.toList i).map fun c => .str ⟨#[c]⟩ else none
  | _, _ => none
theorem RDs.at {K : PySem.W.Frag} {F : Hp} {vs : List V} {ds : List D} {i : Int} {d : D} (h : RDs K F vs ds) (e : atI ds i = some d) : ∃ v, atI vs i = some v ∧ RD K F v d := by
  unfold atI at e ⊢
  rw [h.length]
  obtain ⟨j, e1, e2⟩ := Option.bind_eq_some_iff.mp e
  obtain ⟨v, h1, h2⟩ := h.get e2
  exact ⟨v, by rw [e1]; exact h1, h2⟩
theorem ixd : IxR X (rD2 X.K g semIx) := by
  intro value slice pins s sg H x y v u Q I rx ry h hs
  obtain ⟨F, s0, r, dx, dy, d, R, hx, hy, e, q⟩ := h
  unfold semIx at e
  split at e
  · obtain ⟨a, vs, rfl, h1, h2⟩ := hx.lst R.sub
    cases hy.flat (fun _ => nofun)
    obtain ⟨w, e1, e2⟩ := h2.at e
    exact ix_list value slice pins s sg H _ _ v u Q I rx ry ⟨a, vs, _, w, rfl, rfl, .of h1, e1, q F H _ (Same.refl _) R e2⟩ hs
  · obtain ⟨a, vs, rfl, h1, _, h2⟩ := hx.tup R.sub
    cases hy.flat (fun _ => nofun)
    obtain ⟨w, e1, e2⟩ := h2.at e
    exact ix_tup value slice pins s sg H _ _ v u Q I rx ry ⟨a, vs, _, w, rfl, rfl, h1, e1, q F H _ (Same.refl _) R e2⟩ hs
  · split at e
    · next hl =>
      obtain ⟨c, e1, rfl⟩ := Option.map_eq_some_iff.mp e
      cases hx.flat (fun _ => nofun); cases hy.flat (fun _ => nofun)
      exact ix_str value slice pins s sg H _ _ v u Q I rx ry ⟨_, _, c, rfl, rfl, Nat.le_trans hl mil_line, e1, q F H _ (Same.refl _) R (.str _)⟩ hs
    · cases e
  · cases e

/-! ### slices -/
def cutL {α : Type} (xs : List α) (lo hi : Option Int) : List α := (xs.drop (HT.sIx xs.length 0 lo)).take (HT.sIx xs.length xs.length hi - HT.sIx xs.length 0 lo)
theorem RDs.cut {K : PySem.W.Frag} {F : Hp} {vs : List V} {ds : List D} (h : RDs K F vs ds) (lo hi : Option Int) : RDs K F (cutV vs lo hi) (cutL ds lo hi) := by
  unfold cutV cutL
  rw [h.length]
  exact (h.dp _).tk _
def semSl : D → Option Int → Option Int → Option D
  | .lst xs, lo, hi => some (.lst (cutL xs lo hi))
  | .scr ns, lo, hi => some (.lst ((cutL ns lo hi).map D.int))
  | .tup xs, lo, hi => some (.tup (cutL xs lo hi))
  | .str x, lo, hi => if x.length ≤ 1000000 then some (.str (cutS x lo hi)) else none
  | _, _, _ => none
def rDsl (K : PySem.W.Frag) (g : G) (sem : D → Option Int → Option Int → Option D) : V → Option Int → Option Int → Hp → VK → Prop := fun x lo hi H Q => ∃ F s r dx d, Rel K g F H s r ∧ RB K F H x dx ∧ sem dx lo hi = some d ∧ PD K g F s Q d r
theorem cut_ints (ns : List Int) (lo hi : Option Int) : cutV (ns.map V.int) lo hi = (cutL ns lo hi).map V.int := by
  unfold cutV cutL
  rw [List.length_map, List.map_take, List.map_drop]
theorem sld : SlR X (rDsl X.K g semSl) := by
  intro pins s sg H x v vl vu lo hi sl Q I rx hs pl pu h
  obtain ⟨F, s0, r, dx, d, R, hx, e, q⟩ := h
  unfold semSl at e
  split at e
  · cases e
    obtain ⟨a, vs, rfl, h1, h2⟩ := hx.lst R.sub
    exact sl_list pins s sg H _ v vl vu lo hi sl Q I rx hs pl pu ⟨a, vs, rfl, .of h1, PD.lst R (h2.cut lo hi) q⟩
  · next ns _ _ =>
    cases e
    cases hx.flat (fun _ => nofun) with
    | scr _ h1 =>
      refine sl_list pins s sg H _ v vl vu lo hi sl Q I rx hs pl pu ⟨_, _, rfl, R.sub.seq h1, ?_⟩
      rw [cut_ints]
      exact PD.lst R (RDs.ints _) q
  · cases e
    obtain ⟨a, vs, rfl, h1, h1', h2⟩ := hx.tup R.sub
    refine sl_tupA pins s sg H _ v vl vu lo hi sl Q I rx hs pl pu ⟨a, vs, rfl, h1, fun z => ?_, fun _ => PD.tup R (h2.cut lo hi) q⟩
    have ec : ∀ ys : List D, RDs X.K F vs ys → cutL ys lo hi = ys := fun ys h => by
      unfold cutL
      rw [h.length] at z
      rw [z.1, z.2]
      simp
    rw [ec _ h2] at q
    exact q F H _ (Same.refl _) R (.tup h1' h2)
  · split at e
    · next hl =>
      cases e
      cases hx.flat (fun _ => nofun)
      exact sl_str pins s sg H _ v vl vu lo hi sl Q I rx hs pl pu ⟨_, rfl, Nat.le_trans hl mil_line, q F H _ (Same.refl _) R (.str _)⟩
    · cases e
  · cases e
variable {a b c e : Expr} {pos p2 : Pos} {p : Opd}
/-- the parts of a slice: left out, or an int -/
def PtO (K : PySem.W.Frag) (g : G) (F : Hp) (s : St) (Q : Option Int → Hp → Prop) (o : Option Int) (r' : En) : Prop := ∀ F' H', Same F F' → Rel K g F' H' s r' → Q o H'
def tPO (K : PySem.W.Frag) (g : G) (f : En → Rs (Option Int)) : TO := fun s H Q => ∃ F r, Rel K g F H s r ∧ post K g (PtO K g F s Q) (f r)
def DPo (X : Cx) (g : G) (e : Option Expr) (f : En → Rs (Option Int)) : Prop := L2.PO X e (tPO X.K g f)
theorem PO.imp {X : Cx} {e : Option Expr} {t t' : TO} (h : L2.PO X e t) (i : ∀ s H Q, t' s H Q → t s H Q) : L2.PO X e t' :=
  ⟨fun pins s sg H Q I q => h.run pins s sg H Q I (i sg H Q q)⟩
def poN : En → Rs (Option Int) := fun r => .ok none r
def poS (f : En → Rs D) : En → Rs (Option Int) := fun r => (f r).bind fun d r1 => (ofO d.asI r1).map some
theorem dpo_none : DPo X g none poN := PO.imp po_none fun s H Q ⟨F, r, R, q⟩ => q F H (Same.refl _) R
theorem dpo_some {f : En → Rs D} (h : DE X g e f) : DPo X g (some e) (poS f) := PO.imp (po_some h) fun s H Q ⟨F, r, R, q⟩ => ⟨F, r, R, post_mono (post_bind q) fun d r1 q F1 H1 v sm R1 hv => by
  obtain ⟨i, ed, q⟩ := post_ofO (post_map q)
  have ed := asI_some ed
  subst ed
  cases hv
  exact ⟨i, rfl, q F1 H1 sm R1⟩⟩
def slD (p : Opd) (lo hi : En → Rs (Option Int)) (sem : D → Option Int → Option Int → Option D) : En → Rs D := fun r => (p.run r).bind fun x r1 => (lo r1).bind fun l r2 => (hi r2).bind fun h r3 => ofO ((look r3 x).bind fun d => sem d l h) r3
theorem de_slice {lo hi : Option Expr} {fl fh : En → Rs (Option Int)} (ha : DB X g a p) (hl : DPo X g lo fl) (hh : DPo X g hi fh) : DE X g (.Subscript a (.Slice lo hi none p2) pos) (slD p fl fh semSl) :=
  PE.imp (pe_slice sld ha hl hh) fun s H Q ⟨F, r, R, q⟩ => by
    refine ⟨F, r, R, post_mono (post_bind q) fun z r1 q1 F1 H1 v sm R1 hv => ⟨F1, r1, R1, post_mono (post_bind q1) fun l r2 q2 F2 H2 s2 R2 => ⟨F2, r2, R2, post_mono (post_bind q2) fun h r3 q3 F3 H3 s3 R3 => ?_⟩⟩⟩
    obtain ⟨d, e, q3⟩ := post_ofO q3
    obtain ⟨dx, e1, e2⟩ := Option.bind_eq_some_iff.mp e
    exact ⟨F3, s, r3, dx, d, R3, look_ok R3 ((hv.mono s2).mono s3) e1, e2, fun F4 H4 v4 s4 R4 h4 => q3 F4 H4 v4 (((sm.trans s2).trans s3).trans s4) R4 h4⟩

/-! ### built-ins by values: all arguments are looked at -/
def runs : List Opd → En → Rs (List (Sum D Nat))
  | [], r => .ok [] r
  | p :: ps, r => (p.run r).bind fun x r1 => (runs ps r1).bind fun xs r2 => .ok (x :: xs) r2
def looks (r : En) : List (Sum D Nat) → Option (List D)
  | [] => some []
  | x :: xs => (look r x).bind fun d => (looks r xs).map fun ds => d :: ds
def opN (ps : List Opd) (sem : List D → Option D) : En → Rs D := fun r => (runs ps r).bind fun xs r1 => ofO ((looks r1 xs).bind sem) r1
inductive RBs (K : PySem.W.Frag) (F H : Hp) : List V → List D → Prop
  | nil : RBs K F H [] []
  | cons {v : V} {vs : List V} {d : D} {ds : List D} : RB K F H v d → RBs K F H vs ds → RBs K F H (v :: vs) (d :: ds)
inductive OpdsOk (K : PySem.W.Frag) (F : Hp) (s : St) : List V → List (Sum D Nat) → Prop
  | nil : OpdsOk K F s [] []
  | cons {v : V} {vs : List V} {z : Sum D Nat} {zs : List (Sum D Nat)} : OpdOk K F s v z → OpdsOk K F s vs zs → OpdsOk K F s (v :: vs) (z :: zs)
def tBs (K : PySem.W.Frag) (g : G) (ps : List Opd) : TA := fun s H Q => ∃ F r, Rel K g F H s r ∧ post K g (fun zs r' => ∀ F' H' vs, Same F F' → Rel K g F' H' s r' → OpdsOk K F' s vs zs → Q vs H') (runs ps r)
def DBs (X : Cx) (g : G) (es : List Expr) (ps : List Opd) : Prop := PA X es (tBs X.K g ps)
theorem dbs_nil : DBs X g [] [] := PA.imp pa_nil fun s H Q ⟨F, r, R, q⟩ => q F H [] (Same.refl _) R .nil
theorem dbs_cons {es : List Expr} {ps : List Opd} (h : DB X g e p) (hs : DBs X g es ps) (hst : starEach (e :: es) X.env = (false, eval e X.env) :: starEach es X.env := by rfl) : DBs X g (e :: es) (p :: ps) :=
  PA.imp (pa_cons h hs hst) fun s H Q ⟨F, r, R, q⟩ => ⟨F, r, R, post_mono (post_bind q) fun z r1 q F1 H1 v sm R1 hv => ⟨F1, r1, R1, post_mono (post_bind q) fun zs r2 q F2 H2 vs s2 R2 hvs => q F2 H2 (v :: vs) (sm.trans s2) R2 (.cons (hv.mono s2) hvs)⟩⟩
theorem looks_ok {K : PySem.W.Frag} {F H : Hp} {s : St} {r : En} (R : Rel K g F H s r) : ∀ {zs : List (Sum D Nat)} {vs : List V} {ds : List D}, OpdsOk K F s vs zs → looks r zs = some ds → RBs K F H vs ds
  | [], _, _, .nil, e => by cases e; exact .nil
  | z :: zs, _, _, .cons h1 h2, e => by
    obtain ⟨d, e1, e2⟩ := Option.bind_eq_some_iff.mp e
    obtain ⟨ds, e3, rfl⟩ := Option.map_eq_some_iff.mp e2
    exact .cons (look_ok R h1 e1) (looks_ok R h2 e3)
def rDN (K : PySem.W.Frag) (g : G) (sem : List D → Option D) : List V → Hp → VK → Prop := fun xs H Q => ∃ F s r ds d, Rel K g F H s r ∧ RBs K F H xs ds ∧ sem ds = some d ∧ PD K g F s Q d r
theorem tD_opN {K : PySem.W.Frag} {ps : List Opd} {sem : List D → Option D} {s : St} {H : Hp} {Q : VK} (h : tD K g (opN ps sem) s H Q) : tBs K g ps s H fun xs H1 => rDN K g sem xs H1 Q := by
  obtain ⟨F, r, R, h⟩ := h
  refine ⟨F, r, R, post_mono (post_bind h) fun zs r1 q F1 H1 vs sm R1 hv => ?_⟩
  obtain ⟨d, e, q⟩ := post_ofO q
  obtain ⟨ds, e1, e2⟩ := Option.bind_eq_some_iff.mp e
  exact ⟨F1, s, r1, ds, d, R1, looks_ok R1 hv e1, e2, fun F2 H2 v2 s2 R2 h2 => q F2 H2 v2 (sm.trans s2) R2 h2⟩
theorem de_callB {x : Str} {pn : Pos} {id : String} {es : List Expr} {ps : List Opd} {sem : List D → Option D} (hc : CallR X (.builtin id) (rDN X.K g sem)) (hm : X.mg x = none) (ha : DBs X g (e :: es) ps) (hg : Gl X x := by rfl) (hv : bootBuiltins x = some (.builtin id) := by decide +kernel)
    (hn : x ≠ "__name__" := by decide) (hdb : (x == ("__debug__" : Str)) = false := by decide) (he : starEach (e :: es) X.env = (false, eval e X.env) :: starEach es X.env := by rfl) (hpl : (backTo pos (starEach es X.env)).any (·.1) = false := by rfl) : DE X g (.Call (.Name x pn) (e :: es) [] pos) (opN ps sem) :=
  PE.imp (pe_callB hc hg hm hv ha hn hdb he hpl) fun s H Q h => tD_opN h
theorem de_callT {x : Str} {pn : Pos} {T : String} {es : List Expr} {ps : List Opd} {sem : List D → Option D} (hc : CallR X (.type T) (rDN X.K g sem)) (hm : X.mg x = none) (ha : DBs X g (e :: es) ps) (hg : Gl X x := by rfl) (hv : bootBuiltins x = some (.type T) := by decide +kernel)
    (hn : x ≠ "__name__" := by decide) (hdb : (x == ("__debug__" : Str)) = false := by decide) (he : starEach (e :: es) X.env = (false, eval e X.env) :: starEach es X.env := by rfl) (hpl : (backTo pos (starEach es X.env)).any (·.1) = false := by rfl) : DE X g (.Call (.Name x pn) (e :: es) [] pos) (opN ps sem) :=
  PE.imp (pe_callTy hc hg hm hv ha hn hdb he hpl) fun s H Q h => tD_opN h

def semAbs : List D → Option D
  | [.int i] => some (.int (if i < 0 then -i else i))
  | _ => none
def semInt : List D → Option D
  | [.int i] => some (.int i)
  | [.bl b] => some (.int (if b then 1 else 0))
  | _ => none
def semLen : List D → Option D
  | [.lst xs] => some (.int xs.length)
  | [.tup xs] => some (.int xs.length)
  | [.str x] => if x.length ≤ 1000000 then some (.int x.length) else none
  | _ => none
def semTuple : List D → Option D
  | [.lst xs] => some (.tup xs)
  | [.tup xs] => some (.tup xs)
  | _ => none
def semList : List D → Option D
  | [.lst xs] => some (.lst xs)
  | [.tup xs] => some (.lst xs)
  | _ => none
def bools : List D → Option (List Bool)
  | [] => some []
  | .bl b :: ds => (bools ds).map fun bs => b :: bs
  | _ :: _ => none
def semAll : List D → Option D
  | [.lst xs] => (bools xs).map fun bs => .bl (bs.all id)
  | _ => none
theorem RBs.one {K : PySem.W.Frag} {F H : Hp} {vs : List V} {d : D} (h : RBs K F H vs [d]) : ∃ v, vs = [v] ∧ RB K F H v d := by
  cases h with
  | cons h1 h2 => cases h2; exact ⟨_, rfl, h1⟩
theorem RBs.two {K : PySem.W.Frag} {F H : Hp} {vs : List V} {d e : D} (h : RBs K F H vs [d, e]) : ∃ v w, vs = [v, w] ∧ RB K F H v d ∧ RB K F H w e := by
  cases h with
  | cons h1 h2 =>
    obtain ⟨w, e, h3⟩ := h2.one
    subst e
    exact ⟨_, _, rfl, h1, h3⟩
theorem bools_vs {K : PySem.W.Frag} {F : Hp} : ∀ {vs : List V} {ds : List D} {bs : List Bool}, RDs K F vs ds → bools ds = some bs → vs = bs.map V.bl
  | _, [], bs, h, e => by cases h; cases e; rfl
  | _, d :: ds, bs, h, e => by
    cases h with
    | cons h1 h2 =>
      cases d with
      | bl b =>
        obtain ⟨bs', e1, rfl⟩ := Option.map_eq_some_iff.mp e
        cases h1
        rw [bools_vs h2 e1]; rfl
      | _ => cases e
theorem cd_abs : CallR X (.builtin "abs") (rDN X.K g semAbs) := by
  intro pins s sg H xs us Q I rv h
  obtain ⟨F, s0, r, ds, d, R, hx, e, q⟩ := h
  unfold semAbs at e
  split at e
  · cases e
    obtain ⟨v, rfl, h1⟩ := hx.one
    cases h1.flat (fun _ => nofun)
    exact call_abs pins s sg H _ us Q I rv ⟨_, rfl, q F H _ (Same.refl _) R (.int _)⟩
  · cases e
theorem cd_int : CallR X (.type "int") (rDN X.K g semInt) := by
  intro pins s sg H xs us Q I rv h
  obtain ⟨F, s0, r, ds, d, R, hx, e, q⟩ := h
  unfold semInt at e
  split at e
  · cases e
    obtain ⟨v, rfl, h1⟩ := hx.one
    cases h1.flat (fun _ => nofun)
    exact call_int1 pins s sg H _ us Q I rv (.inl ⟨_, rfl, q F H _ (Same.refl _) R (.int _)⟩)
  · cases e
    obtain ⟨v, rfl, h1⟩ := hx.one
    cases h1.flat (fun _ => nofun)
    exact call_int1 pins s sg H _ us Q I rv (.inr ⟨_, rfl, q F H _ (Same.refl _) R (.int _)⟩)
  · cases e
theorem cd_len : CallR X (.builtin "len") (rDN X.K g semLen) := by
  intro pins s sg H xs us Q I rv h
  obtain ⟨F, s0, r, ds, d, R, hx, e, q⟩ := h
  unfold semLen at e
  split at e
  · cases e
    obtain ⟨v, rfl, h1⟩ := hx.one
    obtain ⟨a, vs, rfl, h2, h3⟩ := h1.lst R.sub
    refine call_len_seq pins s sg H _ us Q I rv ⟨a, vs, rfl, .inl (.of h2), ?_⟩
    rw [h3.length]
    exact q F H _ (Same.refl _) R (.int _)
  · cases e
    obtain ⟨v, rfl, h1⟩ := hx.one
    obtain ⟨a, vs, rfl, h2, _, h3⟩ := h1.tup R.sub
    refine call_len_seq pins s sg H _ us Q I rv ⟨a, vs, rfl, .inr h2, ?_⟩
    rw [h3.length]
    exact q F H _ (Same.refl _) R (.int _)
  · split at e
    · next hl =>
      cases e
      obtain ⟨v, rfl, h1⟩ := hx.one
      cases h1.flat (fun _ => nofun)
      exact call_len_str pins s sg H _ us Q I rv ⟨_, rfl, Nat.le_trans hl mil_line, q F H _ (Same.refl _) R (.int _)⟩
    · cases e
  · cases e
theorem cd_all (hc : X.calm = true) : CallR X (.builtin "all") (rDN X.K g semAll) := by
  intro pins s sg H xs us Q I rv h
  obtain ⟨F, s0, r, ds, d, R, hx, e, q⟩ := h
  unfold semAll at e
  split at e
  · obtain ⟨bs, e1, rfl⟩ := Option.map_eq_some_iff.mp e
    obtain ⟨v, rfl, h1⟩ := hx.one
    obtain ⟨a, vs, rfl, h2, h3⟩ := h1.lst R.sub
    have ev := bools_vs h3 e1
    subst ev
    exact cr_all hc pins s sg H _ us Q I rv ⟨a, bs, rfl, .of h2, q F H _ (Same.refl _) R (.bl _)⟩
  · cases e
end
end DL

/-! Data layer, part 8: lists that a name owns, walks of any data, methods of texts, constants of the module. -/
namespace DL
open PySem L2

/-! ### an owned list is changed -/
section
variable {X : Cx} {g : G}
theorem Rel.chg {K : PySem.W.Frag} {F H : Hp} {s : St} {r : En} {i : Nat} {xs xs' : List D} {a : Addr} {vs vs' : List V} (R : Rel K g F H s r) (e : r[i]? = some (some (.ow xs))) (hs : s[i]? = some (some (.ref a))) (fa : F a = none) (ha : H a = some (.lst vs)) (hv : RDs K F vs' xs') :
    Rel K g F (L2.upd H a (.lst vs')) s (r.set i (some (.ow xs'))) := by
  have hi : i < r.length := (List.getElem?_eq_some_iff.mp e).1
  have cs : ∀ (j : Nat) (u : OV), (r.set i (some (.ow xs')))[j]? = some (some u) → (j = i ∧ u = .ow xs') ∨ (j ≠ i ∧ r[j]? = some (some u)) := fun j u z => by
    by_cases hj : i = j
    · subst hj
      rw [List.getElem?_set_self hi] at z
      cases z
      exact .inl ⟨rfl, rfl⟩
    · rw [List.getElem?_set_ne hj] at z
      exact .inr ⟨fun z => hj z.symm, z⟩
  have ow1 : ∀ (j : Nat) (u : OV), (r.set i (some (.ow xs')))[j]? = some (some u) → u.own = true → ∃ u', r[j]? = some (some u') ∧ u'.own = true := fun j u z zo => by
    rcases cs j u z with ⟨rfl, rfl⟩ | ⟨_, z'⟩
    · exact ⟨_, e, rfl⟩
    · exact ⟨u, z', zo⟩
  refine ⟨fun b u eb => ?_, R.f0, R.fnew, fun b u eb hb ht => ?_, fun j u ej => ?_, fun j u b ej eo es => ?_, fun j k u w b hjk ej eo ek ek' => ?_, fun p hp => ?_, by rw [List.length_set]; exact R.len, R.tb.at (R.tb.tno (R.own i _ a e rfl hs)), fun p hp => ?_⟩
  · rw [upd_ne fun z => by rw [z, fa] at eb; cases eb]; exact R.sub b u eb
  · rw [upd_ne fun z => ?_]
    · exact R.keep b u eb hb ht
    · subst z
      rcases R.own i _ b e rfl hs with q | q
      · rw [q] at eb; cases eb
      · exact hb _ q rfl
  · rcases cs j u ej with ⟨rfl, rfl⟩ | ⟨hj, ej⟩
    · exact ⟨_, hs, a, vs', rfl, fa, upd_same, hv⟩
    · obtain ⟨v, h1, h2⟩ := R.slot j u ej
      refine ⟨v, h1, ?_⟩
      cases u with
      | sh d => exact h2
      | ow ys =>
        obtain ⟨b, ws, rfl, b2, b3, b4⟩ := h2
        exact ⟨b, ws, rfl, b2, by rw [upd_ne fun z => R.dist j i _ _ a hj ej rfl e rfl (by rw [h1, z]) hs]; exact b3, b4⟩
      | od ys =>
        obtain ⟨b, ws, rfl, b2, b3, b4⟩ := h2
        exact ⟨b, ws, rfl, b2, by rw [upd_ne fun z => R.dist j i _ _ a hj ej rfl e rfl (by rw [h1, z]) hs]; exact b3, b4⟩
      | oi c ys =>
        obtain ⟨b, ws, rfl, b2, b3, b4⟩ := h2
        exact ⟨b, ws, rfl, b2, by rw [upd_ne fun z => R.dist j i _ _ a hj ej rfl e rfl (by rw [h1, z]) hs]; exact b3, b4⟩
      | th ys =>
        obtain ⟨b, ws, rfl, b2, b3, b4⟩ := h2
        exact ⟨b, ws, rfl, b2, by rw [upd_ne fun z => R.dist j i _ _ a hj ej rfl e rfl (by rw [h1, z]) hs]; exact b3, b4⟩
      | exc c => exact h2
  · obtain ⟨u', e1, e2⟩ := ow1 j u ej eo
    exact R.own j u' b e1 e2 es
  · obtain ⟨u', e1, e2⟩ := ow1 j u ej eo
    obtain ⟨w', e3, e4⟩ := ow1 k w ek ek'
    exact R.dist j k u' w' b hjk e1 e2 e3 e4
  · obtain ⟨p1, u, p2, p3⟩ := R.pin p hp
    refine ⟨p1, ?_⟩
    by_cases hj : i = p.1
    · exact ⟨.ow xs', by rw [← hj]; exact List.getElem?_set_self hi, rfl⟩
    · exact ⟨u, by rw [List.getElem?_set_ne hj]; exact p2, p3⟩
  · obtain ⟨x1, x2, x3⟩ := R.ext p hp
    refine ⟨by rw [upd_ne fun z => x3 i _ e rfl (by rw [hs, z])]; exact x1, x2, fun j u ej eo => ?_⟩
    obtain ⟨u', e1, e2⟩ := ow1 j u ej eo
    exact x3 j u' e1 e2
/-- does the slot own a list -/
def fillW (r : En) (i : Nat) : Rs Unit :=
  match lookV r i with
  | some (.ow _) => .ok () r
  | _ => .bad
theorem post_fillW {K : PySem.W.Frag} {g : G} {P : Unit → En → Prop} {r : En} {i : Nat} (h : post K g P (fillW r i)) : (∃ xs, r[i]? = some (some (.ow xs))) ∧ P () r := by
  unfold fillW at h
  split at h
  · next xs e => exact ⟨⟨xs, lookV_some e⟩, h⟩
  · exact h.elim
theorem then_fillW {K : PySem.W.Frag} {F : Hp} {E : Ends} {r : En} {i : Nat} {k : Unit → En → SRs} (h : SPost K g F E (thenS (fillW r i) k)) : (∃ xs, r[i]? = some (some (.ow xs))) ∧ SPost K g F E (k () r) := post_fillW (post_then h)
/-- change the list of a slot -/
def chgS (i : Nat) (f : List D → Option (List D)) (r : En) : SRs :=
  match (lookV r i).bind OV.lst? with
  | some xs => match f xs with
    | some ys => .nx (r.set i (some (.ow ys)))
    | none => .bad
  | none => .bad
theorem chgS_ok {K : PySem.W.Frag} {F0 F H : Hp} {E : Ends} {s : St} {r : En} {i : Nat} {f : List D → Option (List D)} (R : Rel K g F H s r) (sm : Same F0 F) (h : SPost K g F0 E (chgS i f r)) :
    ∃ a vs xs ys, s[i]? = some (some (.ref a)) ∧ H a = some (.lst vs) ∧ RDs K F vs xs ∧ r[i]? = some (some (.ow xs)) ∧ f xs = some ys ∧ ∀ vs', RDs K F vs' ys → E.nx s (L2.upd H a (.lst vs')) := by
  unfold chgS at h
  split at h
  · next xs e =>
    obtain ⟨o, e1, e2⟩ := Option.bind_eq_some_iff.mp e
    cases o with
    | sh d => cases e2
    | ow zs =>
      cases e2
      have e1 := lookV_some e1
      obtain ⟨v, h1, a, vs, rfl, fa, ha, hv⟩ := R.slot i _ e1
      split at h
      · next ys ef => exact ⟨a, vs, xs, ys, h1, ha, hv, e1, ef, fun vs' hv' => h F _ s sm (R.chg e1 h1 fa ha hv')⟩
      · exact h.elim
    | od zs => cases e2
    | oi c zs => cases e2
    | th zs => cases e2
    | exc c => cases e2
  · exact h.elim
variable {e ei : Expr} {pos apos cpos : Pos} {x : Str} {p : Pos}
def appF (d : D) : List D → Option (List D) := fun xs => if xs.length ≤ 1000000 then some (xs ++ [d]) else none
def appS (i : Nat) (f : En → Rs D) : En → SRs := fun r => thenS (fillW r i) fun _ r => thenS (f r) fun d r1 => chgS i (appF d) r1
theorem ds_append {i : Nat} {f : En → Rs D} (hv : PE X (.Name x p) (tVar i)) (h : DE X g e f) (hst : starEach [e] X.env = [(false, eval e X.env)] := by rfl) (hb : attributeBase (.Name x p) "append" X.env (eval (.Name x p) X.env) = eval (.Name x p) X.env := by rfl)
    (hline : (apos.endLine == cpos.line) = true := by rfl) (hsw : swapsWith (.Call (.Attribute (.Name x p) "append" apos) [e] [] cpos) none pos.line X.env = pure false := by rfl)
    (hfew : ((backTo cpos (starEach [e] X.env)).all (fun x => !x.1) && (backToKw cpos (keywordEach [] X.env)).all (fun x => x.1.isSome) && decide ([e].length + ([] : List Keyword).length + (if ([] : List Keyword).isEmpty then 0 else 1) < 30)) = true := by rfl)
    (hpl : (backTo cpos (starEach [] X.env)).any (·.1) = false := by rfl) : DS X g (.Expr (.Call (.Attribute (.Name x p) "append" apos) [e] [] cpos) pos) (appS i f) :=
  PS.imp (ps_expr (pe_bm PySem.F.plainAttrs_list PySem.F.slot_list_append PySem.F.type_list_append mt_append hv (pa_cons h pa_nil hst) hb hfew hline hst hpl) hsw) fun E s H ⟨F, r, R, q⟩ => by
    obtain ⟨⟨xs, e0⟩, q⟩ := then_fillW q
    obtain ⟨v, h1, a, vs, rfl, fa, ha, hvs⟩ := R.slot i _ e0
    refine ⟨_, h1, .inl ⟨rfl, vs, .of ha⟩, F, r, R, post_mono (post_then q) fun d r1 q F1 H1 w sm R1 hw => ?_⟩
    obtain ⟨b, ws, zs, ys, g1, g2, g3, g4, g5, g6⟩ := chgS_ok R1 sm q
    rw [h1] at g1
    cases g1
    unfold appF at g5
    split at g5
    · next hl =>
      cases g5
      exact ⟨a, ws, w, rfl, rfl, g2, by rw [g3.length]; exact Nat.lt_of_le_of_lt hl (by decide), g6 _ (g3.app (.cons hw .nil))⟩
    · cases g5
def extF (d : D) : List D → Option (List D) := fun xs => match d with
  | .lst ys => if xs.length + ys.length ≤ 1000000 then some (xs ++ ys) else none
  | _ => none
def extS (i : Nat) (f : En → Rs D) : En → SRs := fun r => thenS (fillW r i) fun _ r => thenS (f r) fun d r1 => chgS i (extF d) r1
/-- name[i] = e -/
def putF (k : D) (d : D) : List D → Option (List D) := fun xs => match k with
  | .int i => (ixN xs.length i).map fun j => xs.set j d
  | _ => none
def putS (i : Nat) (fi f : En → Rs D) : En → SRs := fun r => thenS (f r) fun d r1 => thenS (fillW r1 i) fun _ r1 => thenS (fi r1) fun k r2 => chgS i (putF k d) r2
theorem ds_put {i : Nat} {fi f : En → Rs D} {sp : Pos} (hv : PE X (.Name x p) (tVar i)) (hi : DE X g ei fi) (h : DE X g e f) (hs : swapsWithSole [.Subscript (.Name x p) ei sp] e pos.line X.env = pure false := by rfl) (hw : swappedStores [.Subscript (.Name x p) ei sp] e X.env = pure none := by rfl)
    (h1 : (assignEach [.Subscript (.Name x p) ei sp] X.env).map (·.2) = [assign (.Subscript (.Name x p) ei sp) X.env] := by rfl)
    (ha : ∀ v, assign (.Subscript (.Name x p) ei sp) X.env v = (do
      let ov ← holding [v] (eval (.Name x p) X.env)
      let iv ← holding [v, ov] (eval ei X.env)
      standAt sp
      holding [v, ov, iv] (setItem ov iv v)
      release [v, ov, iv] []) := by intro _; rfl) : DS X g (.Assign [.Subscript (.Name x p) ei sp] e pos) (putS i fi f) :=
  PS.imp (ps_asg h (pg_sub hv hi set_list ha) hs hw h1) fun E s H ⟨F, r, R, q⟩ => ⟨F, r, R, post_mono (post_then q) fun d r1 q F1 H1 w sm R1 hw => by
    obtain ⟨⟨xs, e0⟩, q⟩ := then_fillW q
    obtain ⟨v, h1, a, vs, rfl, fa, ha, hvs⟩ := R1.slot i _ e0
    refine ⟨_, h1, F1, r1, R1, post_mono (post_then q) fun k r2 q F2 H2 vk sm2 R2 hk => ?_⟩
    obtain ⟨b, ws, zs, ys, g1, g2, g3, g4, g5, g6⟩ := chgS_ok R2 (sm.trans sm2) q
    rw [h1] at g1
    cases g1
    unfold putF at g5
    split at g5
    · obtain ⟨j, g7, rfl⟩ := Option.map_eq_some_iff.mp g5
      cases hk
      exact ⟨a, ws, _, j, rfl, rfl, g2, by rw [g3.length]; exact g7, g6 _ (g3.upd (RD.mono sm2 d hw) j)⟩
    · cases g5⟩
/-- an item of a tracked list, by values -/
theorem get_list : PGet X (fun o i H Q => ∃ a vs k v, o = .ref a ∧ i = .int k ∧ H a = some (.lst vs) ∧ 0 ≤ k ∧ k < 1000000 ∧ vs[k.toNat]? = some v ∧ Q v H) := by
  intro pins s sg H o i ov iv Q I ro ri h
  obtain ⟨a, vs, k, v, rfl, rfl, ha, h0, h1, hv, q⟩ := h
  cases ro
  obtain ⟨t, rfl⟩ := ri
  obtain ⟨its, rv, pl, _⟩ := I.list (SqL.of ha)
  obtain ⟨u, hu, ru⟩ := rv.get hv
  exact PySem.wpAny_getItem_list pl.isList h0 (by omega) (by simpa using hu) ⟨v, H, I, ru, q⟩
/-- name[i] += e, ints -/
def augF (k d : D) : List D → Option (List D) := fun xs => match k, d with
  | .int i, .int y => if 0 ≤ i ∧ i < 1000000 then match xs[i.toNat]? with
    | some (.int z) => some (xs.set i.toNat (.int (z + y)))
    | _ => none else none
  | _, _ => none
def augS (i : Nat) (k y : Int) : En → SRs := fun r => chgS i (augF (.int k) (.int y)) r
theorem ixN_nat {n : Nat} {k : Int} (h0 : 0 ≤ k) (h : k.toNat < n) : ixN n k = some k.toNat := by
  unfold ixN
  rw [if_pos h0, if_pos (by omega)]
theorem ds_augI {i : Nat} {k y : Int} {j1 j2 : Nat} {sp p1 p2 : Pos} (hv : PE X (.Name x p) (tVar i))
    (ha : ∀ ov iv new, augStore (.Constant (.int k) j1 p1) ov iv new = (do holding [new, ov, iv] (setItem ov iv new); release [new, ov, iv] []; pure .next) := by intros; rfl) :
    DS X g (.AugAssign (.Subscript (.Name x p) (.Constant (.int k) j1 p1) sp) .Add (.Constant (.int y) j2 p2) pos) (augS i k y) :=
  PS.imp (ps_augS hv pe_int get_list pe_int ip_add set_list ha) fun E s H ⟨F, r, R, q⟩ => by
    obtain ⟨a, ws, zs, ys, g1, g2, g3, g4, g5, g6⟩ := chgS_ok R (Same.refl _) q
    have g5 : (if 0 ≤ k ∧ k < 1000000 then match zs[k.toNat]? with
      | some (.int z) => some (zs.set k.toNat (.int (z + y)))
      | _ => none else none) = some ys := g5
    split at g5
    · next hk =>
      split at g5
      · next z ez =>
        cases g5
        obtain ⟨w, k1, k2⟩ := g3.get ez
        cases k2
        refine ⟨_, g1, a, ws, k, _, rfl, rfl, g2, hk.1, hk.2, k1, z, y, rfl, rfl, a, ws, k, k.toNat, rfl, rfl, g2, ixN_nat hk.1 ?_, g6 _ (g3.upd (.int _) _)⟩
        exact (List.getElem?_eq_some_iff.mp k1).1
      · cases g5
    · cases g5
end

/-! ### walks of any data -/
def signs (x : Str) : List D := x.cps.toList.map fun c => .str ⟨#[c]⟩
def D.items : D → Option (List D)
  | .lst ds => some ds
  | .tup ds => some ds
  | .str x => if x.length ≤ 1000000 then some (signs x) else none
  | _ => none
def itA (f : En → Rs D) : En → Rs (List D) := fun r => (f r).bind fun d r1 => ofO d.items r1
section
variable {X : Cx} {g : G} {tg e a b : Expr} {pos p : Pos}
theorem PI.or {X : Cx} {tg e : Expr} {t t' : TI} (h : PI X tg e t) (h' : PI X tg e t') : PI X tg e (fun s H Q => t s H Q ∨ t' s H Q) :=
  ⟨fun pins s sg H Q I q => q.elim (h.run pins s sg H Q I) (h'.run pins s sg H Q I)⟩
theorem wk_str {K : PySem.W.Frag} {B : List (Nat × Addr)} {F : Hp} {x : Str} {J : It} (hg : ∀ i H, i < x.cps.size → J.go i H) (hy : ∀ (i : Nat) H v H', J.yld i H v H' → H' = H ∧ ∃ c, x.cps[i]? = some c ∧ v = .str ⟨#[c]⟩) (hs : ∀ i H, x.cps.size ≤ i → J.stop i H) : Wk K B F J (signs x) := fun g F1 H1 s r _ sm R => by
  refine ⟨fun i d ed => ?_, fun i hi => hs i H1 (by unfold signs at hi; simpa using hi)⟩
  unfold signs at ed
  rw [List.getElem?_map] at ed
  obtain ⟨c, e1, rfl⟩ := Option.map_eq_some_iff.mp ed
  have hi : i < x.cps.size := by
    have := (List.getElem?_eq_some_iff.mp e1).1
    simpa using this
  refine ⟨hg i H1 hi, fun v H2 hv => ?_⟩
  obtain ⟨rfl, c', e2, rfl⟩ := hy i H1 v H2 hv
  have e3 : x.cps[i]? = some c := by simpa using e1
  rw [e3] at e2
  cases e2
  exact ⟨F1, Same.refl _, R, .str _⟩
end
end DL

/-! Data layer, part 9: walks, methods of texts, constants of the module, the end. -/
namespace DL
open PySem L2
section
variable {X : Cx} {g : G} {tg e a b o : Expr} {pos p apos : Pos}
theorem di_any {f : En → Rs D} (h : DE X g e f) : DI X g tg e (itA f) := by
  refine PI.imp (PI.or (PI.or (pi_list h) (pi_tup h)) (pi_str h)) fun s H Q ⟨F, r, R, q⟩ => ?_
  cases ef : f r with
  | bad =>
    unfold itA at q
    rw [ef] at q
    exact q.elim
  | ex x r1 =>
    unfold itA at q
    rw [ef] at q
    exact .inl (.inl ⟨F, r, R, by rw [ef]; exact q⟩)
  | ok d r1 =>
    have q : post X.K g (PI' X.K g F s Q) (ofO d.items r1) := by
      unfold itA at q
      rw [ef] at q
      exact q
    obtain ⟨ds, ed, q⟩ := post_ofO q
    cases d with
    | lst zs =>
      cases ed
      refine .inl (.inl ⟨F, r, R, ?_⟩)
      rw [ef]
      intro F1 H1 v sm R1 hv
      cases hv with
      | lst h1 h2 => exact ⟨_, rfl, ⟨_, .of (R1.sub _ _ h1)⟩, q F1 H1 _ sm R1 (wk_list h1 h2)⟩
    | tup zs =>
      cases ed
      refine .inl (.inr ⟨F, r, R, ?_⟩)
      rw [ef]
      intro F1 H1 v sm R1 hv
      cases hv with
      | tup h1 h2 => exact ⟨_, rfl, ⟨_, same_sqT R1.sub h1⟩, q F1 H1 _ sm R1 (wk_tup h1 h2)⟩
    | str x =>
      have ed : (if x.length ≤ 1000000 then some (signs x) else none) = some ds := ed
      split at ed
      · cases ed
        refine .inr ⟨F, r, R, ?_⟩
        rw [ef]
        intro F1 H1 v sm R1 hv
        cases hv
        exact ⟨x, rfl, q F1 H1 _ sm R1 (wk_str (fun i H hi => hi) (fun i H v H' hy => hy) fun i H hi => hi)⟩
      · cases ed
    | _ => cases ed
/-- zip of two lists, of two tuples -/
def zipD : List D → List D → List D
  | x :: xs, y :: ys => .tup [x, y] :: zipD xs ys
  | _, _ => []
def zip2 : D → D → Option (List D)
  | .lst xs, .lst ys => some (zipD xs ys)
  | .tup xs, .tup ys => some (zipD xs ys)
  | _, _ => none
def zpD (f h : En → Rs D) : En → Rs (List D) := fun r => (f r).bind fun d r1 => (h r1).bind fun e r2 => ofO (zip2 d e) r2
/-- enumerate of a list -/
def enumD : Nat → List D → List D
  | _, [] => []
  | n, d :: ds => .tup [.int (n : Int), d] :: enumD (n + 1) ds
def enD (f : En → Rs D) : En → Rs (List D) := fun r => (f r).bind fun d r1 => ofO (d.asL.map (enumD 0)) r1
/-! ### methods of texts -/
def m1D (p q : Opd) (sem : D → D → Option D) : En → Rs D := fun r => (p.run r).bind fun x r1 => match look r1 x with
  | some (.str y) => (q.run r1).bind fun z r2 => ofO ((look r2 z).bind fun d => sem (.str y) d) r2
  | _ => .bad
theorem de_m1 {id : String} {name : Str} {pp q : Opd} {sem : D → D → Option D} (slot : Slot "str" name id) (ty : typeOf (.builtin id) = pure (.type "method_descriptor")) (rule : MtR X id (fun x xs H Q => ∃ y, xs = [y] ∧ rD2 X.K g sem x y H Q)) (ho : DB X g o pp) (he : DB X g e q)
    (hs : starEach [e] X.env = [(false, eval e X.env)] := by rfl) (hbase : attributeBase o name X.env (eval o X.env) = eval o X.env := by rfl) (hline : (apos.endLine == pos.line) = true := by rfl) : DE X g (.Call (.Attribute o name apos) [e] [] pos) (m1D pp q sem) :=
  PE.imp (pe_m1 slot ty rule ho he hs hbase hline) fun s H Q ⟨F, r, R, h⟩ => ⟨F, r, R, post_mono (post_bind h) fun z r1 q1 F1 H1 v sm R1 hv => by
    cases el : look r1 z with
    | none => rw [el] at q1; exact q1.elim
    | some d =>
      cases d with
      | str y =>
        rw [el] at q1
        have hb := look_ok R1 hv el
        cases hb.flat (fun _ => nofun)
        refine ⟨⟨y, rfl⟩, F1, r1, R1, post_mono (post_bind q1) fun z2 r2 q2 F2 H2 w s2 R2 hw => ⟨w, rfl, ?_⟩⟩
        obtain ⟨d, e, q2⟩ := post_ofO q2
        obtain ⟨dy, e2, e3⟩ := Option.bind_eq_some_iff.mp e
        exact ⟨F2, s, r2, .str y, dy, d, R2, .inl (.str y), look_ok R2 hw e2, e3, fun F3 H3 v3 s3 R3 h3 => q2 F3 H3 v3 ((sm.trans s2).trans s3) R3 h3⟩
      | _ => rw [el] at q1; exact q1.elim⟩
def semSIndex : D → D → Option D
  | .str x, .str y => match Builtin.Str.occurrences x y 0 x.length 1 with
    | i :: _ => some (.int (i : Nat))
    | [] => none
  | _, _ => none
theorem md_sindex : MtR X "str.index" (fun x xs H Q => ∃ y, xs = [y] ∧ rD2 X.K g semSIndex x y H Q) := by
  intro pins s sg H x xs v us Q I rx rv h
  obtain ⟨y, rfl, F, s0, r, dx, dy, d, R, hx, hy, e, q⟩ := h
  unfold semSIndex at e
  split at e
  · split at e
    · next i rest eo =>
      cases e
      cases hx.flat (fun _ => nofun); cases hy.flat (fun _ => nofun)
      exact mt_sindex pins s sg H _ _ v us Q I rx rv ⟨_, _, i, rest, rfl, rfl, eo, q F H _ (Same.refl _) R (.int _)⟩
    · cases e
  · cases e
def strsOf : List D → Option (List Str)
  | [] => some []
  | .str b :: ds => (strsOf ds).map fun bs => b :: bs
  | _ :: _ => none
theorem strs_vs {K : PySem.W.Frag} {F : Hp} : ∀ {vs : List V} {ds : List D} {bs : List Str}, RDs K F vs ds → strsOf ds = some bs → vs = bs.map V.str
  | _, [], bs, h, e => by cases h; cases e; rfl
  | _, d :: ds, bs, h, e => by
    cases h with
    | cons h1 h2 =>
      cases d with
      | str b =>
        obtain ⟨bs', e1, rfl⟩ := Option.map_eq_some_iff.mp e
        cases h1
        rw [strs_vs h2 e1]; rfl
      | _ => cases e
theorem RDs.strs {K : PySem.W.Frag} {F : Hp} : ∀ bs : List Str, RDs K F (bs.map V.str) (bs.map D.str)
  | [] => .nil
  | b :: bs => .cons (.str b) (RDs.strs bs)
def semJoin : D → D → Option D
  | .str x, .lst ds => (strsOf ds).bind fun ys => if (ys.map (·.length)).sum + ys.length * x.length ≤ 1000000 then some (.str (Txt.join x ys)) else none
  | .str x, .tup ds => (strsOf ds).bind fun ys => if (ys.map (·.length)).sum + ys.length * x.length ≤ 1000000 then some (.str (Txt.join x ys)) else none
  | _, _ => none
theorem md_join : MtR X "str.join" (fun x xs H Q => ∃ y, xs = [y] ∧ rD2 X.K g semJoin x y H Q) := by
  intro pins s sg H x xs v us Q I rx rv h
  obtain ⟨y, rfl, F, s0, r, dx, dy, d, R, hx, hy, e, q⟩ := h
  unfold semJoin at e
  split at e
  · obtain ⟨ys, e1, e2⟩ := Option.bind_eq_some_iff.mp e
    split at e2
    · next hl =>
      cases e2
      cases hx.flat (fun _ => nofun)
      obtain ⟨a, vs, rfl, h1, h2⟩ := hy.lst R.sub
      have ev := strs_vs h2 e1
      subst ev
      exact mt_join pins s sg H _ _ v us Q I rx rv ⟨_, a, ys, rfl, rfl, .inl (.of h1), Nat.le_trans hl (by decide), q F H _ (Same.refl _) R (.str _)⟩
    · cases e2
  · obtain ⟨ys, e1, e2⟩ := Option.bind_eq_some_iff.mp e
    split at e2
    · next hl =>
      cases e2
      cases hx.flat (fun _ => nofun)
      obtain ⟨a, vs, rfl, h1, _, h2⟩ := hy.tup R.sub
      have ev := strs_vs h2 e1
      subst ev
      exact mt_join pins s sg H _ _ v us Q I rx rv ⟨_, a, ys, rfl, rfl, .inr h1, Nat.le_trans hl (by decide), q F H _ (Same.refl _) R (.str _)⟩
    · cases e2
  · cases e
def semSplit : D → D → Option D
  | .str x, .str y => if y.length ≠ 0 ∧ x.length ≤ 1000000 then some (.lst ((Txt.split x y).map D.str)) else none
  | _, _ => none
theorem md_split : MtR X "str.split" (fun x xs H Q => ∃ y, xs = [y] ∧ rD2 X.K g semSplit x y H Q) := by
  intro pins s sg H x xs v us Q I rx rv h
  obtain ⟨y, rfl, F, s0, r, dx, dy, d, R, hx, hy, e, q⟩ := h
  unfold semSplit at e
  split at e
  · split at e
    · next hl =>
      cases e
      cases hx.flat (fun _ => nofun); cases hy.flat (fun _ => nofun)
      have hz : (1000000 : Nat) + 2 ≤ sizeLine := by decide
      exact mt_split pins s sg H _ _ v us Q I rx rv ⟨_, _, rfl, rfl, by simpa using hl.1, by omega, PD.lst R (RDs.strs _) q⟩
    · cases e
  · cases e

/-! ### constants of the module -/
theorem de_glob {x : Str} {d : D} {v : V} {u : Value} (hm : X.mg x = some u) (rv : RelV v u) (hd : ∀ F : Hp, RD X.K F v d) (hg : Gl X x := by rfl) (hdb : (x == ("__debug__" : Str)) = false := by decide) : DE X g (.Name x p) (cD d) :=
  PE.imp (pe_glob hg hm rv hdb) fun s H Q ⟨F, r, R, q⟩ => q F H _ (Same.refl _) R (hd F)
/-- T[e], T a dict of the module with text keys: by a table -/
def tabD (t : List (Str × D)) (p : Opd) : En → Rs D := op1 p fun d => match d with
  | .str x => t.lookup x
  | _ => none
/-- a dict of the written part, whose values are flat -/
structure Tab (K : PySem.W.Frag) (w : World) (d : Addr) (t : List (Str × D)) : Prop where
  val : ∀ x z, t.lookup x = some z → ∃ v, KDct K w d x v ∧ ∀ F : Hp, RD K F v z
end

/-! ### the end -/
theorem walkG {l : PySem.W.OpenLaw} {n k : Nat} {q : Program} {loose : List Str} {XP : (Str → Option Value) → Heap → Prop} {YP : World → Heap → Prop} {d : DefRec} {K : Params → PySem.W.Frag} {f : List D → Option OV} {x : Str}
    (hi : PyProof.Rows.importsNone q = true) (hn : l.most = some n) (hn2 : n ≤ sizeLine) (hdf : d.params.defaults = []) (room : Room k callerA) (hY : ∀ (w : World) (h : Heap), YP w h → (K w.params).In h)
    (F : ∀ (w : World) (mg : Str → Option Value) (fa : Addr) (h : Heap), (K w.params).In h → h.Ns mainGlobals mg → mg d.name = some (.ref fa) →
      ∃ fd : FuncData, (∀ (s : Shared) (u : Value), BindsTo s fd ⟨[u], []⟩ [(x, u)]) ∧ ∀ base : Heap, (K w.params).In base → base.Ns mainGlobals mg → SysAt base → FnG l.prog w (K w.params) mg base CX0 k fa fd [x] (spP (K w.params) 1 f))
    (hf : ∀ ns : List Int, ns.length ≤ n → f [.scr ns] = some (.sh (.bl true))) : PySem.W.WalkO q loose XP YP l.row.toRowW d [] (fun f vs => PySem.call f vs) := by
  refine Att.attach_call hn hdf fun w s0 s1 mg mb fa o pm cd doc a vs ns T Y ho hd hcd hmg hobj hnums hlen hg => ?_
  obtain ⟨fd, hb, FF⟩ := F w mg fa _ (hY w _ Y) T.T.g hmg
  refine law_callG (hY w _ Y) T.T.g T.T.b T.T.builtins T.T.nolimit (let ⟨mm, h, _⟩ := (T.T.seer hi).mods; ⟨mm, h⟩) hg hobj hnums (Nat.le_trans hlen hn2) room FF hb fun H only sq => ?_
  refine ⟨H, [.scr ns], .sh (.bl true), Same.refl _, .cons (.scr ns sq) .nil, rfl, hf ns hlen, fun F' H' v _ _ _ _ hv => ?_⟩
  have hv : RD (K w.params) F' v (.bl true) := hv
  cases hv
  rfl
end DL

/-! Data layer, part 10: a, b = x, y. -/
namespace DL
open PySem L2
section
variable {X : Cx} {g : G} {a b c : Expr} {pos pt pt2 px py pz : Pos} {x y z : Str} {kt k2 i j l : Nat}
def par2 (i j : Nat) (f : En → Rs D) (h : En → Rs OV) : En → SRs := fun r => thenS (f r) fun d r1 => thenS (h r1) fun o r2 => .nx ((r2.set i (some (.sh d))).set j (some o))
def par3 (i j l : Nat) (f f2 : En → Rs D) (h : En → Rs OV) : En → SRs := fun r => thenS (f r) fun d r1 => thenS (f2 r1) fun d2 r2 => thenS (h r2) fun o r3 => .nx (((r3.set i (some (.sh d))).set j (some (.sh d2))).set l (some o))
/-- an owned value is nobody's, whatever is stored elsewhere -/
theorem RV.set {K : PySem.W.Frag} {F H : Hp} {s : St} {r : En} {v w : V} {o : OV} {d : D} {i : Nat} (hv : RV K g F H s r v o) : RV K g F H (s.set i (some w)) (r.set i (some (.sh d))) v o := by
  cases o with
  | sh d' => exact hv
  | ow xs =>
    obtain ⟨a, vs, e1, e2, e3, e4, e5, e6, e7⟩ := hv
    refine ⟨a, vs, e1, e2, e3, e4, e5, fun k u ek eo => ?_, e7⟩
    by_cases hk : i = k
    · subst hk
      by_cases hi : i < r.length
      · rw [List.getElem?_set_self hi] at ek; cases ek; cases eo
      · rw [List.getElem?_eq_none (by simpa using hi)] at ek; cases ek
    · rw [List.getElem?_set_ne hk] at ek ⊢
      exact e6 k u ek eo
  | od xs => exact hv.elim
  | oi c xs => exact hv.elim
  | th xs => exact hv.elim
  | exc c => exact hv.elim
theorem RV.laid {K : PySem.W.Frag} {F H : Hp} {s : St} {r : En} {v : V} {o : OV} {p : Addr} {u : HO} (np : H p = none) (hv : RV K g F H s r v o) : RV K g F (L2.upd H p u) s r v o := by
  cases o with
  | sh d' => exact hv
  | ow xs =>
    obtain ⟨a, vs, e1, e2, e3, e4, e5, e6, e7⟩ := hv
    exact ⟨a, vs, e1, e2, same_upd np _ _ e3, e4, e5, e6, e7⟩
  | od xs => exact hv.elim
  | oi c xs => exact hv.elim
  | th xs => exact hv.elim
  | exc c => exact hv.elim
theorem ds_par2 {f : En → Rs D} {h : En → Rs OV} (hbi : ∀ p ∈ g.B, p.1 ≠ i) (hbj : ∀ p ∈ g.B, p.1 ≠ j) (hN : X.N.Nodup) (hc : X.calm = true) (hij : i ≠ j) (hf : DE X g a f) (hh : DO X g b h) (hi : X.N[i]? = some x := by rfl) (hj : X.N[j]? = some y := by rfl)
    (hx : X.env.scope.names.lookup x = some .local := by rfl) (hy : X.env.scope.names.lookup y = some .local := by rfl)
    (hw : swappedStores [.Tuple [.Name x px, .Name y py] kt pt] (.Tuple [a, b] k2 pt2) X.env = pure (some [x, y]) := by rfl)
    (hs : swapsWithSole [.Tuple [.Name x px, .Name y py] kt pt] (.Tuple [a, b] k2 pt2) pos.line X.env = pure false := by rfl)
    (h1 : starEach [a, b] X.env = (false, eval a X.env) :: starEach [b] X.env := by rfl) (h2 : starEach [b] X.env = (false, eval b X.env) :: starEach [] X.env := by rfl) :
    DS X g (.Assign [.Tuple [.Name x px, .Name y py] kt pt] (.Tuple [a, b] k2 pt2) pos) (par2 i j f h) :=
  PS.imp (ps_par hc hN hi hj hij hx hy (pa_cons hf (pa_cons hh pa_nil h2) h1) hw hs) fun E s H ⟨F, r, R, q⟩ => ⟨F, r, R, post_mono (post_then q) fun d r1 q F1 H1 v sm R1 hv => ⟨F1, r1, R1, post_mono (post_then q) fun o r2 q F2 H2 w sm2 R2 hw => by
    exact ⟨v, w, rfl, q F2 H2 _ (sm.trans sm2) ((R2.set hbi (o := .sh d) (RD.mono sm2 d hv)).set hbj hw.set)⟩⟩⟩
/-- the same where a tuple is made and taken apart (a name is a cell, or on another line) -/
theorem ds_tup2 {f : En → Rs D} {h : En → Rs OV} (hbi : ∀ p ∈ g.B, p.1 ≠ i) (hbj : ∀ p ∈ g.B, p.1 ≠ j) (hN : X.N.Nodup) (hc : X.calm = true) (hf : DE X g a f) (hh : DO X g b h) (hi : X.N[i]? = some x := by rfl) (hj : X.N[j]? = some y := by rfl)
    (hx : Loc X.env.scope x := by first | exact Or.inl rfl | exact Or.inr rfl) (hy : Loc X.env.scope y := by first | exact Or.inl rfl | exact Or.inr rfl)
    (hw : swappedStores [.Tuple [.Name x px, .Name y py] kt pt] (.Tuple [a, b] k2 pt2) X.env = pure none := by rfl)
    (hs : swapsWithSole [.Tuple [.Name x px, .Name y py] kt pt] (.Tuple [a, b] k2 pt2) pos.line X.env = pure false := by rfl)
    (h1 : starEach [a, b] X.env = (false, eval a X.env) :: starEach [b] X.env := by rfl) (h2 : starEach [b] X.env = (false, eval b X.env) :: starEach [] X.env := by rfl)
    (hfx : X.fn x = true ∨ X.env.scope.names.lookup x = some .local := by first | exact .inl rfl | exact .inr rfl) (hfy : X.fn y = true ∨ X.env.scope.names.lookup y = some .local := by first | exact .inl rfl | exact .inr rfl)
    (hst : (assignEach [.Name x px, .Name y py] X.env).findIdx? (·.1) = none := by rfl) (hln : (assignEach [.Name x px, .Name y py] X.env).length = 2 := by rfl)
    (ha1 : (assignEach [.Name x px, .Name y py] X.env).map (·.2) = assign (.Name x px) X.env :: (assignEach [.Name y py] X.env).map (·.2) := by rfl) (ha2 : (assignEach [.Name y py] X.env).map (·.2) = assign (.Name y py) X.env :: (assignEach [] X.env).map (·.2) := by rfl)
    (ha0 : (assignEach [.Tuple [.Name x px, .Name y py] kt pt] X.env).map (·.2) = [assign (.Tuple [.Name x px, .Name y py] kt pt) X.env] := by rfl) :
    DS X g (.Assign [.Tuple [.Name x px, .Name y py] kt pt] (.Tuple [a, b] k2 pt2) pos) (par2 i j f h) :=
  PS.imp (ps_asg (pe_tup (pa_cons hf (pa_cons hh pa_nil h2) h1)) (pg_tup hc (pgs_cons (pg_name (i := i) hN hi hx hfx) (pgs_cons (pg_name (i := j) hN hj hy hfy) pgs_nil ha2) ha1) hln hst) hs hw ha0) fun E s H ⟨F, r, R, q⟩ => ⟨F, r, R, post_mono (post_then q) fun d r1 q F1 H1 v sm R1 hv => ⟨F1, r1, R1, post_mono (post_then q) fun o r2 q F2 H2 w sm2 R2 hw => by
    refine ⟨by show 2 ≤ sizeLine; decide, fun p np => ⟨p, [v, w], rfl, .of upd_same, rfl, v, [w], rfl, w, [], rfl, rfl, ?_⟩⟩
    exact q F2 _ _ (sm.trans sm2) (((R2.laid np).set hbi (o := .sh d) (RD.mono sm2 d hv)).set hbj (hw.laid np).set)⟩⟩
end
end DL

/-! Data layer, part 11: what the printed texts use. -/
namespace DL
open PySem L2
theorem nb {g : G} {bs : List Nat} (h : g.B.map (·.1) = bs) (i : Nat) (hi : i ∉ bs) : ∀ p ∈ g.B, p.1 ≠ i := fun p hp z => hi (by rw [← h]; exact List.mem_map.mpr ⟨p, hp, z⟩)
theorem nb00 {g : G} (h : g.B = []) : g.B.map (·.1) = [] := by rw [h]; rfl
theorem nbs {g : G} {bs vs : List Nat} (h : g.B.map (·.1) = bs) (hv : ∀ i ∈ bs, i ∉ vs) : ∀ p ∈ g.B, p.1 ∉ vs := fun p hp => hv _ (by rw [← h]; exact List.mem_map.mpr ⟨p, hp, rfl⟩)
theorem nbt {g g' : G} {bs : List Nat} (e : Blk g g') (h : g.B.map (·.1) = bs) : g'.B.map (·.1) = bs := by rw [e.B]; exact h
theorem u65 {k : Nat} {A : Around} (r : Room k A) : A.units + 65 < cLine := by have := r.un; omega
def frzD (f : En → Rs OV) : En → Rs D := fun r => (f r).map OV.d
def shD (f : En → Rs D) : En → Rs OV := fun r => (f r).map OV.sh
def yesT : En → Rs Bool := fun r => .ok true r
section
variable {X : Cx} {g : G} {e c : Expr}
theorem DO.fz {f : En → Rs OV} (h : DO X g e f) : DE X g e (frzD f) := h.frz
theorem DE.shd {f : En → Rs D} (h : DE X g e f) : DO X g e (shD f) := h.sh
theorem PTs.imp {ifs : List Expr} {t t' : TT} (h : PTs X ifs t) (i : ∀ s H Q, t' s H Q → t s H Q) : PTs X ifs t' := ⟨fun pins s sg H Q I q => h.run pins s sg H Q I (i sg H Q q)⟩
theorem pts_nilD : PTs X [] (tTD X.K g yesT) := PTs.imp pts_nil fun s H Q ⟨F, r, R, q⟩ => q F H (Same.refl _) R
theorem pts_oneD {f : En → Rs Bool} (h : DT X g c f) : PTs X [c] (tTD X.K g f) := pts_one h
end
/-- a def of the text stands under its name -/
def FnAt (K : PySem.W.Frag) (mg : Str → Option Value) (x : Str) (st : Stmt) : Prop := ∃ f fd, Fun K x x st f fd ∧ mg x = some (.ref f)
/-- a dict of the module with texts as values -/
def TabOk (K : PySem.W.Frag) (d : Addr) : List (Str × Str) → Prop
  | [] => True
  | p :: r => (∃ t, PySem.W.nsIn K d p.1 = some (some (.str p.2 t))) ∧ TabOk K d r
end DL

/-! Data layer, part 12: plain lemmas about the functions of the layer. -/
namespace DL
open PySem L2
/-- a comprehension whose turns keep an invariant of the environment -/
theorem lcS_inv {vs : List Nat} {h : D → En → Option En} {t : En → Rs Bool} {elt : En → Rs D} (I : En → Prop) (P : D → Prop) : ∀ (ds : List D), (∀ d ∈ ds, ∀ r, I r → ∃ r1 r2 y r3, h d (wipeE r vs) = some r1 ∧ t r1 = .ok true r2 ∧ elt r2 = .ok y r3 ∧ P y ∧ I (wipeE r3 vs)) →
    ∀ r, I r → ∃ ys r', lcS vs h t elt ds r = .ok ys r' ∧ ys.length = ds.length ∧ (∀ y ∈ ys, P y) ∧ I r'
  | [], _, r, hr => ⟨[], r, rfl, rfl, fun _ z => absurd z List.not_mem_nil, hr⟩
  | d :: ds, st, r, hr => by
    obtain ⟨r1, r2, y, r3, e1, e2, e3, hy, h3⟩ := st d (List.mem_cons_self ..) r hr
    obtain ⟨ys, r', e4, e5, e6, e7⟩ := lcS_inv I P ds (fun d hd => st d (List.mem_cons_of_mem _ hd)) _ h3
    refine ⟨y :: ys, r', ?_, by rw [List.length_cons, List.length_cons, e5], fun z hz => ?_, e7⟩
    · unfold lcS
      rw [e1]
      simp only [e2, Rs.bind, if_true, e3, e4]
    · rcases List.mem_cons.mp hz with rfl | hz
      · exact hy
      · exact e6 z hz
/-- a comprehension that changes nothing -/
theorem lcS_map {vs : List Nat} {h : D → En → Option En} {t : En → Rs Bool} {elt : En → Rs D} (p : D → Bool) (q : D → D) (r : En) : ∀ (ds : List D), (∀ d ∈ ds, ∃ r1 r2, h d (wipeE r vs) = some r1 ∧ t r1 = .ok (p d) r2 ∧ wipeE r2 vs = r ∧ (p d = true → ∃ r3, elt r2 = .ok (q d) r3 ∧ wipeE r3 vs = r)) →
    lcS vs h t elt ds r = .ok ((ds.filter p).map q) r
  | [], _ => rfl
  | d :: ds, st => by
    obtain ⟨r1, r2, e1, e2, e0, e3⟩ := st d (List.mem_cons_self ..)
    have ih := lcS_map p q r ds fun d hd => st d (List.mem_cons_of_mem _ hd)
    unfold lcS
    rw [e1]
    simp only [e2, Rs.bind]
    cases hp : p d with
    | false =>
      rw [List.filter_cons_of_neg (by simp [hp])]
      simp only [Bool.false_eq_true, if_false]
      rw [e0]
      exact ih
    | true =>
      obtain ⟨r3, e4, e5⟩ := e3 hp
      rw [List.filter_cons_of_pos hp]
      simp only [if_true, e4, e5, ih, List.map_cons]
/-- a for whose turns keep an invariant by the number of the turn and go on -/
theorem forS_inv {h : D → En → Option En} {body : En → SRs} (ds : List D) (I : Nat → En → Prop) (st : ∀ (i : Nat) (d : D), ds[i]? = some d → ∀ r, I i r → ∃ r1 r2, h d r = some r1 ∧ body r1 = .nx r2 ∧ I (i + 1) r2) : ∀ r, I 0 r → ∃ r', forS h body ds r = .nx r' ∧ I ds.length r' := by
  have go : ∀ (es : List D) (k : Nat), (∀ (i : Nat) (d : D), es[i]? = some d → ds[k + i]? = some d) → ∀ r, I k r → ∃ r', forS h body es r = .nx r' ∧ I (k + es.length) r' := fun es => by
    induction es with
    | nil => exact fun k _ r hr => ⟨r, rfl, hr⟩
    | cons d es ih =>
      intro k hk r hr
      obtain ⟨r1, r2, e1, e2, h2⟩ := st k d (hk 0 d rfl) r hr
      obtain ⟨r', e3, h3⟩ := ih (k + 1) (fun i d' hd => by rw [show k + 1 + i = k + (i + 1) by omega]; exact hk (i + 1) d' hd) r2 h2
      refine ⟨r', ?_, by rw [List.length_cons, show k + (es.length + 1) = k + 1 + es.length by omega]; exact h3⟩
      unfold forS
      rw [e1]
      simp only [e2, e3]
  intro r hr
  obtain ⟨r', e, h'⟩ := go ds 0 (fun i d hd => by rw [Nat.zero_add]; exact hd) r hr
  rw [Nat.zero_add] at h'
  exact ⟨r', e, h'⟩
theorem rangeD_len (lo : Int) (n : Nat) : (rangeD lo n).length = n := by unfold rangeD; simp
theorem atI_lt {α : Type} {xs : List α} {i : Int} (h0 : 0 ≤ i) (h : i < xs.length) : atI xs i = some (xs[i.toNat]'(by omega)) := by
  unfold atI ixN
  rw [if_pos h0, if_pos h]
  simp only [Option.bind_some]
  exact List.getElem?_eq_getElem _
theorem atI_mem {α : Type} {xs : List α} {i : Int} (h0 : 0 ≤ i) (h : i < xs.length) : ∃ x, atI xs i = some x ∧ x ∈ xs := ⟨_, atI_lt h0 h, List.getElem_mem _⟩
/-- pigeons -/
theorem exists_not_mem {α : Type} [DecidableEq α] : ∀ (l m : List α), l.Nodup → m.length < l.length → ∃ x ∈ l, x ∉ m
  | [], m, _, h => by simp at h
  | x :: l, m, nd, h => by
    by_cases hx : x ∈ m
    · have nd' := (List.nodup_cons.mp nd)
      have hl : (m.erase x).length < l.length := by
        rw [List.length_erase_of_mem hx]
        have : 0 < m.length := List.length_pos_of_mem hx
        rw [List.length_cons] at h
        omega
      obtain ⟨y, hy, hn⟩ := exists_not_mem l (m.erase x) nd'.2 hl
      refine ⟨y, List.mem_cons_of_mem _ hy, fun z => hn ?_⟩
      have hne : y ≠ x := fun e => nd'.1 (e ▸ hy)
      exact (List.mem_erase_of_ne hne).mpr z
    · exact ⟨x, List.mem_cons_self .., hx⟩
/-! texts as lists of codes -/
theorem str_ext {x y : Str} (h : x.cps.toList = y.cps.toList) : x = y := by
  obtain ⟨a⟩ := x
  obtain ⟨b⟩ := y
  have : a = b := Array.toList_inj.mp h
  rw [this]
theorem fit_str {x : Str} (h : ∀ c ∈ x.cps.toList, c < 1114112) : (D.str x).fit = true := by
  unfold D.fit D.pl D.dp
  simp only [Nat.zero_le, decide_true, Bool.and_true]
  rw [← Array.all_toList, List.all_eq_true]
  exact fun c hc => decide_eq_true (h c hc)
theorem pl_of_fit {d : D} (h : d.fit = true) : d.pl = true := (Bool.and_eq_true_iff.mp h).1
theorem plAll_of {ds : List D} (h : ∀ d ∈ ds, d.pl = true) : plAll ds = true := by
  induction ds with
  | nil => rfl
  | cons d ds ih =>
    show (d.pl && plAll ds) = true
    rw [h d (List.mem_cons_self ..), ih fun e he => h e (List.mem_cons_of_mem _ he)]; rfl
theorem dpAll_of {ds : List D} {n : Nat} (h : ∀ d ∈ ds, d.dp ≤ n) : dpAll ds ≤ n := by
  induction ds with
  | nil => exact Nat.zero_le _
  | cons d ds ih =>
    show max d.dp (dpAll ds) ≤ n
    exact Nat.max_le.mpr ⟨h d (List.mem_cons_self ..), ih fun e he => h e (List.mem_cons_of_mem _ he)⟩
theorem fit_lst {ds : List D} {n : Nat} (hn : n ≤ 63) (h : ∀ d ∈ ds, d.pl = true ∧ d.dp ≤ n) : (D.lst ds).fit = true := by
  unfold D.fit
  refine Bool.and_eq_true_iff.mpr ⟨plAll_of fun d hd => (h d hd).1, decide_eq_true ?_⟩
  have := dpAll_of fun d hd => (h d hd).2
  show dpAll ds + 1 ≤ 64
  omega
theorem fit_tup {ds : List D} {n : Nat} (hn : n ≤ 63) (h : ∀ d ∈ ds, d.pl = true ∧ d.dp ≤ n) : (D.tup ds).fit = true := by
  unfold D.fit
  refine Bool.and_eq_true_iff.mpr ⟨plAll_of fun d hd => (h d hd).1, decide_eq_true ?_⟩
  have := dpAll_of fun d hd => (h d hd).2
  show dpAll ds + 1 ≤ 64
  omega
end DL

/-! Data layer, part 13: repr. -/
namespace DL
open PySem L2

mutual
def D.wt : D → Nat
  | .non => 4
  | .bl _ => 5
  | .int i => if i.natAbs < 1000000000000000000 then 20 else 1921
  | .str x => 10 * x.length + 2
  | .lst xs => wtAll xs + 3
  | .tup xs => wtAll xs + 3
  | .dic _ => 0
  | .scr _ => 0
  | .obj _ _ => 0
def wtAll : List D → Nat
  | [] => 0
  | d :: ds => d.wt + 2 + wtAll ds
end
mutual
def D.six : D → Bool
  | .int i => decide (i.natAbs.log2 < 1920)
  | .lst xs => sixAll xs
  | .tup xs => sixAll xs
  | _ => true
def sixAll : List D → Bool
  | [] => true
  | d :: ds => d.six && sixAll ds
end
def D.shw (d : D) : Bool := d.fit && d.six && decide (d.wt ≤ 1000000)
/-! with dicts -/
def kpl : Key → Bool
  | .inl i => decide (i.natAbs.log2 < 1920)
  | .inr x => x.cps.all (· < 1114112)
def kwt : Key → Nat
  | .inl i => if i.natAbs < 1000000000000000000 then 20 else 1921
  | .inr x => 10 * x.length + 2
mutual
def D.rp : D → Bool
  | .non => true
  | .bl _ => true
  | .int i => decide (i.natAbs.log2 < 1920)
  | .str x => x.cps.all (· < 1114112)
  | .lst xs => rpAll xs
  | .tup xs => rpAll xs
  | .dic kvs => rpK kvs
  | .scr _ => false
  | .obj _ _ => false
def rpAll : List D → Bool
  | [] => true
  | d :: ds => d.rp && rpAll ds
def rpK : List (Key × D) → Bool
  | [] => true
  | (k, d) :: ds => kpl k && (d.rp && rpK ds)
end
mutual
def D.dq : D → Nat
  | .lst xs => dqAll xs + 1
  | .tup xs => dqAll xs + 1
  | .dic kvs => dqK kvs + 1
  | _ => 0
def dqAll : List D → Nat
  | [] => 0
  | d :: ds => max d.dq (dqAll ds)
def dqK : List (Key × D) → Nat
  | [] => 0
  | (_, d) :: ds => max d.dq (dqK ds)
end
mutual
def D.wq : D → Nat
  | .non => 4
  | .bl _ => 5
  | .int i => if i.natAbs < 1000000000000000000 then 20 else 1921
  | .str x => 10 * x.length + 2
  | .lst xs => wqAll xs + 3
  | .tup xs => wqAll xs + 3
  | .dic kvs => wqK kvs + 2
  | .scr _ => 0
  | .obj _ _ => 0
def wqAll : List D → Nat
  | [] => 0
  | d :: ds => d.wq + 2 + wqAll ds
def wqK : List (Key × D) → Nat
  | [] => 0
  | (k, d) :: ds => kwt k + 2 + d.wq + 2 + wqK ds
end
def D.shx (d : D) : Bool := d.rp && decide (d.dq ≤ 64) && decide (d.wq ≤ 1000000)
def semRepr : List D → Option D
  | [d] => if d.shw then some (.str d.py.shown) else if d.shx then some (.str d.py.shown) else none
  | _ => none
theorem int_text18 {i : Int} (h : i.natAbs < 1000000000000000000) : (Str.ofString (toString i)).length ≤ 20 := by
  have := int_text_length_le10 (a := i) (k := 18) (by decide) (by simpa using h)
  rw [PySem.ofString_length]
  omega
mutual
theorem shown_wt : ∀ d : D, d.pl = true → d.six = true → d.py.shown.length ≤ d.wt
  | .non, _, _ => by decide
  | .bl b, _, _ => by cases b <;> decide
  | .int i, _, h => by
    have h : decide (i.natAbs.log2 < 1920) = true := h
    show (Str.ofString (toString i)).length ≤ if i.natAbs < 1000000000000000000 then 20 else 1921
    split
    · next hl => exact int_text18 hl
    · exact PyProof.Rows.int_text_len_1921 (of_decide_eq_true h)
  | .str x, h, _ => by
    have h : x.cps.all (· < 1114112) = true := h
    refine StrLaws.reprText_len x fun c hc => ?_
    have := Array.all_eq_true_iff_forall_mem.mp h c (by simpa using hc)
    have := of_decide_eq_true this
    omega
  | .lst xs, h, k => by
    have h : plAll xs = true := h
    have k : sixAll xs = true := k
    have e := shownAll_wt xs h k
    have h2 := listText_len_le (PyData.shownAll (pys xs))
    show (listText (PyData.shownAll (pys xs))).length ≤ wtAll xs + 3
    omega
  | .tup xs, h, k => by
    have h : plAll xs = true := h
    have k : sixAll xs = true := k
    have e := shownAll_wt xs h k
    have h2 := tupleText_len_le (PyData.shownAll (pys xs))
    show (tupleText (PyData.shownAll (pys xs))).length ≤ wtAll xs + 3
    omega
  | .dic _, h, _ => by cases h
  | .scr _, h, _ => by cases h
  | .obj _ _, h, _ => by cases h
theorem shownAll_wt : ∀ ds : List D, plAll ds = true → sixAll ds = true → ((PyData.shownAll (pys ds)).map (·.length)).sum + 2 * (PyData.shownAll (pys ds)).length ≤ wtAll ds
  | [], _, _ => by decide
  | d :: ds, h, k => by
    have h : (d.pl && plAll ds) = true := h
    have k : (d.six && sixAll ds) = true := k
    obtain ⟨h1, h2⟩ := Bool.and_eq_true_iff.mp h
    obtain ⟨k1, k2⟩ := Bool.and_eq_true_iff.mp k
    have e1 := shown_wt d h1 k1
    have e2 := shownAll_wt ds h2 k2
    show ((d.py.shown :: PyData.shownAll (pys ds)).map (·.length)).sum + 2 * (d.py.shown :: PyData.shownAll (pys ds)).length ≤ d.wt + 2 + wtAll ds
    simp only [List.map_cons, List.sum_cons, List.length_cons]
    omega
end
mutual
theorem py_showable : ∀ d : D, d.pl = true → d.six = true → d.py.showable = true
  | .non, _, _ => rfl
  | .bl _, _, _ => rfl
  | .int i, _, h => h
  | .str x, h, _ => rfl
  | .lst xs, h, k => by
    have h : plAll xs = true := h
    have k : sixAll xs = true := k
    show PyData.showableAll (pys xs) = true
    exact pys_showable xs h k
  | .tup xs, h, k => by
    have h : plAll xs = true := h
    have k : sixAll xs = true := k
    show PyData.showableAll (pys xs) = true
    exact pys_showable xs h k
  | .dic _, h, _ => by cases h
  | .scr _, h, _ => by cases h
  | .obj _ _, h, _ => by cases h
theorem pys_showable : ∀ ds : List D, plAll ds = true → sixAll ds = true → PyData.showableAll (pys ds) = true
  | [], _, _ => rfl
  | d :: ds, h, k => by
    have h : (d.pl && plAll ds) = true := h
    have k : (d.six && sixAll ds) = true := k
    obtain ⟨h1, h2⟩ := Bool.and_eq_true_iff.mp h
    obtain ⟨k1, k2⟩ := Bool.and_eq_true_iff.mp k
    show (d.py.showable && PyData.showableAll (pys ds)) = true
    rw [py_showable d h1 k1, pys_showable ds h2 k2]; rfl
end
def kPy : Key → PyData
  | .inl i => .int i
  | .inr x => .str x
theorem pyk_cons (k : Key) (d : D) (ds : List (Key × D)) : pyk ((k, d) :: ds) = (kPy k, d.py) :: pyk ds := by cases k <;> rfl
theorem shownKv_cons (k v : PyData) (r : List (PyData × PyData)) : PyData.shownKv ((k, v) :: r) = (k.shown ++ ": " ++ v.shown) :: PyData.shownKv r := rfl
theorem key_wt (k : Key) (h : kpl k = true) : (kPy k).shown.length ≤ kwt k := by
  cases k with
  | inl i => exact shown_wt (.int i) rfl h
  | inr x => exact shown_wt (.str x) h rfl
theorem join_len : ∀ ps : List Str, (Str.join ", " ps).length ≤ (ps.map (·.length)).sum + 2 * ps.length
  | [] => by decide +kernel
  | [p] => by
    show p.length ≤ _
    simp
  | p :: q :: ps => by
    have ih := join_len (q :: ps)
    show (p ++ ", " ++ Str.join ", " (q :: ps)).length ≤ _
    rw [strLen_append, strLen_append]
    have h2 : ((", " : Str)).length = 2 := by decide +kernel
    simp only [List.map_cons, List.sum_cons, List.length_cons] at ih ⊢
    omega
theorem dictText_le (ps : List Str) : (dictText ps).length ≤ (ps.map (·.length)).sum + 2 * ps.length + 2 := by
  have h := join_len ps
  have h1 : (("{" : Str)).length = 1 := by decide +kernel
  have h2 : (("}" : Str)).length = 1 := by decide +kernel
  unfold dictText
  rw [strLen_append, strLen_append, h1, h2]
  omega
mutual
theorem shown_wq : ∀ d : D, d.rp = true → d.py.shown.length ≤ d.wq
  | .non, _ => by decide
  | .bl b, _ => by cases b <;> decide
  | .int i, h => shown_wt (.int i) rfl h
  | .str x, h => shown_wt (.str x) h rfl
  | .lst xs, h => by
    have e := shownAll_wq xs h
    have h2 := listText_len_le (PyData.shownAll (pys xs))
    show (listText (PyData.shownAll (pys xs))).length ≤ wqAll xs + 3
    omega
  | .tup xs, h => by
    have e := shownAll_wq xs h
    have h2 := tupleText_len_le (PyData.shownAll (pys xs))
    show (tupleText (PyData.shownAll (pys xs))).length ≤ wqAll xs + 3
    omega
  | .dic kvs, h => by
    have e := shownK_wq kvs h
    have h2 := dictText_le (PyData.shownKv (pyk kvs))
    show (dictText (PyData.shownKv (pyk kvs))).length ≤ wqK kvs + 2
    omega
  | .scr _, h => by cases h
  | .obj _ _, h => by cases h
theorem shownAll_wq : ∀ ds : List D, rpAll ds = true → ((PyData.shownAll (pys ds)).map (·.length)).sum + 2 * (PyData.shownAll (pys ds)).length ≤ wqAll ds
  | [], _ => by decide
  | d :: ds, h => by
    have h : (d.rp && rpAll ds) = true := h
    obtain ⟨h1, h2⟩ := Bool.and_eq_true_iff.mp h
    have e1 := shown_wq d h1
    have e2 := shownAll_wq ds h2
    show ((d.py.shown :: PyData.shownAll (pys ds)).map (·.length)).sum + 2 * (d.py.shown :: PyData.shownAll (pys ds)).length ≤ d.wq + 2 + wqAll ds
    simp only [List.map_cons, List.sum_cons, List.length_cons]
    omega
theorem shownK_wq : ∀ ds : List (Key × D), rpK ds = true → ((PyData.shownKv (pyk ds)).map (·.length)).sum + 2 * (PyData.shownKv (pyk ds)).length ≤ wqK ds
  | [], _ => by decide
  | (k, d) :: ds, h => by
    have h : (kpl k && (d.rp && rpK ds)) = true := h
    obtain ⟨h0, h⟩ := Bool.and_eq_true_iff.mp h
    obtain ⟨h1, h2⟩ := Bool.and_eq_true_iff.mp h
    have e0 := key_wt k h0
    have e1 := shown_wq d h1
    have e2 := shownK_wq ds h2
    have h3 : ((": " : Str)).length = 2 := by decide +kernel
    rw [pyk_cons, shownKv_cons, show wqK ((k, d) :: ds) = kwt k + 2 + d.wq + 2 + wqK ds from rfl]
    simp only [List.map_cons, List.sum_cons, List.length_cons, strLen_append, h3]
    omega
end
mutual
theorem rp_showable : ∀ d : D, d.rp = true → d.py.showable = true
  | .non, _ => rfl
  | .bl _, _ => rfl
  | .int i, h => h
  | .str x, h => rfl
  | .lst xs, h => rpAll_showable xs h
  | .tup xs, h => rpAll_showable xs h
  | .dic kvs, h => rpK_showable kvs h
  | .scr _, h => by cases h
  | .obj _ _, h => by cases h
theorem rpAll_showable : ∀ ds : List D, rpAll ds = true → PyData.showableAll (pys ds) = true
  | [], _ => rfl
  | d :: ds, h => by
    have h : (d.rp && rpAll ds) = true := h
    obtain ⟨h1, h2⟩ := Bool.and_eq_true_iff.mp h
    show (d.py.showable && PyData.showableAll (pys ds)) = true
    rw [rp_showable d h1, rpAll_showable ds h2]; rfl
theorem rpK_showable : ∀ ds : List (Key × D), rpK ds = true → PyData.showableKv (pyk ds) = true
  | [], _ => rfl
  | (k, d) :: ds, h => by
    have h : (kpl k && (d.rp && rpK ds)) = true := h
    obtain ⟨h0, h⟩ := Bool.and_eq_true_iff.mp h
    obtain ⟨h1, h2⟩ := Bool.and_eq_true_iff.mp h
    rw [pyk_cons]
    show ((kPy k).showable && d.py.showable && PyData.showableKv (pyk ds)) = true
    rw [rp_showable d h1, rpK_showable ds h2]
    cases k with
    | inl i => show (decide (i.natAbs.log2 < 1920) && true && true) = true; rw [show decide (i.natAbs.log2 < 1920) = true from h0]; rfl
    | inr x => rfl
end
mutual
theorem rp_depth : ∀ d : D, d.rp = true → d.py.depth = d.dq
  | .non, _ => rfl
  | .bl _, _ => rfl
  | .int i, h => rfl
  | .str x, h => rfl
  | .lst xs, h => by show PyData.depthAll (pys xs) + 1 = dqAll xs + 1; rw [rpAll_depth xs h]
  | .tup xs, h => by show PyData.depthAll (pys xs) + 1 = dqAll xs + 1; rw [rpAll_depth xs h]
  | .dic kvs, h => by show PyData.depthKv (pyk kvs) + 1 = dqK kvs + 1; rw [rpK_depth kvs h]
  | .scr _, h => by cases h
  | .obj _ _, h => by cases h
theorem rpAll_depth : ∀ ds : List D, rpAll ds = true → PyData.depthAll (pys ds) = dqAll ds
  | [], _ => rfl
  | d :: ds, h => by
    have h : (d.rp && rpAll ds) = true := h
    obtain ⟨h1, h2⟩ := Bool.and_eq_true_iff.mp h
    show max d.py.depth (PyData.depthAll (pys ds)) = max d.dq (dqAll ds)
    rw [rp_depth d h1, rpAll_depth ds h2]
theorem rpK_depth : ∀ ds : List (Key × D), rpK ds = true → PyData.depthKv (pyk ds) = dqK ds
  | [], _ => rfl
  | (k, d) :: ds, h => by
    have h : (kpl k && (d.rp && rpK ds)) = true := h
    obtain ⟨h0, h⟩ := Bool.and_eq_true_iff.mp h
    obtain ⟨h1, h2⟩ := Bool.and_eq_true_iff.mp h
    rw [pyk_cons]
    show max (max (kPy k).depth d.py.depth) (PyData.depthKv (pyk ds)) = max d.dq (dqK ds)
    rw [rp_depth d h1, rpK_depth ds h2]
    cases k <;> simp [PyData.depth, kPy]
end
section
variable {X : Cx} {pins : List (Addr × Obj)} {s : Shared} {H : Hp} {sg : St}
theorem Inv.ne_sys (I : Inv X pins sg H s) (sy : SysAt X.base) {a : Addr} {o : HO} (h : H a = some o) : a ≠ sysModules := fun e => by
  subst e
  obtain ⟨ob, ho⟩ := sy
  rw [(I.bs _ ob ho).2] at h
  cases h
theorem key_reads {h : Heap} {k : Key} {v : Value} (e : keyIs k v = true) : Reads h v (kPy k) [] := by
  rcases keyIs_shape e with ⟨i, t, rfl, rfl⟩ | ⟨x, t, rfl, rfl⟩
  · exact Reads.int i t
  · exact Reads.str x t
mutual
theorem RD.readsX (I : Inv X pins sg H s) (sy : SysAt X.base) : ∀ (d : D) (v : V) (u : Value), d.rp = true → RD X.K H v d → RelV v u → ∃ as, Reads s.heap u d.py as ∧ sysModules ∉ as
  | .non, _, _, _, h, r => by cases h; cases r; exact ⟨_, Reads.none, List.not_mem_nil⟩
  | .bl b, _, _, _, h, r => by cases h; cases r; exact ⟨_, Reads.bool b, List.not_mem_nil⟩
  | .int i, _, _, _, h, r => by cases h; obtain ⟨t, rfl⟩ := r; exact ⟨_, Reads.int i t, List.not_mem_nil⟩
  | .str x, _, _, _, h, r => by cases h; obtain ⟨t, rfl⟩ := r; exact ⟨_, Reads.str x t, List.not_mem_nil⟩
  | .lst ds, _, _, hp, h, r => by
    have hp : rpAll ds = true := hp
    cases h with
    | lst hs ha =>
      cases r
      obtain ⟨its, rv, ⟨o, n, ho, hc, _, hd⟩, _⟩ := I.list (SqL.of hs)
      obtain ⟨as, hr, hn⟩ := RDs.readsX I sy ds _ its hp ha rv
      refine ⟨_, Reads.list ho hc hd hr, fun z => ?_⟩
      rcases List.mem_cons.mp z with z | z
      · exact Inv.ne_sys I sy hs z.symm
      · exact hn z
  | .tup ds, _, _, hp, h, r => by
    have hp : rpAll ds = true := hp
    cases h with
    | tup hs ha =>
      cases r
      obtain ⟨its, rv, ⟨o, ho, hc, n, hd⟩, _⟩ := I.tuple hs
      obtain ⟨as, hr, hn⟩ := RDs.readsX I sy ds _ its hp ha rv
      exact ⟨_, Reads.tuple ho hc hd hr, hn⟩
  | .dic kds, _, _, hp, h, r => by
    have hp : rpK kds = true := hp
    cases h with
    | dic hs ha =>
      cases r
      obtain ⟨_, hne, vs, kv, o, es, ep, ho, hx, hd, _, hpr, _⟩ := dk_rd I.hok (.inr ⟨_, hs⟩)
      obtain ⟨as, hr1, hr2, hn⟩ := RDk.readsX I sy kds _ _ _ hp ha kv hpr
      have := Reads.dict ho hx.1 hd hr1 hr2
      refine ⟨_, this, fun z => ?_⟩
      rcases List.mem_append.mp z with z | z
      · rcases List.mem_cons.mp z with z | z
        · rw [← z] at hne; exact absurd hne (by decide)
        · cases z
      · exact hn z
  | .scr _, _, _, hp, _, _ => by cases hp
  | .obj _ _, _, _, hp, _, _ => by cases hp
theorem RDs.readsX (I : Inv X pins sg H s) (sy : SysAt X.base) : ∀ (ds : List D) (vs : List V) (us : List Value), rpAll ds = true → RDs X.K H vs ds → Vals vs us → ∃ as, ReadsAll s.heap us (pys ds) as ∧ sysModules ∉ as
  | [], _, _, _, h, r => by cases h; cases r; exact ⟨_, ReadsAll.nil, List.not_mem_nil⟩
  | d :: ds, _, _, hp, h, r => by
    have hp : (d.rp && rpAll ds) = true := hp
    obtain ⟨h1, h2⟩ := Bool.and_eq_true_iff.mp hp
    cases h with
    | cons a1 a2 =>
      cases r with
      | cons r1 r2 =>
        obtain ⟨as, q1, n1⟩ := RD.readsX I sy d _ _ h1 a1 r1
        obtain ⟨bs, q2, n2⟩ := RDs.readsX I sy ds _ _ h2 a2 r2
        exact ⟨_, ReadsAll.cons q1 q2, fun z => (List.mem_append.mp z).elim n1 n2⟩
theorem RDk.readsX (I : Inv X pins sg H s) (sy : SysAt X.base) : ∀ (kds : List (Key × D)) (kvs : List (Key × V)) (vs : List (Key × Value)) (es : List DictEntry), rpK kds = true → RDk X.K H kvs kds → KV kvs vs → PySem.Pairs (mixKind X.prog X.w) es vs → ∃ bs, ReadsAll s.heap (es.map (·.key)) ((pyk kds).map (·.1)) [] ∧ ReadsAll s.heap (es.map (·.val)) ((pyk kds).map (·.2)) bs ∧ sysModules ∉ bs
  | [], _, _, _, _, h, r, p => by cases h; cases r; cases p; exact ⟨_, ReadsAll.nil, ReadsAll.nil, List.not_mem_nil⟩
  | (k, d) :: kds, _, _, _, hp, h, r, p => by
    have hp : (kpl k && (d.rp && rpK kds)) = true := hp
    obtain ⟨_, hp⟩ := Bool.and_eq_true_iff.mp hp
    obtain ⟨h1, h2⟩ := Bool.and_eq_true_iff.mp hp
    cases h with
    | cons a1 a2 =>
      cases r with
      | cons r1 r2 =>
        cases p with
        | cons p1 p2 p3 =>
          obtain ⟨e1, e2⟩ := r1
          obtain ⟨as, q1, n1⟩ := RD.readsX I sy d _ _ h1 a1 e2
          obtain ⟨bs, q2, q3, n2⟩ := RDk.readsX I sy kds _ _ _ h2 a2 r2 p3
          refine ⟨as ++ bs, ?_, ?_, fun z => (List.mem_append.mp z).elim n1 n2⟩
          · have hk : Reads s.heap _ (kPy _) [] := key_reads (h := s.heap) p1
            rw [← e1] at hk
            rw [pyk_cons]
            exact ReadsAll.cons hk q2
          · rw [← p2] at q1
            rw [pyk_cons]
            exact ReadsAll.cons q1 q3
end
end
section
variable {X : Cx} {g : G}
theorem cd_repr {k : Nat} (hgd : X.A.guards = some []) (hr : Room k X.A) (sy : SysAt X.base) : CallR X (.builtin "repr") (rDN X.K g semRepr) := by
  intro pins s sg H xs us Q I rv h
  obtain ⟨F, s0, r, ds, d, R, hx, e, q⟩ := h
  unfold semRepr at e
  split at e
  · next d0 =>
    split at e
    · next hs =>
      cases e
      obtain ⟨hs1, hs2⟩ := Bool.and_eq_true_iff.mp hs
      obtain ⟨hf, h6⟩ := Bool.and_eq_true_iff.mp hs1
      obtain ⟨hp, hd⟩ := Bool.and_eq_true_iff.mp hf
      have hd := of_decide_eq_true hd
      have hw := of_decide_eq_true hs2
      have hsz := Nat.le_trans (shown_wt d0 hp h6) (Nat.le_trans hw mil_line)
      have hsh := py_showable d0 hp h6
      obtain ⟨v, rfl, h1⟩ := hx.one
      obtain ⟨u, rfl, ru⟩ := vals1 rv
      obtain ⟨as, rr⟩ := RD.reads I d0 v u hp (h1.rd R.sub) ru
      have fin := q F H (.str d0.py.shown) (Same.refl _) R (.str _)
      have un := hr.un
      have dep := py_depth d0 hp
      have dep' : X.A.units + (d0.py.depth + 1) < cLine := by omega
      cases d0 with
      | non => cases rr; exact P.repr_of_none ⟨.str _, H, I.tok _, ⟨_, rfl⟩, fin⟩
      | bl b => cases rr; exact P.repr_of_bool ⟨.str _, H, I.tok _, ⟨_, rfl⟩, fin⟩
      | int i => cases rr; exact P.repr_of_int (of_decide_eq_true h6) ⟨.str _, H, I.tok _, ⟨_, rfl⟩, fin⟩
      | str x => cases rr; exact P.repr_of_str (hsz := hsz) ⟨.str _, H, I.tok _, ⟨_, rfl⟩, fin⟩
      | lst xs =>
        have hn := PyData.noDict_hsm (as := as) (PyData.hasDict_of_canLay _ (py_lay _ hp))
        cases rr with
        | list z1 z2 z3 z4 => exact repr_of_reads' (.list z1 z2 z3 z4) hsh hn hgd dep' (fun _ _ e => e) (fun h' u tk hk => ⟨.str _, H, I.kept hk, ⟨_, rfl⟩, fin⟩) hsz
      | tup xs =>
        have hn := PyData.noDict_hsm (as := as) (PyData.hasDict_of_canLay _ (py_lay _ hp))
        cases rr with
        | tuple z1 z2 z3 z4 => exact repr_of_reads' (.tuple z1 z2 z3 z4) hsh hn hgd dep' (fun _ _ e => e) (fun h' u tk hk => ⟨.str _, H, I.kept hk, ⟨_, rfl⟩, fin⟩) hsz
      | dic _ => cases hp
      | scr _ => cases hp
      | obj _ _ => cases hp
    · split at e
      · next hs =>
        cases e
        obtain ⟨hs1, hs2⟩ := Bool.and_eq_true_iff.mp hs
        obtain ⟨hp, hd⟩ := Bool.and_eq_true_iff.mp hs1
        have hd := of_decide_eq_true hd
        have hw := of_decide_eq_true hs2
        have hsz := Nat.le_trans (shown_wq d0 hp) (Nat.le_trans hw mil_line)
        have hsh := rp_showable d0 hp
        obtain ⟨v, rfl, h1⟩ := hx.one
        obtain ⟨u, rfl, ru⟩ := vals1 rv
        obtain ⟨as, rr, hn⟩ := RD.readsX I sy d0 v u hp (h1.rd R.sub) ru
        have fin := q F H (.str d0.py.shown) (Same.refl _) R (.str _)
        have un := hr.un
        have dep := rp_depth d0 hp
        have dep' : X.A.units + (d0.py.depth + 1) < cLine := by omega
        cases d0 with
        | non => cases rr; exact P.repr_of_none ⟨.str _, H, I.tok _, ⟨_, rfl⟩, fin⟩
        | bl b => cases rr; exact P.repr_of_bool ⟨.str _, H, I.tok _, ⟨_, rfl⟩, fin⟩
        | int i => cases rr; exact P.repr_of_int (of_decide_eq_true hp) ⟨.str _, H, I.tok _, ⟨_, rfl⟩, fin⟩
        | str x => cases rr; exact P.repr_of_str (hsz := hsz) ⟨.str _, H, I.tok _, ⟨_, rfl⟩, fin⟩
        | lst xs =>
          cases rr with
          | list z1 z2 z3 z4 => exact repr_of_reads' (.list z1 z2 z3 z4) hsh (fun _ => hn) hgd dep' (fun _ _ e => e) (fun h' u tk hk => ⟨.str _, H, I.kept hk, ⟨_, rfl⟩, fin⟩) hsz
        | tup xs =>
          cases rr with
          | tuple z1 z2 z3 z4 => exact repr_of_reads' (.tuple z1 z2 z3 z4) hsh (fun _ => hn) hgd dep' (fun _ _ e => e) (fun h' u tk hk => ⟨.str _, H, I.kept hk, ⟨_, rfl⟩, fin⟩) hsz
        | dic kvs =>
          cases rr with
          | dict z1 z2 z3 z4 z5 => exact repr_of_reads' (.dict z1 z2 z3 z4 z5) hsh (fun _ => hn) hgd dep' (fun _ _ e => e) (fun h' u tk hk => ⟨.str _, H, I.kept hk, ⟨_, rfl⟩, fin⟩) hsz
        | scr _ => cases hp
        | obj _ _ => cases hp
      · cases e
  · cases e
end
end DL

/-! Data layer, part 14: truth of any data, isinstance, chains of comparisons. -/
namespace DL
open PySem L2

def D.tru : D → Option Bool
  | .non => some false
  | .bl b => some b
  | .int i => some (i != 0)
  | .str x => if x.length ≤ 1000000 then some (x.length != 0) else none
  | .lst xs => some (!xs.isEmpty)
  | .tup xs => some (!xs.isEmpty)
  | _ => none
section
variable {K : PySem.W.Frag} {F H : Hp} {v : V} {d : D}
end
def toT (p : Opd) : En → Rs Bool := fun r => (p.run r).bind fun x r1 => ofO ((look r1 x).bind D.tru) r1
def orV (f h : En → Rs D) : En → Rs D := fun r => (f r).bind fun d r1 => (ofO d.tru r1).bind fun c r1 => if c = true then .ok d r1 else h r1
def andV (f h : En → Rs D) : En → Rs D := fun r => (f r).bind fun d r1 => (ofO d.tru r1).bind fun c r1 => if c = true then h r1 else .ok d r1
def notV (p : Opd) : En → Rs D := fun r => (toT p r).map fun c => .bl (!c)
section
variable {X : Cx} {g : G} {e a b c : Expr} {pos : Pos} {p : Opd}
/-! ### a < b < c -/
def chD (p q u : Opd) (sem sem' : D → D → Option D) : En → Rs D := fun r => (p.run r).bind fun x r1 => (q.run r1).bind fun y r2 =>
  (ofO (((look r2 x).bind fun dx => (look r2 y).bind fun dy => sem dx dy).bind D.asB) r2).bind fun k r2 => if k = true then (u.run r2).bind fun z r3 => ofO ((look r3 y).bind fun dy => (look r3 z).bind fun dz => sem' dy dz) r3 else .ok (.bl false) r2
theorem chain_ok {K : PySem.W.Frag} {p q u : Opd} {sem sem' : D → D → Option D} {s : St} {H : Hp} {Q : VK} (h : tD K g (chD p q u sem sem') s H Q) : tChain (rD2 K g sem) (rD2 K g sem') (tB K g p) (tB K g q) (tB K g u) s H Q := by
  obtain ⟨F, r, R, h⟩ := h
  refine ⟨F, r, R, post_mono (post_bind h) fun x r1 q1 F1 H1 v sm R1 hv => ⟨F1, r1, R1, post_mono (post_bind q1) fun y r2 q2 F2 H2 w s2 R2 hw => ?_⟩⟩
  obtain ⟨k, e, q2⟩ := post_ofO (post_bind q2)
  obtain ⟨d, e0, ek⟩ := Option.bind_eq_some_iff.mp e
  obtain ⟨dx, e1, e⟩ := Option.bind_eq_some_iff.mp e0
  obtain ⟨dy, e2, e3⟩ := Option.bind_eq_some_iff.mp e
  have ek := asB_some ek
  subst ek
  refine ⟨F2, s, r2, dx, dy, _, R2, look_ok R2 (hv.mono s2) e1, look_ok R2 hw e2, e3, fun F3 H3 v3 s3 R3 h3 => ?_⟩
  cases h3
  refine ⟨k, rfl, ?_⟩
  cases k with
  | false => exact q2 F3 H3 _ ((sm.trans s2).trans s3) R3 (.bl false)
  | true =>
    refine ⟨F3, r2, R3, post_mono (post_bind q2) fun z r4 q4 F4 H4 w4 s4 R4 h4 => ?_⟩
    obtain ⟨d, e, q4⟩ := post_ofO q4
    obtain ⟨dx, f1, e⟩ := Option.bind_eq_some_iff.mp e
    obtain ⟨dy, f2, f3⟩ := Option.bind_eq_some_iff.mp e
    exact ⟨F4, s, r4, dx, dy, d, R4, look_ok R4 ((hw.mono s3).mono s4) f1, look_ok R4 h4 f2, f3, fun F5 H5 v5 s5 R5 h5 => q4 F5 H5 v5 ((((sm.trans s2).trans s3).trans s4).trans s5) R5 h5⟩
theorem dt_chain {op op' : CmpOp} {p q u : Opd} {sem sem' : D → D → Option D} (ho : OpR X (compareOp op) (rD2 X.K g sem)) (ho' : OpR X (compareOp op') (rD2 X.K g sem')) (ha : DB X g a p) (hb : DB X g b q) (hc : DB X g c u)
    (hm : lastMarks [op, op'] [b, c] = false := by with_unfolding_all rfl) : DT X g (.Compare a [op, op'] [b, c] pos) (toB (chD p q u sem sem')) :=
  PT.imp (pt_chain ho ho' ha hb hc hm) fun s H Q ⟨F, r, R, h⟩ => by
    refine chain_ok ⟨F, r, R, post_mono (post_bind h) fun d r1 q F1 H1 v sm R1 hv => ?_⟩
    obtain ⟨b, e, q⟩ := post_ofO q
    have e := asB_some e
    subst e
    cases hv
    exact ⟨b, rfl, q F1 H1 sm R1⟩
/-! ### isinstance(e, T), isinstance(e, (T, ..)) -/
def D.ty : D → String
  | .non => "NoneType"
  | .bl _ => "bool"
  | .int _ => "int"
  | .str _ => "str"
  | .lst _ => "list"
  | .tup _ => "tuple"
  | .dic _ => "dict"
  | .scr _ => "list"
  | .obj _ _ => "object"
def isTy (t : String) (T : String) : Bool := t == T || (t == "bool" && T == "int")
def D.isi (d : D) (Ts : List String) : Bool := Ts.any (isTy d.ty)
def isiD (p : Opd) (Ts : List String) : En → Rs D := fun r => (p.run r).bind fun x r1 => ofO ((look r1 x).bind fun d => match d with
  | .scr _ => none
  | .obj _ _ => none
  | d => some (.bl (d.isi Ts))) r1
theorem ty_of {K : PySem.W.Frag} {F H : Hp} {v : V} {d : D} (sub : Same F H) (h : RB K F H v d) (h2 : (∀ x, d ≠ .scr x) ∧ ∀ c x, d ≠ .obj c x) : TyX K H v (.type d.ty) := by
  cases d with
  | non => cases h.flat (fun _ => nofun); exact .base .non
  | bl b => cases h.flat (fun _ => nofun); exact .base (.bl _)
  | int b => cases h.flat (fun _ => nofun); exact .base (.int _)
  | str x => cases h.flat (fun _ => nofun); exact .base (.str _)
  | lst xs =>
    obtain ⟨a, vs, rfl, h1, h2⟩ := h.lst sub
    exact .base (.lst h1)
  | tup xs =>
    obtain ⟨a, vs, rfl, h1, _, h2⟩ := h.tup sub
    rcases h1 with (h1 | ⟨o, h1⟩) | ⟨o, its, n, h1, hc, _⟩
    · exact .base (.tup h1)
    · exact .fTuple h1
    · exact .kTuple h1 hc
  | dic x =>
    cases h.flat (fun _ => nofun) with
    | dic h1 h2 =>
      exact .fDict (sub _ _ h1)
  | scr x => exact absurd rfl (h2.1 x)
  | obj c x => exact absurd rfl (h2.2 c x)
def tyNames : List String := ["int", "str", "bool", "list", "tuple", "dict", "float", "set", "bytes"]
theorem kit_one (K : PySem.W.Frag) (d : D) {T : String} (h : T ∈ tyNames) : PySem.W.kitOne K (.type d.ty) (.type T) = some (isTy d.ty T) := by
  unfold tyNames at h
  simp only [List.mem_cons, List.not_mem_nil, or_false] at h
  rcases h with rfl | rfl | rfl | rfl | rfl | rfl | rfl | rfl | rfl <;> cases d <;> rfl
theorem isi_some {d x : D} {Ts : List String} (e : (match d with
  | .scr _ => none
  | .obj _ _ => none
  | d => some (.bl (d.isi Ts)) : Option D) = some x) : x = .bl (d.isi Ts) ∧ (∀ x, d ≠ .scr x) ∧ ∀ c x, d ≠ .obj c x := by
  cases d <;> first | (cases e; exact ⟨rfl, fun _ => nofun, fun _ _ => nofun⟩) | cases e
theorem de_isi1 {T : String} {pn pT : Pos} (hT : T ∈ tyNames) (hm : X.mg "isinstance" = none) (hmT : X.mg (T : Str) = none) (hp : DB X g e p) (hg : Gl X "isinstance" := by rfl) (hgT : Gl X (T : Str) := by rfl)
    (hvT : bootBuiltins (T : Str) = some (.type T) := by decide +kernel) (hnT : (T : Str) ≠ "__name__" := by decide) (hdT : ((T : Str) == ("__debug__" : Str)) = false := by decide)
    (h1 : starEach [e, .Name T pT] X.env = (false, eval e X.env) :: starEach [.Name T pT] X.env := by rfl) (h2 : starEach [.Name T pT] X.env = (false, eval (.Name T pT) X.env) :: starEach [] X.env := by rfl)
    (hpl : (backTo pos (starEach [.Name T pT] X.env)).any (·.1) = false := by rfl) : DE X g (.Call (.Name "isinstance" pn) [e, .Name T pT] [] pos) (isiD p [T]) := by
  refine PE.imp (pe_callB call_isi hg hm (by decide +kernel) (pa_cons hp (pa_cons (pe_bltn (v := .ty T) hgT hmT hvT rfl hnT hdT) pa_nil h2) h1) (by decide) (by decide) h1 hpl) fun s H Q ⟨F, r, R, h⟩ => ?_
  refine ⟨F, r, R, post_mono (post_bind h) fun z r1 q F1 H1 v sm R1 hv => ?_⟩
  obtain ⟨x, e, q⟩ := post_ofO q
  obtain ⟨d, e1, e2⟩ := Option.bind_eq_some_iff.mp e
  obtain ⟨rfl, n2⟩ := isi_some e2
  have k := kit_one X.K d hT
  have k2 : d.isi [T] = isTy d.ty T := by show (isTy d.ty T || false) = _; rw [Bool.or_false]
  refine ⟨v, .ty T, .type d.ty, .type T, isTy d.ty T, rfl, .ty _, ty_of R1.sub (look_ok R1 hv e1) n2, k, ?_⟩
  rw [← k2]
  exact q F1 H1 _ sm R1 (.bl _)
end
end DL

/-! Data layer, part 15: dicts whose keys are ints and texts. -/
namespace DL
open PySem L2

def D.key : D → Option Key
  | .int i => some (.inl i)
  | .str x => some (.inr x)
  | _ => none
def valD (ds : List (Key × D)) (k : Key) : Option D := (ds.find? fun kv => decide (kv.1 = k)).map (·.2)
def putD (ds : List (Key × D)) (k : Key) (d : D) : List (Key × D) :=
  if (ds.any fun kv => decide (kv.1 = k)) = true then ds.map (fun kv => if kv.1 = k then (kv.1, d) else kv) else ds ++ [(k, d)]
def mergeD (ds more : List (Key × D)) : List (Key × D) := more.foldl (fun acc kv => putD acc kv.1 kv.2) ds
section
variable {K : PySem.W.Frag} {F H : Hp}
theorem key_of {v : V} {d : D} {k : Key} (h : RD K F v d) (e : d.key = some k) : v = kV k := by
  cases d with
  | int i => cases h; cases e; rfl
  | str x => cases h; cases e; rfl
  | _ => cases e
theorem RDk.find {k : Key} : ∀ {vs : List (Key × V)} {ds : List (Key × D)}, RDk K F vs ds → (∀ d, valD ds k = some d → ∃ v, valV vs k = some v ∧ RD K F v d) ∧ (valD ds k = none → valV vs k = none)
  | _, [], h => by cases h; exact ⟨fun d e => (by cases e), fun _ => rfl⟩
  | _, (j, d) :: ds, h => by
    cases h with
    | cons h1 h2 =>
      rename_i v vs
      obtain ⟨i1, i2⟩ := RDk.find (k := k) h2
      by_cases hk : j = k
      · have e1 : valD ((j, d) :: ds) k = some d := by simp [valD, List.find?_cons, hk]
        have e2 : valV ((j, v) :: vs) k = some v := valV_pos (p := (j, v)) hk
        rw [e1, e2]
        exact ⟨fun d' e => (by cases e; exact ⟨v, rfl, h1⟩), fun e => (by cases e)⟩
      · have e1 : valD ((j, d) :: ds) k = valD ds k := by simp [valD, List.find?_cons, hk]
        have e2 : valV ((j, v) :: vs) k = valV vs k := valV_neg (p := (j, v)) hk
        rw [e1, e2]
        exact ⟨i1, i2⟩
theorem RDk.any {k : Key} : ∀ {vs : List (Key × V)} {ds : List (Key × D)}, RDk K F vs ds → (vs.any fun kv => decide (kv.1 = k)) = (ds.any fun kv => decide (kv.1 = k))
  | _, [], h => by cases h; rfl
  | _, (j, d) :: ds, h => by
    cases h with
    | cons h1 h2 => rw [List.any_cons, List.any_cons, RDk.any h2]
theorem RDk.snoc {k : Key} {v : V} {d : D} (r : RD K F v d) : ∀ {vs : List (Key × V)} {ds : List (Key × D)}, RDk K F vs ds → RDk K F (vs ++ [(k, v)]) (ds ++ [(k, d)])
  | _, [], h => by cases h; exact .cons r .nil
  | _, (j, d) :: ds, h => by
    cases h with
    | cons h1 h2 => exact .cons h1 (RDk.snoc r h2)
theorem RDk.mapk {k : Key} {v : V} {d : D} (r : RD K F v d) : ∀ {vs : List (Key × V)} {ds : List (Key × D)}, RDk K F vs ds → RDk K F (vs.map fun kv => if kv.1 = k then (kv.1, v) else kv) (ds.map fun kv => if kv.1 = k then (kv.1, d) else kv)
  | _, [], h => by cases h; exact .nil
  | _, (j, d) :: ds, h => by
    cases h with
    | cons h1 h2 =>
      rw [List.map_cons, List.map_cons]
      by_cases hk : j = k
      · rw [if_pos hk, if_pos hk]; exact .cons r (RDk.mapk r h2)
      · rw [if_neg hk, if_neg hk]; exact .cons h1 (RDk.mapk r h2)
theorem RDk.put {k : Key} {v : V} {d : D} (r : RD K F v d) {vs : List (Key × V)} {ds : List (Key × D)} (h : RDk K F vs ds) : RDk K F (putK vs k v) (putD ds k d) := by
  unfold putK putD
  rw [h.any]
  split
  · exact h.mapk r
  · exact h.snoc r
theorem RDk.merge : ∀ {more : List (Key × D)} {mv : List (Key × V)} {vs : List (Key × V)} {ds : List (Key × D)}, RDk K F vs ds → RDk K F mv more → RDk K F (mergeK vs mv) (mergeD ds more)
  | [], _, _, _, h, h' => by cases h'; exact h
  | (k, d) :: more, _, vs, ds, h, h' => by
    cases h' with
    | cons h1 h2 =>
      show RDk K F (mergeK (putK vs k _) _) (mergeD (putD ds k d) more)
      exact RDk.merge (h.put h1) h2
theorem RDk.length : ∀ {vs : List (Key × V)} {ds : List (Key × D)}, RDk K F vs ds → vs.length = ds.length
  | _, [], h => by cases h; rfl
  | _, (j, d) :: ds, h => by
    cases h with
    | cons h1 h2 => rw [List.length_cons, List.length_cons, RDk.length h2]
theorem RB.dic {v : V} {ds : List (Key × D)} (sub : Same F H) (h : RB K F H v (.dic ds)) : ∃ a vs, v = .ref a ∧ Rd H a (.dK vs) ∧ RDk K F vs ds := by
  cases h.flat (fun _ => nofun) with
  | dic h1 h2 => exact ⟨_, _, rfl, .inr ⟨_, sub _ _ h1⟩, h2⟩
end
/-! ### d[k], k in d -/
def semAt : D → D → Option D
  | .dic ds, y => y.key.bind fun k => valD ds k
  | x, y => semIx x y
def inB2 : D → D → Option Bool
  | x, .dic ds => x.key.map fun k => (valD ds k).isSome
  | x, y => inB x y
def semIn2 (d e : D) : Option D := (inB2 d e).map D.bl
def semNotIn2 (d e : D) : Option D := (inB2 d e).map fun b => D.bl (!b)
section
variable {X : Cx} {g : G}
theorem ixAt (hu : X.A.units + 65 < cLine) : IxR X (rD2 X.K g semAt) := by
  intro value slice pins s sg H x y v u Q I rx ry h hs
  obtain ⟨F, s0, r, dx, dy, d, R, hx, hy, e, q⟩ := h
  unfold semAt at e
  split at e
  · next ds =>
    obtain ⟨k, ek, e⟩ := Option.bind_eq_some_iff.mp e
    obtain ⟨a, vs, rfl, h1, h2⟩ := hx.dic R.sub
    obtain rfl : v = Value.ref a := rx
    have ey : y = kV k := by
      refine key_of (hy.flat fun xs z => ?_) ek
      rw [z] at ek; cases ek
    subst ey
    obtain ⟨w, ew, hw⟩ := h2.find.1 _ e
    have gt : DGet H a (kV k) (some w) := .inl ⟨vs, k, h1, rfl, ew.symm⟩
    exact PyProof.Rows.tail_any (dict_typeIs I gt) PySem.F.slot_dict_getitem.lookup (d_getItem (by omega) I gt ry fun w' s' I' rw' => ⟨w, H, I', rw', q F H w (Same.refl _) R hw⟩) hs
  · exact ixd value slice pins s sg H x y v u Q I rx ry ⟨F, s0, r, dx, dy, d, R, hx, hy, e, q⟩ hs
theorem dget_of {F H : Hp} {s0 : St} {r : En} {y : V} {dy : D} {a : Addr} {vs : List (Key × V)} {ds : List (Key × D)} {k : Key} (R : Rel X.K g F H s0 r) (hy : RB X.K F H y dy) (ek : dy.key = some k) (h1 : Rd H a (.dK vs)) (h2 : RDk X.K F vs ds) : y = kV k ∧ DGet H a y (valV vs k) ∧ (valV vs k).isSome = (valD ds k).isSome := by
  have ey : y = kV k := by
    refine key_of (hy.flat fun xs z => ?_) ek
    rw [z] at ek; cases ek
  subst ey
  refine ⟨rfl, .inl ⟨vs, k, h1, rfl, rfl⟩, ?_⟩
  cases e : valD ds k with
  | none => rw [h2.find.2 e]; rfl
  | some d =>
    obtain ⟨w, ew, _⟩ := h2.find.1 d e
    rw [ew]; rfl
theorem opd_in2 (hu : X.A.units + 65 < cLine) : OpR X (compareOp .In) (rD2 X.K g semIn2) := by
  intro pins s sg H x y v u Q I rx ry h
  obtain ⟨F, s0, r, dx, dy, d, R, hx, hy, e, q⟩ := h
  obtain ⟨b, eb, rfl⟩ := Option.map_eq_some_iff.mp e
  unfold inB2 at eb
  split at eb
  · next x0 ds =>
    obtain ⟨k, ek, rfl⟩ := Option.map_eq_some_iff.mp eb
    obtain ⟨a, vs, rfl, h1, h2⟩ := hy.dic R.sub
    obtain rfl : u = Value.ref a := ry
    obtain ⟨_, gt, eq⟩ := dget_of R hx ek h1 h2
    refine d_in (by omega) I gt rx fun s' I' => ⟨.bl _, H, I', rfl, ?_⟩
    rw [eq]
    exact q F H _ (Same.refl _) R (.bl _)
  · exact opd_in hu pins s sg H x y v u Q I rx ry ⟨F, s0, r, dx, dy, _, R, hx, hy, by unfold semIn; rw [eb]; rfl, q⟩
theorem opd_notIn2 (hu : X.A.units + 65 < cLine) : OpR X (compareOp .NotIn) (rD2 X.K g semNotIn2) := by
  intro pins s sg H x y v u Q I rx ry h
  obtain ⟨F, s0, r, dx, dy, d, R, hx, hy, e, q⟩ := h
  obtain ⟨b, eb, rfl⟩ := Option.map_eq_some_iff.mp e
  unfold inB2 at eb
  split at eb
  · next x0 ds =>
    obtain ⟨k, ek, rfl⟩ := Option.map_eq_some_iff.mp eb
    obtain ⟨a, vs, rfl, h1, h2⟩ := hy.dic R.sub
    obtain rfl : u = Value.ref a := ry
    obtain ⟨_, gt, eq⟩ := dget_of R hx ek h1 h2
    refine d_notIn (by omega) I gt rx fun s' I' => ⟨.bl _, H, I', rfl, ?_⟩
    rw [eq]
    exact q F H _ (Same.refl _) R (.bl _)
  · exact opd_notIn hu pins s sg H x y v u Q I rx ry ⟨F, s0, r, dx, dy, _, R, hx, hy, by unfold semNotIn; rw [eb]; rfl, q⟩
end
/-! ### {k: v, ..} -/
def evPs : List ((En → Rs D) × (En → Rs D)) → En → Rs (List (Key × D))
  | [], r => .ok [] r
  | (f, h) :: fs, r => (f r).bind fun k r1 => (h r1).bind fun d r2 => (ofO k.key r2).bind fun k r2 => (evPs fs r2).bind fun kds r3 => .ok ((k, d) :: kds) r3
def dicD (fs : List ((En → Rs D) × (En → Rs D))) : En → Rs D := fun r => (evPs fs r).noE.bind fun kds r1 => if kds.length ≤ 15 then .ok (.dic (mergeD [] kds)) r1 else .bad
/-- a reading whatever is held still -/
def tDa (K : PySem.W.Frag) (g0 : G) (f : En → Rs D) : TE := fun s H Q => ∃ g : G, Blk g0 g ∧ tD K g f s H Q
def trsD (K : PySem.W.Frag) (g0 : G) (fs : List ((En → Rs D) × (En → Rs D))) : List (TE × TE) := fs.map fun f => (tDa K g0 f.1, tDa K g0 f.2)
def DPs (X : Cx) (g0 : G) (pos : Pos) (ks : List (Option Expr)) (vs : List Expr) (fs : List ((En → Rs D) × (En → Rs D))) : Prop := PPs X pos ks vs (trsD X.K g0 fs)
section
variable {X : Cx} {g : G} {pos : Pos}
theorem dps_nil {g0 : G} : DPs X g0 pos [] [] [] := pps_nil
theorem dps_cons {g0 : G} {k v : Expr} {ks : List (Option Expr)} {vs : List Expr} {f h : En → Rs D} {fs : List ((En → Rs D) × (En → Rs D))} (hk : ∀ g : G, Blk g0 g → DE X g k f) (hv : ∀ g : G, Blk g0 g → DE X g v h) (hr : DPs X g0 pos ks vs fs) :
    DPs X g0 pos (some k :: ks) (v :: vs) ((f, h) :: fs) :=
  pps_cons ⟨fun pins s σ H Q I ⟨g', eg, q⟩ => (hk g' eg).run pins s σ H Q I q⟩ ⟨fun pins s σ H Q I ⟨g', eg, q⟩ => (hv g' eg).run pins s σ H Q I q⟩ hr
theorem pairs_ok {K : PySem.W.Frag} {s : St} {g0 : G} (bk : Blk g0 g) : ∀ (fs : List ((En → Rs D) × (En → Rs D))) {F H : Hp} {r : En} {Q : List (V × V) → Hp → Prop}, Rel K g F H s r →
    post K g (fun kds r' => ∀ F' H' (kvs : List (Key × V)), Same F F' → Rel K g F' H' s r' → RDk K F' kvs kds → Q (kvs.map fun kv => (kV kv.1, kv.2)) H') (evPs fs r) → tPairs (trsD K g0 fs) s H Q
  | [], F, H, r, Q, R, q => q F H [] (Same.refl _) R .nil
  | (f, h) :: fs, F, H, r, Q, R, q => by
    refine ⟨g, bk, F, r, R, post_mono (post_bind q) fun k r1 q F1 H1 v1 sm1 R1 hv1 => ⟨g, bk, F1, r1, R1, post_mono (post_bind q) fun d r2 q F2 H2 v2 sm2 R2 hv2 => ?_⟩⟩
    obtain ⟨k', ek, q⟩ := post_ofO (post_bind q)
    refine pairs_ok bk fs R2 (post_mono (post_bind q) fun kds r3 q F3 H3 kvs sm3 R3 hk3 => ?_)
    have e1 : v1 = kV k' := key_of hv1 ek
    subst e1
    exact q F3 H3 ((k', v2) :: kvs) ((sm1.trans sm2).trans sm3) R3 (.cons (RD.mono sm3 d hv2) hk3)
/-- what is held still is filled and frozen -/
theorem Rel.fill {K : PySem.W.Frag} {F H : Hp} {s : St} {r : En} {A : Addr} {o o' : HO} (R : Rel K (g.more A o) F H s r) (h0 : g.H0 A = none) (hX : ∀ p ∈ g.X, p.1 ≠ A) : Same F (L2.upd F A o') ∧ Rel K g (L2.upd F A o') (L2.upd H A o') s r := by
  obtain ⟨R, h1, h2, h3⟩ := R.less
  have sF : Same F (L2.upd F A o') := same_upd h2
  refine ⟨sF, fun b u e => ?_, R.f0.trans sF, fun b u e e0 => ?_, fun b u e hb ht => ?_, fun i u e => ?_, R.own, R.dist, R.pin, R.len, R.tb.atFH (R.tb.tn h0) h2, fun p hp => ?_⟩
  · by_cases hb : b = A
    · subst hb; rw [upd_same] at e ⊢; exact e
    · rw [upd_ne hb] at e ⊢; exact R.sub b u e
  · by_cases hb : b = A
    · subst hb; exact h0
    · rw [upd_ne hb] at e; exact R.fnew b u e e0
  · rw [upd_ne fun z => by rw [z, h0] at e; cases e]; exact R.keep b u e hb ht
  · obtain ⟨v, a1, a2⟩ := R.slot i u e
    refine ⟨v, a1, ?_⟩
    cases u with
    | sh d => exact RD.mono sF d a2
    | ow xs =>
      obtain ⟨b, ws, e1, e2, e3, e4⟩ := a2
      have hb : b ≠ A := fun z => h3 i _ e rfl (by rw [a1, e1, z])
      exact ⟨b, ws, e1, by rw [upd_ne hb]; exact e2, by rw [upd_ne hb]; exact e3, RDs.mono sF xs e4⟩
    | od xs =>
      obtain ⟨b, ws, e1, e2, e3, e4⟩ := a2
      have hb : b ≠ A := fun z => h3 i _ e rfl (by rw [a1, e1, z])
      exact ⟨b, ws, e1, by rw [upd_ne hb]; exact e2, by rw [upd_ne hb]; exact e3, RDm.mono sF xs e4⟩
    | oi c xs =>
      obtain ⟨b, ws, e1, e2, e3, e4⟩ := a2
      have hb : b ≠ A := fun z => h3 i _ e rfl (by rw [a1, e1, z])
      exact ⟨b, ws, e1, by rw [upd_ne hb]; exact e2, by rw [upd_ne hb]; exact e3, RDi.mono sF xs e4⟩
    | th xs =>
      obtain ⟨b, ws, e1, e2, e3, e4⟩ := a2
      have hb : b ≠ A := fun z => h3 i _ e rfl (by rw [a1, e1, z])
      exact ⟨b, ws, e1, by rw [upd_ne hb]; exact e2, by rw [upd_ne hb]; exact e3, RT.mono sF xs e4⟩
    | exc c => exact RE.mono sF a2
  · obtain ⟨x1, x2, x3⟩ := R.ext p hp
    exact ⟨by rw [upd_ne (hX p hp)]; exact x1, by rw [upd_ne (hX p hp)]; exact x2, x3⟩
/-- what was just made is locked -/
def tLk (t : TE) : TE := fun σ H Q => t σ H fun v H' => ∃ d u, H' d = some u ∧ Mut (some u) ∧ ∀ od, Q v (L2.upd H' d (.frz od u))
theorem pe_lk {e : Expr} {t : TE} (h : PE X e t) : PE X e (tLk t) := by
  refine ⟨fun pins s σ H Q I hw => ?_⟩
  refine thn (h.run pins s σ H _ I hw) fun v s1 ⟨x, H1, I2, r, d, u, hd, mu, q⟩ => ?_
  obtain ⟨od, I3⟩ := I2.lock hd mu
  exact ⟨x, _, I3, r, q od⟩
theorem de_disp {ks : List (Option Expr)} {vs : List Expr} {fs : List ((En → Rs D) × (En → Rs D))} (h : DPs X g pos ks vs fs) (hall : ks.all (·.isSome) = true := by rfl) (hl : ks.length = vs.length := by rfl) (h0 : ks ≠ [] := by exact List.cons_ne_nil _ _) (h15 : ks.length ≤ 15 := by decide) :
    DE X g (.Dict ks vs pos) (dicD fs) :=
  PE.imp (pe_lk (pe_disp h hall hl h0 h15)) fun s H Q ⟨F, r, R, q⟩ => fun p np => by
    have R1 : Rel X.K (g.more p (.dK [])) F (L2.upd H p (.dK [])) s r := (R.laid np).more upd_same (R.ff np) fun j o e eo => not_own R np j o e eo
    have hX : ∀ q ∈ g.X, q.1 ≠ p := fun q hq z => by have := (R.ext q hq).1; rw [z, np] at this; cases this
    refine pairs_ok (g := (g.more p (.dK [])).nw) (g0 := g) ⟨rfl, rfl, rfl, rfl⟩ fs R1.nw (post_mono (post_noE (post_bind q)) fun kds r1 q F2 H2 kvs sm R2 hk => ?_)
    have R2 := R2.unw
    obtain ⟨hl, q⟩ := post_if q
    refine ⟨R2.less.2.1, kvs, rfl, by rw [hk.length]; exact hl, ?_⟩
    have m : RDk X.K F2 (mergeK [] kvs) (mergeD [] kds) := RDk.merge .nil hk
    refine ⟨p, _, upd_same, trivial, fun od => ?_⟩
    rw [upd_upd]
    obtain ⟨sF, R3⟩ := R2.fill (o' := .frz od (.dK (mergeK [] kvs))) (R.live np) hX
    exact q _ _ _ (sm.trans sF) R3 (.dic upd_same (RDk.mono sF _ m))
/-! ### dict(pairs) -/
def pairD : List D → Option (List (Key × D))
  | [] => some []
  | .tup [k, d] :: ds => k.key.bind fun k => (pairD ds).map fun kds => (k, d) :: kds
  | _ => none
def semDict : List D → Option D
  | [.lst ds] => (pairD ds).map fun kds => .dic (mergeD [] kds)
  | _ => none
end
end DL

/-! Data layer, part 16: a name that gets a list and never changes it: frozen at once. -/
namespace DL
open PySem L2
section
variable {X : Cx} {g : G}
theorem Rel.fz {K : PySem.W.Frag} {F H : Hp} {s : St} {r : En} {i : Nat} {xs : List D} (R : Rel K g F H s r) (hb : ∀ p ∈ g.B, p.1 ≠ i) (e : r[i]? = some (some (.ow xs))) : ∃ F', Same F F' ∧ Rel K g F' H s (r.set i (some (.sh (.lst xs)))) := by
  obtain ⟨v, h1, h2⟩ := R.slot i _ e
  obtain ⟨a, vs, rfl, e2, e3, e4⟩ := h2
  have sF : Same F (L2.upd F a (.lst vs)) := same_upd e2
  have hi : i < r.length := (List.getElem?_eq_some_iff.mp e).1
  have ne : ∀ j u, (r.set i (some (.sh (.lst xs))))[j]? = some (some u) → u.own = true → j ≠ i ∧ r[j]? = some (some u) := fun j u z zo => by
    by_cases hj : i = j
    · subst hj
      rw [List.getElem?_set_self hi] at z
      cases z
      cases zo
    · rw [List.getElem?_set_ne hj] at z
      exact ⟨fun z => hj z.symm, z⟩
  have h0 : g.H0 a = none := by
    rcases R.own i _ a e rfl h1 with z | z
    · exact z
    · exact absurd rfl (hb _ z)
  refine ⟨L2.upd F a (.lst vs), sF, ⟨fun b u e => ?_, R.f0.trans sF, fun b u e e0 => ?_, R.keep, fun j u z => ?_, fun j u b z zo => ?_, fun j k u w b hjk z zo y yo => ?_, fun p hp => ?_, ?_, R.tb.atF (R.tb.tn h0) e2, fun p hp => ?_⟩⟩
  · by_cases hb : b = a
    · subst hb; rw [upd_same] at e; cases e; exact e3
    · rw [upd_ne hb] at e; exact R.sub b u e
  · by_cases hb : b = a
    · subst hb; exact h0
    · rw [upd_ne hb] at e; exact R.fnew b u e e0
  · by_cases hj : i = j
    · subst hj
      rw [List.getElem?_set_self hi] at z
      cases z
      exact ⟨_, h1, .lst upd_same (RDs.mono sF xs e4)⟩
    · rw [List.getElem?_set_ne hj] at z
      obtain ⟨w, g1, g2⟩ := R.slot j u z
      refine ⟨w, g1, ?_⟩
      cases u with
      | sh d => exact RD.mono sF d g2
      | ow ys =>
        obtain ⟨b, ws, rfl, f2, f3, f4⟩ := g2
        have hb : b ≠ a := fun zz => R.dist i j _ _ a hj e rfl z rfl h1 (by rw [g1, zz])
        exact ⟨b, ws, rfl, by rw [upd_ne hb]; exact f2, f3, RDs.mono sF ys f4⟩
      | od ys =>
        obtain ⟨b, ws, rfl, f2, f3, f4⟩ := g2
        have hb : b ≠ a := fun zz => R.dist i j _ _ a hj e rfl z rfl h1 (by rw [g1, zz])
        exact ⟨b, ws, rfl, by rw [upd_ne hb]; exact f2, f3, RDm.mono sF ys f4⟩
      | oi c ys =>
        obtain ⟨b, ws, rfl, f2, f3, f4⟩ := g2
        have hb : b ≠ a := fun zz => R.dist i j _ _ a hj e rfl z rfl h1 (by rw [g1, zz])
        exact ⟨b, ws, rfl, by rw [upd_ne hb]; exact f2, f3, RDi.mono sF ys f4⟩
      | th ys =>
        obtain ⟨b, ws, rfl, f2, f3, f4⟩ := g2
        have hb : b ≠ a := fun zz => R.dist i j _ _ a hj e rfl z rfl h1 (by rw [g1, zz])
        exact ⟨b, ws, rfl, by rw [upd_ne hb]; exact f2, f3, RT.mono sF ys f4⟩
      | exc c => exact RE.mono sF g2
  · obtain ⟨_, z'⟩ := ne j u z zo
    exact R.own j u b z' zo
  · obtain ⟨_, z'⟩ := ne j u z zo
    obtain ⟨_, y'⟩ := ne k w y yo
    exact R.dist j k u w b hjk z' zo y' yo
  · obtain ⟨p1, o, p2, p3⟩ := R.pin p hp
    refine ⟨p1, o, ?_, p3⟩
    rw [List.getElem?_set_ne fun z => hb p hp z.symm]
    exact p2
  · rw [List.length_set]; exact R.len
  · obtain ⟨x1, x2, x3⟩ := R.ext p hp
    refine ⟨x1, ?_, fun j u z zo => x3 j u (ne j u z zo).2 zo⟩
    have hn : p.1 ≠ a := fun zz => x3 i _ e rfl (by rw [h1, zz])
    rw [upd_ne hn]; exact x2
/-- never a dict of the third kind -/
def NoOd (f : En → Rs OV) : Prop := ∀ r o r1, f r = .ok o r1 → (∃ d, o = .sh d) ∨ ∃ xs, o = .ow xs
theorem lc_nod {it : En → Rs (List D)} {vs : List Nat} {h : D → En → Option En} {t : En → Rs Bool} {e : En → Rs D} : NoOd (lcD it vs h t e) := fun r o r1 z => by
  unfold lcD at z
  cases e1 : it r with
  | bad => rw [e1] at z; cases z
  | ex x r2 => rw [e1] at z; cases z
  | ok ds r2 =>
    rw [e1] at z
    simp only [Rs.bind] at z
    split at z
    · cases e2 : lcS vs h t e ds r2 with
      | bad => rw [e2] at z; cases z
      | ex x r3 => rw [e2] at z; cases z
      | ok ys r3 => rw [e2] at z; cases z; exact .inr ⟨ys, rfl⟩
    · cases z
theorem ds_fz {st : Stmt} {i : Nat} {f : En → Rs OV} (hb : ∀ p ∈ g.B, p.1 ≠ i) (hn : NoOd f) (h : DS X g st (setS i f)) : DS X g st (setS i (shD (frzD f))) :=
  PS.imp h fun E s H ⟨F, r, R, q⟩ => by
    refine ⟨F, r, R, ?_⟩
    unfold setS shD frzD at q
    unfold setS
    cases hf : f r with
    | bad => rw [hf] at q; exact q
    | ex x r1 => rw [hf] at q; exact q
    | ok o r1 =>
      rw [hf] at q
      cases o with
      | sh d => exact q
      | ow xs =>
        intro F1 H1 s1 sm R1
        by_cases hi : i < r1.length
        · obtain ⟨F2, s2, R2⟩ := R1.fz hb (List.getElem?_set_self hi)
          rw [List.set_set] at R2
          exact q F2 H1 s1 (sm.trans s2) R2
        · have e1 : r1.set i (some (OV.ow xs)) = r1 := List.set_eq_of_length_le (by omega)
          have e2 : r1.set i (some (OV.sh (.lst xs))) = r1 := List.set_eq_of_length_le (by omega)
          rw [e1] at R1
          exact q F1 H1 s1 sm (by show Rel X.K g F1 H1 s1 (r1.set i (some (OV.sh (.lst xs)))); rw [e2]; exact R1)
      | od xs => rcases hn r _ r1 hf with ⟨_, z⟩ | ⟨_, z⟩ <;> cases z
      | oi c xs => rcases hn r _ r1 hf with ⟨_, z⟩ | ⟨_, z⟩ <;> cases z
      | th xs => rcases hn r _ r1 hf with ⟨_, z⟩ | ⟨_, z⟩ <;> cases z
      | exc x => rcases hn r _ r1 hf with ⟨_, z⟩ | ⟨_, z⟩ <;> cases z
end
end DL

/-! Data layer, part 17: tools for the plain laws. -/
namespace DL
open PySem L2
noncomputable instance decD : DecidableEq D := fun _ _ => Classical.propDecidable _
/-! ### equality of data -/
mutual
/-- no dict, no script; and no truth (k), or no int (not k) -/
def D.cl (k : Bool) : D → Bool
  | .non => true
  | .bl _ => !k
  | .int _ => k
  | .str _ => true
  | .lst xs => clAll k xs
  | .tup xs => clAll k xs
  | .dic _ => false
  | .scr _ => false
  | .obj _ _ => false
def clAll (k : Bool) : List D → Bool
  | [] => true
  | d :: ds => d.cl k && clAll k ds
end
theorem clAll_iff {k : Bool} {ds : List D} : clAll k ds = true ↔ ∀ d ∈ ds, d.cl k = true := by
  induction ds with
  | nil => simp [clAll]
  | cons d ds ih => simp [clAll, ih]
theorem plAll_iff {ds : List D} : plAll ds = true ↔ ∀ d ∈ ds, d.pl = true := by
  induction ds with
  | nil => simp [plAll]
  | cons d ds ih => simp [plAll, ih]
theorem sixAll_iff {ds : List D} : sixAll ds = true ↔ ∀ d ∈ ds, d.six = true := by
  induction ds with
  | nil => simp [sixAll]
  | cons d ds ih => simp [sixAll, ih]
mutual
theorem eqv_iff (k : Bool) : ∀ d e : D, d.cl k = true → e.cl k = true → (d.eqv e = true ↔ d = e)
  | .non, e, _, he => by cases e <;> simp [D.eqv]
  | .bl a, e, hd, he => by cases e <;> simp_all [D.eqv, D.cl]
  | .int a, e, hd, he => by cases e <;> simp_all [D.eqv, D.cl]
  | .str a, e, _, he => by cases e <;> simp [D.eqv]
  | .lst xs, e, hd, he => by
    cases e with
    | lst ys =>
      have := eqvAll_iff k xs ys hd he
      simp only [D.eqv, this, D.lst.injEq]
    | _ => simp [D.eqv]
  | .tup xs, e, hd, he => by
    cases e with
    | tup ys =>
      have := eqvAll_iff k xs ys hd he
      simp only [D.eqv, this, D.tup.injEq]
    | _ => simp [D.eqv]
  | .dic _, _, h, _ => by cases h
  | .scr _, _, h, _ => by cases h
  | .obj _ _, _, h, _ => by cases h
theorem eqvAll_iff (k : Bool) : ∀ ds es : List D, clAll k ds = true → clAll k es = true → (eqvAll ds es = true ↔ ds = es)
  | [], [], _, _ => by simp [eqvAll]
  | [], _ :: _, _, _ => by simp [eqvAll]
  | _ :: _, [], _, _ => by simp [eqvAll]
  | d :: ds, e :: es, h, h' => by
    simp only [clAll, Bool.and_eq_true] at h h'
    have h1 := eqv_iff k d e h.1 h'.1
    have h2 := eqvAll_iff k ds es h.2 h'.2
    simp only [eqvAll, Bool.and_eq_true, h1, h2, List.cons.injEq]
end
mutual
theorem eqv_self : ∀ d : D, d.pl = true → d.eqv d = true
  | .non, _ => rfl
  | .bl a, _ => by simp [D.eqv]
  | .int a, _ => by simp [D.eqv]
  | .str a, _ => by simp [D.eqv]
  | .lst xs, h => eqvAll_self xs h
  | .tup xs, h => eqvAll_self xs h
  | .dic _, h => by cases h
  | .scr _, h => by cases h
  | .obj _ _, h => by cases h
theorem eqvAll_self : ∀ ds : List D, plAll ds = true → eqvAll ds ds = true
  | [], _ => rfl
  | d :: ds, h => by
    simp only [plAll, Bool.and_eq_true] at h
    simp only [eqvAll, eqv_self d h.1, eqvAll_self ds h.2, Bool.and_self]
end
/-! ### small data: plain, of a depth, of a weight -/
structure Sm (n w : Nat) (d : D) : Prop where
  pl : d.pl = true
  six : d.six = true
  dp : d.dp ≤ n
  wt : d.wt ≤ w
theorem Sm.mono {n w n' w' : Nat} {d : D} (h : Sm n w d) (h1 : n ≤ n') (h2 : w ≤ w') : Sm n' w' d := ⟨h.pl, h.six, Nat.le_trans h.dp h1, Nat.le_trans h.wt h2⟩
theorem Sm.fit {n w : Nat} {d : D} (h : Sm n w d) (hn : n ≤ 64 := by decide) : d.fit = true := by
  unfold D.fit
  rw [h.pl, decide_eq_true (Nat.le_trans h.dp hn)]; rfl
theorem Sm.shw {n w : Nat} {d : D} (h : Sm n w d) (hn : n ≤ 64 := by decide) (hw : w ≤ 1000000 := by decide) : d.shw = true := by
  unfold D.shw
  rw [h.fit hn, h.six, decide_eq_true (Nat.le_trans h.wt hw)]; rfl
theorem dpAll_le {ds : List D} {n : Nat} (h : ∀ d ∈ ds, d.dp ≤ n) : dpAll ds ≤ n := dpAll_of h
theorem wtAll_le {ds : List D} {w m : Nat} (h : ∀ d ∈ ds, d.wt ≤ w) (hm : ds.length ≤ m) : wtAll ds ≤ m * (w + 2) := by
  induction ds generalizing m with
  | nil => exact Nat.zero_le _
  | cons d ds ih =>
    rw [List.length_cons] at hm
    have h1 := h d (List.mem_cons_self ..)
    have h2 := ih (m := m - 1) (fun e he => h e (List.mem_cons_of_mem _ he)) (by omega)
    have e : m * (w + 2) = (m - 1) * (w + 2) + (w + 2) := by
      obtain ⟨k, rfl⟩ : ∃ k, m = k + 1 := ⟨m - 1, by omega⟩
      rw [Nat.add_sub_cancel, Nat.succ_mul]
    unfold wtAll
    omega
theorem Sm.lst {n w m : Nat} {ds : List D} (h : ∀ d ∈ ds, Sm n w d) (hm : ds.length ≤ m) : Sm (n + 1) (m * (w + 2) + 3) (.lst ds) :=
  ⟨plAll_iff.mpr fun d hd => (h d hd).pl, sixAll_iff.mpr fun d hd => (h d hd).six, Nat.succ_le_succ (dpAll_le fun d hd => (h d hd).dp), Nat.add_le_add_right (wtAll_le (fun d hd => (h d hd).wt) hm) 3⟩
theorem Sm.tup {n w m : Nat} {ds : List D} (h : ∀ d ∈ ds, Sm n w d) (hm : ds.length ≤ m) : Sm (n + 1) (m * (w + 2) + 3) (.tup ds) :=
  ⟨plAll_iff.mpr fun d hd => (h d hd).pl, sixAll_iff.mpr fun d hd => (h d hd).six, Nat.succ_le_succ (dpAll_le fun d hd => (h d hd).dp), Nat.add_le_add_right (wtAll_le (fun d hd => (h d hd).wt) hm) 3⟩
theorem Sm.non : Sm 0 4 .non := ⟨rfl, rfl, Nat.zero_le _, Nat.le_refl _⟩
theorem Sm.bl (b : Bool) : Sm 0 5 (.bl b) := ⟨rfl, rfl, Nat.zero_le _, Nat.le_refl _⟩
theorem Sm.int {i : Int} (h : i.natAbs < 1000000000000000000) : Sm 0 20 (.int i) := by
  refine ⟨rfl, decide_eq_true ?_, Nat.zero_le _, ?_⟩
  · have : i.natAbs.log2 < 1920 := by
      by_cases h0 : i.natAbs = 0
      · rw [h0]; decide
      · rw [Nat.log2_lt h0]
        exact Nat.lt_of_lt_of_le h (by decide)
    exact this
  · unfold D.wt; rw [if_pos h]; exact Nat.le_refl _
/-! ### ==, in -/
theorem eqB_of (k : Bool) {d e : D} (hd : d.fit = true) (he : e.fit = true) (cd : d.cl k = true) (ce : e.cl k = true) : eqB d e = some (decide (d = e)) := by
  have hv : d.eqv e = decide (d = e) := by
    by_cases h : d = e
    · rw [decide_eq_true h]; exact (eqv_iff k d e cd ce).mpr h
    · rw [decide_eq_false h]
      cases hq : d.eqv e with
      | true => exact absurd ((eqv_iff k d e cd ce).mp hq) h
      | false => rfl
  unfold eqB
  cases hs : D.sc d e with
  | some b =>
    rcases sc_some hs with ⟨i, j, rfl, rfl, rfl⟩ | ⟨i, j, rfl, rfl, rfl⟩ | ⟨i, j, rfl, rfl, rfl⟩ <;> simp
  | none => simp only [hd, he, Bool.and_self, if_true, hv]
theorem eqB_self {d : D} (hd : d.fit = true) : eqB d d = some true := by
  unfold eqB
  cases hs : D.sc d d with
  | some b =>
    rcases sc_some hs with ⟨i, j, rfl, h, rfl⟩ | ⟨i, j, rfl, h, rfl⟩ | ⟨i, j, rfl, h, rfl⟩ <;> cases h <;> simp
  | none => simp only [hd, Bool.and_self, if_true, eqv_self d (pl_of_fit hd)]
theorem semEq_of (k : Bool) {d e : D} (hd : d.fit = true) (he : e.fit = true) (cd : d.cl k = true) (ce : e.cl k = true) : semEq d e = some (.bl (decide (d = e))) := by
  unfold semEq; rw [eqB_of k hd he cd ce]; rfl
theorem semEq_self {d : D} (hd : d.fit = true) : semEq d d = some (.bl true) := by unfold semEq; rw [eqB_self hd]; rfl
theorem semEq_str (x y : Str) : semEq (.str x) (.str y) = some (.bl (decide (x = y))) := rfl
theorem semNe_str (x y : Str) : semNe (.str x) (.str y) = some (.bl (!decide (x = y))) := rfl
theorem semEq_int (x y : Int) : semEq (.int x) (.int y) = some (.bl (decide (x = y))) := rfl
theorem semNe_int (x y : Int) : semNe (.int x) (.int y) = some (.bl (!decide (x = y))) := rfl
theorem semEq_bl (x y : Bool) : semEq (.bl x) (.bl y) = some (.bl (decide (x = y))) := rfl
theorem semNe_bl (x y : Bool) : semNe (.bl x) (.bl y) = some (.bl (!decide (x = y))) := rfl
theorem any_eqv (k : Bool) {d : D} {ds : List D} (cd : d.cl k = true) (ce : ∀ e ∈ ds, e.cl k = true) : (ds.any fun z => z.eqv d) = decide (d ∈ ds) := by
  induction ds with
  | nil => simp
  | cons e es ih =>
    rw [List.any_cons, ih fun x hx => ce x (List.mem_cons_of_mem _ hx)]
    have := eqv_iff k e d (ce e (List.mem_cons_self ..)) cd
    by_cases h : e = d
    · rw [this.mpr h]; simp [h]
    · have hf : e.eqv d = false := by
        cases hq : e.eqv d with
        | true => exact absurd (this.mp hq) h
        | false => rfl
      rw [hf]
      have hne : ¬ d = e := fun z => h z.symm
      simp [hne]
theorem inB_lst (k : Bool) {d : D} {ds : List D} (hd : d.fit = true) (he : (D.lst ds).fit = true) (cd : d.cl k = true) (ce : ∀ e ∈ ds, e.cl k = true) : inB d (.lst ds) = some (decide (d ∈ ds)) := by
  unfold inB D.seq
  simp only [hd, he, Bool.and_self, if_true, any_eqv k cd ce]
theorem inB_tup (k : Bool) {d : D} {ds : List D} (hd : d.fit = true) (he : (D.tup ds).fit = true) (cd : d.cl k = true) (ce : ∀ e ∈ ds, e.cl k = true) : inB d (.tup ds) = some (decide (d ∈ ds)) := by
  unfold inB D.seq
  simp only [hd, he, Bool.and_self, if_true, any_eqv k cd ce]
theorem inB2_lst (d : D) (ds : List D) : inB2 d (.lst ds) = inB d (.lst ds) := rfl
theorem inB2_tup (d : D) (ds : List D) : inB2 d (.tup ds) = inB d (.tup ds) := rfl
theorem semIn_lst (k : Bool) {d : D} {ds : List D} (hd : d.fit = true) (he : (D.lst ds).fit = true) (cd : d.cl k = true) (ce : ∀ e ∈ ds, e.cl k = true) : semIn2 d (.lst ds) = some (.bl (decide (d ∈ ds))) := by
  unfold semIn2; rw [inB2_lst, inB_lst k hd he cd ce]; rfl
theorem semNotIn_lst (k : Bool) {d : D} {ds : List D} (hd : d.fit = true) (he : (D.lst ds).fit = true) (cd : d.cl k = true) (ce : ∀ e ∈ ds, e.cl k = true) : semNotIn2 d (.lst ds) = some (.bl (!decide (d ∈ ds))) := by
  unfold semNotIn2; rw [inB2_lst, inB_lst k hd he cd ce]; rfl
theorem semIn_tup (k : Bool) {d : D} {ds : List D} (hd : d.fit = true) (he : (D.tup ds).fit = true) (cd : d.cl k = true) (ce : ∀ e ∈ ds, e.cl k = true) : semIn2 d (.tup ds) = some (.bl (decide (d ∈ ds))) := by
  unfold semIn2; rw [inB2_tup, inB_tup k hd he cd ce]; rfl
theorem Sm.all {n w : Nat} {ds : List D} (h : ∀ d ∈ ds, Sm n w d) (hn : n ≤ 63 := by decide) : (D.lst ds).fit = true ∧ (D.tup ds).fit = true :=
  ⟨fit_lst hn fun d hd => ⟨(h d hd).pl, (h d hd).dp⟩, fit_tup hn fun d hd => ⟨(h d hd).pl, (h d hd).dp⟩⟩
/-! ### stepping -/
theorem op2_ee (f h : En → Rs D) (sem : D → D → Option D) (r : En) : op2 (.ex f) (.ex h) sem r = (f r).bind fun x r1 => (h r1).bind fun y r2 => ofO (sem x y) r2 := by
  cases e1 : f r with
  | bad => simp only [op2, Opd.run, e1, Rs.map, Rs.bind]
  | ex x r1 => simp only [op2, Opd.run, e1, Rs.map, Rs.bind]
  | ok x r1 =>
    cases e2 : h r1 with
    | bad => simp only [op2, Opd.run, e1, e2, Rs.map, Rs.bind]
    | ex y r2 => simp only [op2, Opd.run, e1, e2, Rs.map, Rs.bind]
    | ok y r2 => simp only [op2, Opd.run, e1, e2, Rs.map, Rs.bind, look, Option.bind_some]
theorem seqS_nx {f h : En → SRs} {r r1 : En} (e : f r = .nx r1) : seqS f h r = h r1 := by unfold seqS; rw [e]
theorem forD_of {f : En → Rs (List D)} {h : D → En → Option En} {b : En → SRs} {r r1 : En} {ds : List D} {x : SRs} (e1 : f r = .ok ds r1) (e2 : forS h b ds r1 = x) : forD f h b r = x := by unfold forD; rw [e1]; exact e2
/-- a comprehension that changes nothing but its own names -/
theorem lcD_map {α : Type} {it : En → Rs (List D)} {vs : List Nat} {h : D → En → Option En} {t : En → Rs Bool} {elt : En → Rs D} {r r1 : En} (r2 : En) (xs : List α) (enc : α → D) (p : α → Bool) (q : α → D)
    (hi : it r = .ok (xs.map enc) r1) (hl : xs.length ≤ 1000000) (hw : wipeE r1 vs = r2) (hw2 : wipeE r2 vs = r2)
    (he : ∀ x ∈ xs, ∃ ra rb, h (enc x) r2 = some ra ∧ t ra = .ok (p x) rb ∧ wipeE rb vs = r2 ∧ (p x = true → ∃ rc, elt rb = .ok (q x) rc ∧ wipeE rc vs = r2)) :
    lcD it vs h t elt r = .ok (.ow ((xs.filter p).map q)) r2 := by
  have go : ∀ ys : List α, (∀ x ∈ ys, x ∈ xs) → ∀ r0, wipeE r0 vs = r2 → ∃ r9, lcS vs h t elt (ys.map enc) r0 = .ok ((ys.filter p).map q) r9 ∧ wipeE r9 vs = r2 := by
    intro ys
    induction ys with
    | nil => exact fun _ r0 e0 => ⟨r0, rfl, e0⟩
    | cons y ys ih =>
      intro hm r0 e0
      obtain ⟨ra, rb, e1, e2, e3, e4⟩ := he y (hm y (List.mem_cons_self ..))
      have ih' := ih fun x hx => hm x (List.mem_cons_of_mem _ hx)
      rw [List.map_cons]
      unfold lcS
      rw [e0, e1]
      simp only [e2, Rs.bind]
      cases hp : p y with
      | false =>
        rw [List.filter_cons_of_neg (by simp [hp])]
        simp only [Bool.false_eq_true, if_false, e3]
        exact ih' r2 hw2
      | true =>
        obtain ⟨rc, e5, e6⟩ := e4 hp
        rw [List.filter_cons_of_pos hp]
        simp only [if_true, e5, e6, List.map_cons]
        obtain ⟨r9, e7, e8⟩ := ih' r2 hw2
        exact ⟨r9, by rw [e7], e8⟩
  obtain ⟨r9, e7, e8⟩ := go xs (fun _ h => h) r1 hw
  unfold lcD
  rw [hi]
  simp only [Rs.bind, Rs.noE, List.length_map, hl, if_true, e7, e8]
/-- the same without a test -/
theorem lcD_map1 {α : Type} {it : En → Rs (List D)} {vs : List Nat} {h : D → En → Option En} {elt : En → Rs D} {r r1 : En} (r2 : En) (xs : List α) (enc : α → D) (q : α → D)
    (hi : it r = .ok (xs.map enc) r1) (hl : xs.length ≤ 1000000) (hw : wipeE r1 vs = r2) (hw2 : wipeE r2 vs = r2)
    (he : ∀ x ∈ xs, ∃ ra, h (enc x) r2 = some ra ∧ wipeE ra vs = r2 ∧ ∃ rc, elt ra = .ok (q x) rc ∧ wipeE rc vs = r2) :
    lcD it vs h yesT elt r = .ok (.ow (xs.map q)) r2 := by
  have := lcD_map (t := yesT) (h := h) (elt := elt) r2 xs enc (fun _ => true) q hi hl hw hw2 fun x hx => by
    obtain ⟨ra, e1, e2, rc, e3, e4⟩ := he x hx
    exact ⟨ra, ra, e1, rfl, e2, fun _ => ⟨rc, e3, e4⟩⟩
  rw [List.filter_eq_self.mpr (fun _ _ => rfl)] at this
  exact this
/-- a comprehension whose turns keep an invariant: what it gives, one by one -/
theorem lcD_inv {it : En → Rs (List D)} {vs : List Nat} {h : D → En → Option En} {elt : En → Rs D} {r r1 : En} {ds : List D} (I : En → Prop) (P : D → Prop)
    (hi : it r = .ok ds r1) (hl : ds.length ≤ 1000000) (h0 : I (wipeE r1 vs)) (hI : ∀ r, I r → wipeE r vs = r)
    (he : ∀ d ∈ ds, ∀ r, I r → ∃ ra y rc, h d r = some ra ∧ elt ra = .ok y rc ∧ P y ∧ I (wipeE rc vs)) :
    ∃ ys r', lcD it vs h yesT elt r = .ok (.ow ys) r' ∧ ys.length = ds.length ∧ (∀ y ∈ ys, P y) ∧ I r' := by
  obtain ⟨ys, r', e1, e2, e3, e4⟩ := lcS_inv (vs := vs) (h := h) (t := yesT) (elt := elt) (fun r => I (wipeE r vs)) P ds (fun d hd r hr => by
    obtain ⟨ra, y, rc, a1, a2, a3, a4⟩ := he d hd _ hr
    exact ⟨ra, ra, y, rc, a1, rfl, a2, a3, by rw [hI _ a4]; exact a4⟩) r1 h0
  refine ⟨ys, wipeE r' vs, ?_, e2, e3, e4⟩
  unfold lcD
  rw [hi]
  simp only [Rs.bind, Rs.noE, hl, if_true, e1]
theorem forS_list {α : Type} {h : D → En → Option En} {body : En → SRs} (xs : List α) (enc : α → D) (I : Nat → En → Prop) (st : ∀ (i : Nat) (x : α), xs[i]? = some x → ∀ r, I i r → ∃ r1 r2, h (enc x) r = some r1 ∧ body r1 = .nx r2 ∧ I (i + 1) r2) (r : En) (h0 : I 0 r) : ∃ r', forS h body (xs.map enc) r = .nx r' ∧ I xs.length r' := by
  obtain ⟨r', e, hI⟩ := forS_inv (h := h) (body := body) (xs.map enc) I (fun i d hd r hr => by
    rw [List.getElem?_map] at hd
    obtain ⟨x, hx, rfl⟩ := Option.map_eq_some_iff.mp hd
    exact st i x hx r hr) r h0
  rw [List.length_map] at hI
  exact ⟨r', e, hI⟩
/-- a for that ends with a return at the first that is found, or goes through -/
theorem forS_find {α γ : Type} {h : D → En → Option En} {body : En → SRs} (xs : List α) (enc : α → D) (env : γ → En) (p : α → Bool) (o : α → OV)
    (hs : ∀ g x, x ∈ xs → ∃ r1 g', h (enc x) (env g) = some r1 ∧ body r1 = if p x then .rt (o x) (env g') else .nx (env g')) : ∀ g, ∃ g', forS h body (xs.map enc) (env g) = match xs.find? p with
      | some x => .rt (o x) (env g')
      | none => .nx (env g') := by
  induction xs with
  | nil => exact fun g => ⟨g, rfl⟩
  | cons x xs ih =>
    intro g
    obtain ⟨r1, g1, e1, e2⟩ := hs g x (List.mem_cons_self ..)
    obtain ⟨g2, e3⟩ := ih (fun g y hy => hs g y (List.mem_cons_of_mem _ hy)) g1
    rw [List.map_cons]
    unfold forS
    rw [e1, List.find?_cons]
    cases hp : p x with
    | true => rw [hp] at e2; exact ⟨g1, by simp only [e2, if_true]⟩
    | false => rw [hp] at e2; exact ⟨g2, by simp only [e2, Bool.false_eq_true, if_false, e3]⟩
theorem items_lst (ds : List D) : (D.lst ds).items = some ds := rfl
theorem items_tup (ds : List D) : (D.tup ds).items = some ds := rfl
theorem strsOf_map : ∀ xs : List Str, strsOf (xs.map D.str) = some xs
  | [] => rfl
  | x :: xs => by
    show (strsOf (xs.map D.str)).map _ = _
    rw [strsOf_map xs]; rfl
theorem cutL_map {α β : Type} (f : α → β) (xs : List α) (lo hi : Option Int) : cutL (xs.map f) lo hi = (cutL xs lo hi).map f := by
  unfold cutL
  rw [List.length_map, List.map_take, List.map_drop]
theorem cutL_len {α : Type} (xs : List α) (lo hi : Option Int) : (cutL xs lo hi).length ≤ xs.length := by
  unfold cutL
  rw [List.length_take, List.length_drop]
  omega
theorem cutL_mem {α : Type} {xs : List α} {lo hi : Option Int} {x : α} (h : x ∈ cutL xs lo hi) : x ∈ xs := List.mem_of_mem_drop (List.mem_of_mem_take h)
theorem bools_map {α : Type} (xs : List α) (p : α → Bool) : bools (xs.map fun x => D.bl (p x)) = some (xs.map p) := by
  induction xs with
  | nil => rfl
  | cons x xs ih =>
    rw [List.map_cons]
    show (bools _).map _ = _
    rw [ih]; rfl
theorem atI0 {α : Type} (x : α) (xs : List α) : atI (x :: xs) 0 = some x := atI_nat (j := 0) rfl
theorem atI1 {α : Type} (x y : α) (xs : List α) : atI (x :: y :: xs) 1 = some y := atI_nat (j := 1) rfl
theorem atI2 {α : Type} (x y z : α) (xs : List α) : atI (x :: y :: z :: xs) 2 = some z := atI_nat (j := 2) rfl
theorem atI3 {α : Type} (x y z u : α) (xs : List α) : atI (x :: y :: z :: u :: xs) 3 = some u := atI_nat (j := 3) rfl
theorem atI4 {α : Type} (x y z u w : α) (xs : List α) : atI (x :: y :: z :: u :: w :: xs) 4 = some w := atI_nat (j := 4) rfl
/-! ### results by what holds of them -/
def OkS (P : En → Prop) : SRs → Prop
  | .nx r => P r
  | _ => False
theorem OkS_nx {P : En → Prop} {r : En} : OkS P (.nx r) = P r := rfl
theorem OkS.ex {P : En → Prop} {x : SRs} (h : OkS P x) : ∃ r, x = .nx r ∧ P r := by
  cases x with
  | nx r => exact ⟨r, rfl, h⟩
  | _ => exact h.elim
theorem OkS.imp {P Q : En → Prop} {x : SRs} (h : OkS P x) (i : ∀ r, P r → Q r) : OkS Q x := by
  cases x with
  | nx r => exact i r h
  | _ => exact h.elim
theorem OkS_seq {P Q : En → Prop} {f h : En → SRs} {r : En} (h1 : OkS Q (f r)) (h2 : ∀ r', Q r' → OkS P (h r')) : OkS P (seqS f h r) := by
  obtain ⟨r', e, q⟩ := h1.ex
  rw [seqS_nx e]
  exact h2 r' q
theorem forS_ok {h : D → En → Option En} {body : En → SRs} (ds : List D) (I : Nat → En → Prop) (st : ∀ (i : Nat) (d : D), ds[i]? = some d → ∀ r, I i r → ∃ r1, h d r = some r1 ∧ OkS (I (i + 1)) (body r1)) (r : En) (h0 : I 0 r) : OkS (I ds.length) (forS h body ds r) := by
  obtain ⟨r', e, hI⟩ := forS_inv (h := h) (body := body) ds I (fun i d hd r hr => by
    obtain ⟨r1, e1, e2⟩ := st i d hd r hr
    obtain ⟨r2, e3, h3⟩ := e2.ex
    exact ⟨r1, r2, e1, e3, h3⟩) r h0
  rw [e]
  exact hI
theorem forD_ok {f : En → Rs (List D)} {h : D → En → Option En} {body : En → SRs} {r r1 : En} (ds : List D) (I : Nat → En → Prop) (hi : f r = .ok ds r1) (h0 : I 0 r1) (st : ∀ (i : Nat) (d : D), ds[i]? = some d → ∀ r, I i r → ∃ r1, h d r = some r1 ∧ OkS (I (i + 1)) (body r1)) : OkS (I ds.length) (forD f h body r) := by
  rw [forD_of hi rfl]
  exact forS_ok ds I st r1 h0
/-- a result, no error -/
def pok {α : Type} (P : α → En → Prop) : Rs α → Prop
  | .ok a r => P a r
  | _ => False
theorem post_ex {α : Type} {P : α → En → Prop} {x : Rs α} (h : pok P x) : ∃ a r, x = .ok a r ∧ P a r := by
  cases x with
  | ok a r => exact ⟨a, r, rfl, h⟩
  | bad => exact h.elim
  | ex _ _ => exact h.elim
theorem post_ok {α : Type} {P : α → En → Prop} {a : α} {r : En} : pok P (.ok a r) = P a r := rfl
theorem lcD_mp {α : Type} {it : En → Rs (List D)} {vs : List Nat} {h : D → En → Option En} {t : En → Rs Bool} {elt : En → Rs D} {r r1 : En} (r2 : En) (xs : List α) (enc : α → D) (p : α → Bool) (q : α → D)
    (hi : it r = .ok (xs.map enc) r1) (hl : xs.length ≤ 1000000) (hw : wipeE r1 vs = r2) (hw2 : wipeE r2 vs = r2)
    (he : ∀ x ∈ xs, ∃ ra, h (enc x) r2 = some ra ∧ pok (fun b rb => b = p x ∧ wipeE rb vs = r2 ∧ (p x = true → pok (fun y rc => y = q x ∧ wipeE rc vs = r2) (elt rb))) (t ra)) :
    lcD it vs h t elt r = .ok (.ow ((xs.filter p).map q)) r2 :=
  lcD_map r2 xs enc p q hi hl hw hw2 fun x hx => by
    obtain ⟨ra, e1, e2⟩ := he x hx
    obtain ⟨b, rb, e3, rfl, e4, e5⟩ := post_ex e2
    refine ⟨ra, rb, e1, e3, e4, fun hp => ?_⟩
    obtain ⟨y, rc, e6, rfl, e7⟩ := post_ex (e5 hp)
    exact ⟨rc, e6, e7⟩
theorem lcD_mp1 {α : Type} {it : En → Rs (List D)} {vs : List Nat} {h : D → En → Option En} {elt : En → Rs D} {r r1 : En} (r2 : En) (xs : List α) (enc : α → D) (q : α → D)
    (hi : it r = .ok (xs.map enc) r1) (hl : xs.length ≤ 1000000) (hw : wipeE r1 vs = r2) (hw2 : wipeE r2 vs = r2)
    (he : ∀ x ∈ xs, ∃ ra, h (enc x) r2 = some ra ∧ wipeE ra vs = r2 ∧ pok (fun y rc => y = q x ∧ wipeE rc vs = r2) (elt ra)) :
    lcD it vs h yesT elt r = .ok (.ow (xs.map q)) r2 :=
  lcD_map1 r2 xs enc q hi hl hw hw2 fun x hx => by
    obtain ⟨ra, e1, e2, e3⟩ := he x hx
    obtain ⟨y, rc, e6, rfl, e7⟩ := post_ex e3
    exact ⟨ra, e1, e2, rc, e6, e7⟩
end DL

/-! Data layer, part 18: methods of lists by data. -/
namespace DL
open PySem L2
section
variable {X : Cx} {g : G} {o e : Expr} {es : List Expr} {name : Str} {apos cpos : Pos} {id : String} {p : Opd} {ps : List Opd}
/-- o.m(e, ..), o a list -/
def mLD (p : Opd) (qs : List Opd) (sem : D → List D → Option D) : En → Rs D := fun r => (p.run r).bind fun x r1 => match look r1 x with
  | some (.lst _) => (runs qs r1).bind fun zs r2 => ofO ((look r2 x).bind fun d => (looks r2 zs).bind fun ds => sem d ds) r2
  | _ => .bad
end
end DL

/-! Data layer, part 19: sorting of tuples that are alike as far as their comparing looks. -/
namespace DL
open PySem PySem.W PySem.SeqAt PyProof.Rows
/-- alike up to the first place at which they differ, and there -/
def lzAll : List PyData → List PyData → Bool
  | x :: xs, y :: ys => alike x y && (!PyData.eqv x y || lzAll xs ys)
  | [], _ => true
  | _ :: _, [] => true
/-- two tuples that are not empty, their first members alike -/
def lzP : PyData → PyData → Bool
  | .tuple (x :: xs), .tuple (y :: ys) => lzAll (x :: xs) (y :: ys)
  | _, _ => false
theorem lz_cons {x y : PyData} {xs ys : List PyData} (h : lzAll (x :: xs) (y :: ys) = true) : alike x y = true ∧ (PyData.eqv x y = true → lzAll xs ys = true) := by
  have z : (alike x y && (!PyData.eqv x y || lzAll xs ys)) = true := h
  obtain ⟨z1, z2⟩ := Bool.and_eq_true_iff.mp z
  exact ⟨z1, fun e => by rw [e] at z2; exact z2⟩
theorem lzP_of {d d' : PyData} (h : lzP d d' = true) : ∃ x xs y ys, d = .tuple (x :: xs) ∧ d' = .tuple (y :: ys) ∧ lzAll (x :: xs) (y :: ys) = true := by
  unfold lzP at h
  split at h
  · exact ⟨_, _, _, _, rfl, rfl, h⟩
  · cases h
theorem lzAll_unique {h : Heap} : ∀ (xs ys : List PyData) (vs : List Value) (as as' : List Addr), lzAll xs ys = true → ReadsAll h vs xs as → ReadsAll h vs ys as' → xs = ys
  | [], _, _, _, _, _, r, r' => by cases r; cases r'; rfl
  | x :: xs, [], _, _, _, _, r, r' => by cases r'; cases r
  | x :: xs, y :: ys, _, _, _, ha, r, r' => by
    obtain ⟨z1, z2⟩ := lz_cons ha
    cases r with
    | cons r1 r2 =>
      cases r' with
      | cons q1 q2 =>
        have e := alike_unique x y _ _ _ z1 r1 q1
        subst e
        rw [lzAll_unique xs ys _ _ _ (z2 (eqv_refl_alike x z1)) r2 q2]
theorem lzP_unique {h : Heap} {d d' : PyData} {v : Value} {as as' : List Addr} (z : lzP d d' = true) (r : Reads h v d as) (r' : Reads h v d' as') : d = d' := by
  obtain ⟨x, xs, y, ys, rfl, rfl, z⟩ := lzP_of z
  cases r with
  | tuple a1 a2 a3 a4 =>
    cases r' with
    | tuple b1 b2 b3 b4 =>
      rw [a1] at b1; cases b1
      rw [a3] at b3; cases b3
      rw [lzAll_unique _ _ _ _ _ z a4 b4]
theorem pairs_pw {ds : List PyData} (hal : ∀ d, d ∈ ds → ∀ d', d' ∈ ds → lzP d d' = true) {h : Heap} {v : Value} {d : PyData} {as : List Addr} (hd : d ∈ ds) (r : Reads h v d as) : (dataKind h ds).keyOf v = some (keyToks d) := by
  have q : ∃ d, d ∈ ds ∧ ∃ as, Reads h v d as := ⟨d, hd, as, r⟩
  have e : (dataKind h ds).keyOf v = some (keyToks q.choose) := by
    show (open Classical in if q : ∃ d, d ∈ ds ∧ ∃ as, Reads h v d as then some (keyToks q.choose) else none) = _
    rw [dif_pos q]
  obtain ⟨m1, as', m2⟩ := q.choose_spec
  rw [e, lzP_unique (hal _ m1 _ hd) m2 r]
section
variable {prog : Program} {w : World} {A : Around} {s : Shared}
theorem katLex_lz {b fin : Bool} {Q : Bool → Shared → Prop} : ∀ (xs ys : List PyData) (i : Nat) (vs ws : List Value) (as bs : List Addr), ReadsAll s.heap vs xs as → ReadsAll s.heap ws ys bs → lzAll xs ys = true →
    A.units + min (PyData.depthAll xs) (PyData.depthAll ys) < cLine → (b = true → i = 0 → ∀ x r t, xs = x :: r → x ≠ .tuple t) → fin = decide (xs.length < ys.length) → Q (PyProof.Rows.lexLt itemOrd (keyToksAll xs) (keyToksAll ys)) s → KatLex prog w A b fin Q (vs.zip ws) i s
  | [], ys, i, vs, ws, as, bs, ra, rb, _, hu, hb, hf, hq => by
    refine katLex_alike [] ys i vs ws as bs ra rb (by cases ys <;> rfl) hu hb hf hq
  | x :: xs, [], i, vs, ws, as, bs, ra, rb, _, hu, hb, hf, hq => katLex_alike (x :: xs) [] i vs ws as bs ra rb rfl hu hb hf hq
  | x :: xs, y :: ys, i, _, _, _, _, ra, rb, h, hu, hb, hf, hq => by
    obtain ⟨z1, z2⟩ := lz_cons h
    have hf' : fin = decide (xs.length < ys.length) := by
      rw [hf, List.length_cons, List.length_cons]
      exact decide_eq_decide.mpr Nat.succ_lt_succ_iff
    cases ra with
    | cons r rs =>
      cases rb with
      | cons r' rs' =>
        rw [List.zip_cons_cons]
        refine kat_cons (eqAt_alike x y A s _ _ _ _ r r' z1 (room_head hu) prog w _ _ ?_)
        cases hx : PyData.eqv x y with
        | true =>
          rw [dataLt_all_yes z1 hx] at hq
          exact kat_yes (katLex_lz xs ys (i + 1) _ _ _ _ rs rs' (z2 hx) (room_tail hu) (fun _ hi => absurd hi (Nat.succ_ne_zero i)) hf' hq)
        | false =>
          rw [dataLt_all_no z1 hx] at hq
          refine kat_no (oneLt_alike (fun hbi t => ?_) r r' z1 (ne_none_of z1 hx) (room_head hu) hq)
          obtain ⟨y1, y2⟩ := Bool.and_eq_true_iff.mp hbi
          exact hb y1 (by simpa using y2) x xs t rfl
theorem sorts_lz {vs : List Value} {ds : List PyData} (e : EachIs (fun v d => ∃ as, Reads s.heap v d as) vs ds) (hal : ∀ d, d ∈ ds → ∀ d', d' ∈ ds → lzP d d' = true) (hu : ∀ d, d ∈ ds → A.units + d.depth < cLine) : SortsAt prog w A s (dataKind s.heap ds) vs := by
  have room : ∀ {d d' : PyData}, d ∈ ds → A.units + min d.depth d'.depth < cLine := fun {d d'} hd => Nat.lt_of_le_of_lt (Nat.add_le_add_left (Nat.min_le_left _ _) _) (hu d hd)
  have ht : ∀ d, d ∈ ds → ∃ x r, d = .tuple (x :: r) := fun d hd => by
    obtain ⟨x, xs, _, _, z, _⟩ := lzP_of (hal d hd d hd)
    exact ⟨x, xs, z⟩
  refine ⟨fun v hv => ?_, ?_⟩
  · obtain ⟨d, hd, as, r⟩ := e.left v hv
    exact ⟨_, pairs_pw hal hd r⟩
  · cases ds with
    | nil =>
      cases e
      exact ⟨general', fun E x y a b Q ha _ _ => (by
        obtain ⟨d, _, hd, _⟩ := dataKind_inv ha
        exact absurd hd (by simp)), fun h2 => absurd h2 (by simp)⟩
    | cons d₀ ds₀ =>
      obtain ⟨x₀, r₀, e₀⟩ := ht d₀ (List.mem_cons_self ..)
      have first : ∀ x r, PyData.tuple (x :: r) ∈ d₀ :: ds₀ → alike x x₀ = true := fun x r hm => by
        have q := hal _ hm d₀ (List.mem_cons_self ..)
        rw [e₀] at q
        exact (lz_cons (show lzAll (x :: r) (x₀ :: r₀) = true from q)).1
      refine ⟨tuples' (dataType x₀ != Value.type "tuple"), ?_, fun h2 E Q hq => ?_⟩
      · intro E x y a b Q ha hb hq
        obtain ⟨d, as, hd, ra, rfl⟩ := dataKind_inv ha
        obtain ⟨d', as', hd', rb, rfl⟩ := dataKind_inv hb
        have hdd := hal d hd d' hd'
        have rm := room (d' := d') hd
        obtain ⟨x1, r1, rfl⟩ := ht d hd
        obtain ⟨x2, r2, rfl⟩ := ht d' hd'
        have hq' : Q (dataLt (.tuple (x1 :: r1)) (.tuple (x2 :: r2))) s := hq
        rw [dataLt_tuple] at hq'
        cases ra with
        | @tuple l o xs n _ _ a1 a2 a3 a4 =>
          cases rb with
          | @tuple l' o' xs' n' _ _ b1 b2 b3 b4 =>
            have n1 : xs.size = (x1 :: r1).length := by simpa using SeqAt.ReadsAll.length _ _ _ a4
            have n2 : xs'.size = (x2 :: r2).length := by simpa using SeqAt.ReadsAll.length _ _ _ b4
            refine kat_lt a1 a3 b1 b3 (katLex_lz (x1 :: r1) (x2 :: r2) 0 _ _ _ _ a4 b4 hdd (by have q := SeqAt.room_in rm; omega) (fun hb _ x r t ex => ?_) (by rw [n1, n2]) hq')
            obtain ⟨rfl, rfl⟩ := List.cons.inj ex
            have q := dataType_alike (first _ _ hd)
            rw [← q] at hb
            exact dataType_tuple hb t
      · obtain ⟨fs, t1, t2, t3⟩ := each_katTups e ht
        refine kat_kind (T := dataType x₀) t1 (by omega) (fun f hf => ?_) (beq_self_eq_true _) hq
        obtain ⟨x, r, as, m1, m2⟩ := t3 f hf
        rw [← dataType_alike (first x r m1)]
        exact looks_reads m2
end
/-- can be sorted: alike, or lazily so -/
def SrtOk (ds : List PyData) : Prop := (AllAlike ds ∧ Sortable ds) ∨ ∀ d, d ∈ ds → ∀ d', d' ∈ ds → lzP d d' = true
section
variable {prog : Program} {w : World} {A : Around} {E : Value → Shared → Prop} {s : Shared} {β : Type} {vs : List Value} {bs : List β} {enc : β → PyData} {R : Value → β → Prop}
theorem SrtOk.sorts {ds : List PyData} (k : SrtOk ds) (e : EachIs (fun v d => ∃ as, Reads s.heap v d as) vs ds) (hu : ∀ d, d ∈ ds → A.units + d.depth < cLine) : SortsAt prog w A s (dataKind s.heap ds) vs := by
  rcases k with ⟨k1, k2⟩ | k
  · exact SortsAt.data e k1 k2 hu
  · exact sorts_lz e k hu
theorem SrtOk.key {ds : List PyData} (k : SrtOk ds) {h : Heap} {v : Value} {d : PyData} {as : List Addr} (hd : d ∈ ds) (r : Reads h v d as) : (dataKind h ds).keyOf v = some (keyToks d) := by
  rcases k with ⟨k1, _⟩ | k
  · exact dataKind_some k1 hd r
  · exact pairs_pw k hd r
theorem SrtOk.keys {h : Heap} {ds : List PyData} (k : SrtOk ds) {vs : List Value} (e : EachIs (fun v d => ∃ as, Reads h v d as) vs ds) : EachIs (fun v d => (dataKind h ds).keyOf v = some (keyToks d)) vs ds :=
  (each_mem e).mono fun v d ⟨⟨as, r⟩, hd⟩ => k.key hd r
theorem SrtOk.vals {h' : Heap} (rev : Bool) (e : EachIs R vs bs) (er : EachIs (fun v b => ∃ as, Reads h' v (enc b) as) vs bs) (k : SrtOk (bs.map enc)) :
    EachIs R (sortVals (dataKind h' (bs.map enc)) rev vs vs) (bs.mergeSort (dataLe rev enc)) :=
  sortVals_each (κ := dataKind h' (bs.map enc)) (fun b => keyToks (enc b)) e (each_of_map enc (k.keys (each_map (R := fun v d => ∃ as, Reads h' v d as) enc er)))
/-- xs.sort() of a new list at a: no item reads off it, as it is new -/
theorem list_sort_ok {a : Addr} {n : Nat} {Q : Value → Shared → Prop} (ho : s.heap.get? a = some (seqObj "list" vs.toArray n)) (e : EachIs R vs bs) (er : EachIs (fun v b => ∃ as, Reads (sortingHeap s.heap a vs) v (enc b) as) vs bs) (k : SrtOk (bs.map enc)) (hL : bs.length ≤ sizeLine)
    (hu : ∀ b, b ∈ bs → A.units + 1 + (enc b).depth < cLine) (h : ∀ out, out.length = bs.length → EachIs R out (bs.mergeSort (dataLe false enc)) → Q .none { s with heap := sortedHeap s.heap a vs (List.toArray out) }) :
    wpAny (model prog w) A (call (.builtin "list.sort") [.ref a]) Q E s := by
  refine wpAny_call_entry slot_list_sort ⟨_, ho, rfl⟩ entry_list_sort (list_sort_vals (κ := dataKind (sortingHeap s.heap a vs) (bs.map enc)) ho (k.sorts (s := { s with heap := sortingHeap s.heap a vs }) (each_map (R := fun v d => ∃ as, Reads (sortingHeap s.heap a vs) v d as) enc er) (bound_map hu)) (by rw [e.length]; exact hL) ⟨.none, rfl, ?_⟩) (args_list_sort _)
  exact h _ (by rw [sortVals_length false rfl]; exact e.length) (k.vals false e er)
end
end DL

/-! Data layer, part 20: new lists that the taker owns: xs + ys, xs * k, xs[i:j], list(x), list(range(..)). -/
namespace DL
open PySem L2
section
variable {X : Cx} {g : G} {a b c e : Expr} {es : List Expr} {pos p2 : Pos} {p q : Opd} {ps : List Opd}
theorem PO.new {K : PySem.W.Frag} {F H : Hp} {s : St} {r : En} {Q : VK} {ds : List D} {vs : List V} (R : Rel K g F H s r) (hvs : RDs K F vs ds) (q : PO K g F s Q (.ow ds) r) (p : Addr) (np : H p = none) : Q (.ref p) (L2.upd H p (.lst vs)) :=
  q F _ _ (Same.refl _) (R.laid np) (RV.new R np hvs)
def op2O (p q : Opd) (sem : D → D → Option (List D)) : En → Rs OV := fun r => (p.run r).bind fun x r1 => (q.run r1).bind fun y r2 => ofO ((look r2 x).bind fun dx => (look r2 y).bind fun dy => (sem dx dy).map OV.ow) r2
def semAddL : D → D → Option (List D)
  | .lst xs, .lst ys => if xs.length + ys.length ≤ 1000000 then some (xs ++ ys) else none
  | _, _ => none
def semMulL : D → D → Option (List D)
  | .lst xs, .int k => if 0 ≤ k ∧ k ≤ 1000 ∧ xs.length ≤ 1000 then some (List.replicate k.toNat xs).flatten else none
  | _, _ => none
/-- xs[i:j], a new list -/
def slO (p : Opd) (lo hi : En → Rs (Option Int)) : En → Rs OV := fun r => (p.run r).bind fun x r1 => (lo r1).bind fun l r2 => (hi r2).bind fun h r3 => ofO ((look r3 x).bind fun d => match d with
  | .lst xs => some (.ow (cutL xs l h))
  | _ => none) r3
/-- built-ins that give a new list -/
def opNO (ps : List Opd) (sem : List D → Option (List D)) : En → Rs OV := fun r => (runs ps r).bind fun xs r1 => ofO ((looks r1 xs).bind fun ds => (sem ds).map OV.ow) r1
def rON (K : PySem.W.Frag) (g : G) (sem : List D → Option (List D)) : List V → Hp → VK → Prop := fun xs H Q => ∃ F s r ds ys, Rel K g F H s r ∧ RBs K F H xs ds ∧ sem ds = some ys ∧ PO K g F s Q (.ow ys) r
theorem tO_opN {K : PySem.W.Frag} {ps : List Opd} {sem : List D → Option (List D)} {s : St} {H : Hp} {Q : VK} (h : tO K g (opNO ps sem) s H Q) : tBs K g ps s H fun xs H1 => rON K g sem xs H1 Q := by
  obtain ⟨F, r, R, h⟩ := h
  refine ⟨F, r, R, post_mono (post_bind h) fun zs r1 q F1 H1 vs sm R1 hv => ?_⟩
  obtain ⟨d, e, q⟩ := post_ofO q
  obtain ⟨ds, e1, e2⟩ := Option.bind_eq_some_iff.mp e
  obtain ⟨ys, e3, rfl⟩ := Option.map_eq_some_iff.mp e2
  exact ⟨F1, s, r1, ds, ys, R1, looks_ok R1 hv e1, e3, fun F2 H2 v2 s2 R2 h2 => q F2 H2 v2 (sm.trans s2) R2 h2⟩
theorem do_callT {x : Str} {pn : Pos} {T : String} {ps : List Opd} {sem : List D → Option (List D)} (hc : CallR X (.type T) (rON X.K g sem)) (hm : X.mg x = none) (ha : DBs X g (e :: es) ps) (hg : Gl X x := by rfl) (hv : bootBuiltins x = some (.type T) := by decide +kernel)
    (hn : x ≠ "__name__" := by decide) (hdb : (x == ("__debug__" : Str)) = false := by decide) (he : starEach (e :: es) X.env = (false, eval e X.env) :: starEach es X.env := by rfl) (hpl : (backTo pos (starEach es X.env)).any (·.1) = false := by rfl) : DO X g (.Call (.Name x pn) (e :: es) [] pos) (opNO ps sem) :=
  PE.imp (pe_callTy hc hg hm hv ha hn hdb he hpl) fun s H Q h => tO_opN h
def semListL : List D → Option (List D)
  | [.lst xs] => some xs
  | [.tup xs] => some xs
  | _ => none
/-- list(range(..)) -/
def lrgO (f : En → Rs (List D)) : En → Rs OV := fun r => (f r).map OV.ow
end
end DL

/-! Data layer, part 21: f(e, ..) whose arguments are only lent: what comes back holds nothing of them. -/
namespace DL
open PySem L2
def D.flt : D → Bool
  | .non => true
  | .bl _ => true
  | .int _ => true
  | .str _ => true
  | _ => false
def OV.flt : OV → Bool
  | .sh d => d.flt
  | .ow xs => xs.all D.flt
  | .od _ => false
  | .oi _ _ => false
  | .th _ => false
  | .exc _ => false
theorem RD.flt {K : PySem.W.Frag} {F F' : Hp} {v : V} {d : D} (h : RD K F v d) (hd : d.flt = true) : RD K F' v d := by
  cases d with
  | non => cases h; exact .non
  | bl b => cases h; exact .bl b
  | int i => cases h; exact .int i
  | str x => cases h; exact .str x
  | _ => cases hd
theorem RDs.flt {K : PySem.W.Frag} {F F' : Hp} : ∀ {vs : List V} {ds : List D}, RDs K F vs ds → ds.all D.flt = true → RDs K F' vs ds
  | _, [], h, _ => by cases h; exact .nil
  | _, d :: ds, h, hd => by
    rw [List.all_cons, Bool.and_eq_true] at hd
    cases h with
    | cons h1 h2 => exact .cons (h1.flt hd.1) (RDs.flt h2 hd.2)
def callL (n : Nat) (f : List D → Option OV) (ps : List Opd) : En → Rs OV := fun r => (runs ps r).bind fun xs r1 => ofO ((looks r1 xs).bind fun ds => if ds.length = n then (f ds).bind fun o => if o.flt = true then some o else none else none) r1
section
variable {X : Cx} {g : G} {k n : Nat} {x : Str} {p pos : Pos} {e : Expr} {es : List Expr}
end
end DL

/-! Data layer, part 22: pop, insert, clear as statements; {}; xs[::-1]; defs that call themselves. -/
namespace DL
open PySem L2
section
variable {P : Program} {w : World} {K : PySem.W.Frag} {mg : Str → Option Value} {base : Heap}
end
section
variable {X : Cx} {g : G} {x : Str} {p pos apos cpos : Pos} {e e2 : Expr}
/-- {} -/
theorem de_dict0 : DE X g (.Dict [] [] pos) (cD (.dic [])) :=
  PE.imp (pe_lk pe_dnewK) fun s H Q ⟨F, r, R, q⟩ => fun p np => ⟨p, _, upd_same, trivial, fun od => by
    rw [upd_upd]
    exact q (L2.upd F p (.frz od (.dK []))) (L2.upd H p (.frz od (.dK []))) (.ref p) (same_upd (R.ff np)) (R.alloc np) (.dic upd_same .nil)⟩
/-- xs.pop(i), the value dropped -/
def popF (k : D) : List D → Option (List D) := fun xs => match k with
  | .int i => if 0 ≤ i ∧ i < 1000000 then (ixN xs.length i).map fun j => xs.eraseIdx j else none
  | _ => none
def popS (i : Nat) (f : En → Rs D) : En → SRs := fun r => thenS (fillW r i) fun _ r => thenS (f r) fun d r1 => chgS i (popF d) r1
theorem RDs.erase {K : PySem.W.Frag} {F : Hp} : ∀ {vs : List V} {ds : List D} (n : Nat), RDs K F vs ds → RDs K F (vs.eraseIdx n) (ds.eraseIdx n)
  | _, [], n, h => by cases h; simp; exact .nil
  | _, d :: ds, 0, h => by
    cases h with
    | cons h1 h2 => exact h2
  | _, d :: ds, n + 1, h => by
    cases h with
    | cons h1 h2 => exact .cons h1 (RDs.erase n h2)
/-- xs.insert(i, e) -/
def insF (k d : D) : List D → Option (List D) := fun xs => match k with
  | .int i => if 0 ≤ i ∧ i < 1000000 ∧ xs.length ≤ 1000000 then some (xs.take i.toNat ++ [d] ++ xs.drop i.toNat) else none
  | _ => none
def insS (i : Nat) (f h : En → Rs D) : En → SRs := fun r => thenS (fillW r i) fun _ r => thenS (f r) fun k r1 => thenS (h r1) fun d r2 => chgS i (insF k d) r2
/-- xs.clear() -/
def clrS (i : Nat) : En → SRs := fun r => thenS (fillW r i) fun _ r => chgS i (fun _ => some []) r
end
end DL

/-! Data layer, part 23: t[::-1] of a tuple. -/
namespace DL
open PySem L2 HT PyProof.Rows
section
variable {prog : Program} {w : World} {A : Around} {E : Value → Shared → Prop} {s : Shared}
theorem sliceApplied_rev {sl : Addr} {vl vu vs : Value} {n : Nat} {Q : Int × Int × Nat → Shared → Prop} (hs : s.heap.IsSliceOf sl vl vu vs) (pl : IsPart vl none) (pu : IsPart vu none) (ps : IsPart vs (some (-1)))
    (h : Q ((n : Int) - 1, -1, n) s) : wpAny (model prog w) A (Builtin.Slice.sliceApplied (.ref sl) (pure (n : Int))) Q E s := by
  obtain ⟨os, hos, hcs, hds⟩ := id hs
  unfold Builtin.Slice.sliceApplied Builtin.Slice.sliceFields
  refine wpAny_bind (wpAny_bind (wpAny_field hos hds (x := vl) rfl (wpAny_bind (wpAny_field hos hds (x := vu) rfl (wpAny_bind (wpAny_field hos hds (x := vs) rfl (wpAny_pure ?_)))))))
  refine wpAny_bind (slicePart_ ps ?_)
  show wpAny _ _ (if ((-1 : Int) == 0) = true then _ else _) _ _ s
  rw [if_neg (by decide)]
  refine wpAny_bind (slicePart_ pl (wpAny_bind (slicePart_ pu (wpAny_bind (wpAny_pure ?_)))))
  show wpAny _ _ (pure ((n : Int) - 1, (-1 : Int), Builtin.Slice.slicePlaces ((n : Int) - 1) (-1) (-1))) _ _ s
  have e : Builtin.Slice.slicePlaces ((n : Int) - 1) (-1) (-1) = n := by
    unfold Builtin.Slice.slicePlaces
    rw [if_neg (by decide)]
    split
    · rw [show (-(-1 : Int)) = 1 by decide, Int.ediv_one]; omega
    · omega
  rw [e]
  exact wpAny_pure h
theorem fm_congr {α β : Type} {f h : α → Option β} : ∀ {l : List α}, (∀ a ∈ l, f a = h a) → l.filterMap f = l.filterMap h
  | [], _ => rfl
  | a :: l, e => by
    rw [List.filterMap_cons, List.filterMap_cons, e a (List.mem_cons_self ..), fm_congr (l := l) fun b hb => e b (List.mem_cons_of_mem _ hb)]
theorem pick_rev (xs : Array Value) : ((List.range xs.size).filterMap fun (m : Nat) => xs[(((xs.size : Int) - 1) + (m : Int) * (-1)).toNat]?).toArray = xs.toList.reverse.toArray := by
  congr 1
  have e : ∀ m ∈ List.range xs.size, xs[(((xs.size : Int) - 1) + (m : Int) * (-1)).toNat]? = xs.toList.reverse[m]? := fun m hm => by
    have hm := List.mem_range.mp hm
    rw [List.getElem?_reverse (by simpa using hm)]
    have : (((xs.size : Int) - 1) + (m : Int) * (-1)).toNat = xs.toList.length - 1 - m := by simp; omega
    rw [this]
    simp
  rw [fm_congr e]
  have key : ∀ l : List Value, (List.range l.length).filterMap (fun m => l[m]?) = l := fun l => by
    induction l with
    | nil => rfl
    | cons a l ih =>
      rw [List.length_cons, List.range_succ_eq_map, List.filterMap_cons]
      simp only [List.getElem?_cons_zero, List.filterMap_map]
      congr 1
  have := key xs.toList.reverse
  rw [List.length_reverse, Array.length_toList] at this
  exact this
theorem getItem_tuple_rev {t sl : Addr} {items : Array Value} {vl vu vs : Value} {Q : Value → Shared → Prop} (ht : IsTup s.heap t items) (hs : s.heap.IsSliceOf sl vl vu vs) (pl : IsPart vl none) (pu : IsPart vu none) (ps : IsPart vs (some (-1)))
    (h : Q (.ref s.heap.objs.size) { s with heap := s.heap.push { cls := .type "tuple", data := .seq items.toList.reverse.toArray } })
    (hsz : items.size ≤ sizeLine) : wpAny (model prog w) A (getItem (.ref t) (.ref sl)) Q E s := by
  have htake : sizeOk (.seq items.toList.reverse.toArray) := by
    show items.toList.reverse.toArray.size ≤ sizeLine
    rw [List.size_toArray, List.length_reverse, Array.length_toList]
    exact hsz
  obtain ⟨os, hos, hcs, hds⟩ := id hs
  have hTs : s.TypeIs (.ref sl) "slice" := ⟨os, hos, hcs⟩
  unfold getItem
  try with_reducible refine wpAny_holding ?_
  first | refine wpAny_bind (wpAny_pure ?_) | skip
  refine wpAny_bind (wpAny_sequenceKey ht.typeIs (by decide) ?_)
  refine wpAny_bind (wpAny_callSpecial?_slot (name := Str.ofString "__getitem__") ht.typeIs PyProof.Rows.slot_tuple_getitem
    (wpAny_call_entry PyProof.Rows.slot_tuple_getitem ht.typeIs entry_tuple_getitem ?_ (args_tuple_getitem _ _)))
  show wpAny _ _ (Builtin.Tuple.tupleItemsOf (.ref t) >>= _) _ _ s
  refine wpAny_bind (tupleItemsOf_ ht ?_)
  refine wpAny_bind (wpAny_typeOf hTs ?_)
  rw [if_pos (by decide)]
  refine wpAny_bind (sliceApplied_rev hs pl pu ps ?_)
  have hno : ¬ ((((items.size : Int) - 1) == 0 && (-1 : Int) == 1 && items.size == items.size) = true) := by
    rw [show ((-1 : Int) == 1) = false by decide, Bool.and_false]
    simp
  show wpAny _ _ (if (((items.size : Int) - 1) == 0 && (-1 : Int) == 1 && items.size == items.size) = true then _ else _) _ _ s
  rw [if_neg hno, pick_rev]
  first
    | exact wpAny_bind (m := Builtin.Tuple.tupleExact _) (wpAny_newObj_type (wpAny_pure ⟨_, rfl, wpAny_pure h⟩) htake)
    | exact wpAny_bind (m := Builtin.Tuple.tupleExact _) (wpAny_newObj_type (wpAny_bind (wpAny_pure (wpAny_pure ⟨_, rfl, wpAny_pure h⟩))) htake)
    | exact wpAny_bind (wpAny_bind (m := Builtin.Tuple.tupleExact _) (wpAny_newObj_type (wpAny_pure (wpAny_pure ⟨_, rfl, wpAny_pure h⟩)) htake))
    | exact wpAny_bind (wpAny_bind (m := Builtin.Tuple.tupleExact _) (wpAny_newObj_type (wpAny_pure ⟨_, rfl, wpAny_pure h⟩) htake))
end
section
variable {X : Cx} {g : G} {e : Expr} {pos : Pos}
def tRevA (K : PySem.W.Frag) (te : TE) : TE := fun σ H Q => te σ H fun x H1 => (∃ a xs, x = .ref a ∧ SqL K H1 a xs ∧ ∀ p, H1 p = none → Q (.ref p) (L2.upd H1 p (.lst xs.reverse))) ∨ ∃ a xs, x = .ref a ∧ SqT K H1 a xs ∧ ∀ p, H1 p = none → Q (.ref p) (L2.upd H1 p (.tup xs.reverse))
theorem pe_revA {te : TE} {k : Nat} {p1 p2 p3 : Pos} (he : PE X e te) : PE X (.Subscript e (.Slice none none (some (.UnaryOp .USub (.Constant (.int 1) k p1) p2)) p3) pos) (tRevA X.K te) := by
  refine ⟨fun pins s σ H Q I h => ?_⟩
  refine Subscript_ (thn (he.run pins s σ H _ I h) fun v s1 ⟨x, H1, I1, r1, q1⟩ => ?_)
  have ⟨a, ea⟩ : ∃ a, x = .ref a := by
    rcases q1 with ⟨a, _, h, _⟩ | ⟨a, _, h, _⟩ <;> exact ⟨a, h⟩
  subst ea
  cases r1
  have hst : L2.PO X (some (.UnaryOp .USub (.Constant (.int 1) k p1) p2)) (tPart (tUn (rU fun i => .int (-i)) (tC (.int 1)))) := po_some (pe_un un_neg pe_int)
  refine wpAny_Slice (thn (po_none.run pins s1 σ H1 (fun o H2 => o = none ∧ H2 = H1) I1 ⟨rfl, rfl⟩) fun vl s2 ⟨l, H2, I2, pl, el, e2⟩ => ?_)
  subst el e2
  refine thn (po_none.run pins s2 σ H2 (fun o H3 => o = none ∧ H3 = H2) I2 ⟨rfl, rfl⟩) fun vu s3 ⟨u, H3, I3, pu, eu, e3⟩ => ?_
  subst eu e3
  refine thn (hst.run pins s3 σ H3 (fun o H4 => o = some (-1) ∧ H4 = H3) I3 ⟨1, rfl, -1, rfl, rfl, rfl⟩) fun vs s4 ⟨o, H4, I4, ps, eo, e4⟩ => ?_
  subst eo e4
  have I5 : Inv X pins σ H4 { s4 with heap := s4.heap.push { cls := .type "slice", data := .fields #[vl, vu, vs] } } := I4.kept (t' := s4.toks) fun b ob q => Heap.get?_push_of_some _ q
  show wpAny (model X.prog X.w) X.A (subscriptTail e (.Slice none none (some (.UnaryOp .USub (.Constant (.int 1) k p1) p2)) p3) (.ref a) (.ref s4.heap.objs.size)) (EP X pins σ Q) X.xe { s4 with heap := s4.heap.push { cls := .type "slice", data := .fields #[vl, vu, vs] } }
  rcases q1 with ⟨a', xs, ex, hx, q⟩ | ⟨a', xs, ex, hx, q⟩
  · cases ex
    obtain ⟨its, r, ht, hz⟩ := I5.list hx
    have hlen := r.length
    refine tail_any (ops := [.ref a, .ref s4.heap.objs.size]) ht.isList.typeIs (PySem.slot_list_getitem.lookup) ?_ (by with_unfolding_all rfl)
    refine wpAny_getItem_list_slice ht.isList (Heap.IsSliceOf.new _ vl vu vs) pl pu ps (by decide) ?_ (by rw [List.size_toArray]; omega)
    rw [PySem.W.krv_pick]
    refine ⟨.ref _, _, I5.laid (t' := s4.toks) (o := .lst xs.reverse) (fun b ob q => Heap.get?_push_of_some _ q) (Nat.le_refl _) ?_, rfl, q _ (I5.hok.fresh (Nat.le_refl _))⟩
    exact ⟨by rw [List.length_reverse]; exact hz, _, 0, r.reverse, Heap.get?_push_size _ rfl⟩
  · cases ex
    obtain ⟨its, r, ht, hz⟩ := I5.tuple hx
    have hlen := r.length
    refine tail_any (ops := [.ref a, .ref s4.heap.objs.size]) ht.typeIs (PyProof.Rows.slot_tuple_getitem.lookup) ?_ (by with_unfolding_all rfl)
    refine getItem_tuple_rev ht (Heap.IsSliceOf.new _ vl vu vs) pl pu ps ?_ (by rw [List.size_toArray]; omega)
    refine ⟨.ref _, _, I5.laid (t' := s4.toks) (o := .tup xs.reverse) (fun b ob q => Heap.get?_push_of_some _ q) (Nat.le_refl _) ?_, rfl, q _ (I5.hok.fresh (Nat.le_refl _))⟩
    exact ⟨by rw [List.length_reverse]; exact hz, _, r.reverse, IsTup.new _ _⟩
/-- xs[::-1] -/
def revO (pd : Opd) : En → Rs OV := fun r => (pd.run r).bind fun x r1 => ofO ((look r1 x).bind fun d => match d with
  | .lst xs => some (.ow xs.reverse)
  | .tup xs => some (.sh (.tup xs.reverse))
  | _ => none) r1
theorem RDs.rev {K : PySem.W.Frag} {F : Hp} : ∀ {vs : List V} {ds : List D}, RDs K F vs ds → RDs K F vs.reverse ds.reverse
  | _, [], h => by cases h; exact .nil
  | _, d :: ds, h => by
    cases h with
    | cons h1 h2 =>
      rw [List.reverse_cons, List.reverse_cons]
      exact h2.rev.app (.cons h1 .nil)
theorem do_revL {pd : Opd} {k : Nat} {p1 p2 p3 : Pos} (he : DB X g e pd) : DO X g (.Subscript e (.Slice none none (some (.UnaryOp .USub (.Constant (.int 1) k p1) p2)) p3) pos) (revO pd) :=
  PE.imp (pe_revA he) fun s H Q ⟨F, r, R, h⟩ => ⟨F, r, R, post_mono (post_bind h) fun z r1 q F1 H1 v sm R1 hv => by
    obtain ⟨o, e, q⟩ := post_ofO q
    obtain ⟨d, e1, e2⟩ := Option.bind_eq_some_iff.mp e
    cases d with
    | lst xs =>
      cases e2
      obtain ⟨a, vs, rfl, h1, h2⟩ := (look_ok R1 hv e1).lst R1.sub
      exact .inl ⟨a, vs, rfl, .of h1, fun p np => PO.new R1 h2.rev (fun F2 H2 v2 s2 R2 h3 => q F2 H2 v2 (sm.trans s2) R2 h3) p np⟩
    | tup xs =>
      cases e2
      obtain ⟨a, vs, rfl, h1, _, h2⟩ := (look_ok R1 hv e1).tup R1.sub
      exact .inr ⟨a, vs, rfl, h1, fun p np => PD.tup R1 h2.rev (fun F2 H2 v2 s2 R2 h3 => q F2 H2 v2 (sm.trans s2) R2 h3) p np⟩
    | _ => cases e2⟩
end
end DL

/-! Data layer, part 24: list comprehensions with two fors. -/
namespace DL
open PySem L2
def lc2S (vs : List Nat) (h : D → En → Option En) (t : En → Rs Bool) (f1 : En → Rs (List D)) (vs1 : List Nat) (h1 : D → En → Option En) (t1 : En → Rs Bool) (elt : En → Rs D) : List D → En → Rs (List D)
  | [], r => .ok [] r
  | d :: ds, r =>
    match h d (wipeE r vs) with
    | none => .bad
    | some r1 => (t r1).bind fun b r2 => if b = true then (f1 r2).bind fun ds1 r3 => (lcS vs1 h1 t1 elt ds1 r3).bind fun ys r4 => (lc2S vs h t f1 vs1 h1 t1 elt ds (wipeE r4 vs)).bind fun zs r5 => .ok (ys ++ zs) r5 else lc2S vs h t f1 vs1 h1 t1 elt ds (wipeE r2 vs)
def lc2D (f : En → Rs (List D)) (vs : List Nat) (h : D → En → Option En) (t : En → Rs Bool) (f1 : En → Rs (List D)) (vs1 : List Nat) (h1 : D → En → Option En) (t1 : En → Rs Bool) (elt : En → Rs D) : En → Rs OV := fun r => (f r).bind fun ds r1 => (lc2S vs h t f1 vs1 h1 t1 elt ds r1).noE.bind fun ys r2 => if ys.length ≤ 1000000 then .ok (.ow ys) (wipeE r2 vs) else .bad
/-- between two turns of the inner loop -/
def LcJ (K : PySem.W.Frag) (g : G) (F1 : Hp) (s : St) (A : Addr) (vs1 : List Nat) (h1 : D → En → Option En) (t1 : En → Rs Bool) (fe : En → Rs D) (C : List D → En → Prop) (ds : List D) (i : Nat) (H2 : Hp) : Prop :=
  ∃ F2 r2 acc vacc, Same F1 F2 ∧ Rel K g F2 H2 s r2 ∧ H2 A = some (.lst vacc) ∧ F2 A = none ∧ (∀ (j : Nat) (o : OV), r2[j]? = some (some o) → o.own = true → s[j]? ≠ some (some (.ref A))) ∧ RDs K F2 vacc acc ∧
    post K g.nw (fun ys r3 => C (acc ++ ys) r3) (lcS vs1 h1 t1 fe (ds.drop i) r2)
/-- between two turns of the outer loop -/
def LcK (K : PySem.W.Frag) (g : G) (F1 : Hp) (s : St) (Q : VK) (A : Addr) (vs : List Nat) (h : D → En → Option En) (t : En → Rs Bool) (f1 : En → Rs (List D)) (vs1 : List Nat) (h1 : D → En → Option En) (t1 : En → Rs Bool) (fe : En → Rs D) (ds : List D) (i : Nat) (H2 : Hp) : Prop :=
  ∃ F2 r2 acc vacc, Same F1 F2 ∧ Rel K g F2 H2 s r2 ∧ H2 A = some (.lst vacc) ∧ F2 A = none ∧ (∀ (j : Nat) (o : OV), r2[j]? = some (some o) → o.own = true → s[j]? ≠ some (some (.ref A))) ∧ RDs K F2 vacc acc ∧
    post K g.nw (fun ys r3 => (acc ++ ys).length ≤ 1000000 ∧ PO K g F1 s Q (.ow (acc ++ ys)) (wipeE r3 vs)) (lc2S vs h t f1 vs1 h1 t1 fe (ds.drop i) r2)
section
variable {X : Cx} {g : G} {e a b c tg tg1 : Expr} {pos : Pos}
theorem lc2_imp {K : PySem.W.Frag} {vs ks vs1 ks1 : List Nat} {f f1 : En → Rs (List D)} {h h1 : D → En → Option En} {t t1 : En → Rs Bool} {fe : En → Rs D} {s : St} {H : Hp} {Q : VK} (hb : ∀ p ∈ g.B, p.1 ∉ vs) (hks : ∀ i ∈ ks, i ∈ vs) (hks1 : ∀ i ∈ ks1, i ∈ vs1) (hv1 : ∀ i ∈ vs1, i ∈ vs) (h0 : tO K g (lc2D f vs h t f1 vs1 h1 t1 fe) s H Q) :
    tLc2 (tID K g f) (fun v s H Q => ∃ g' : G, Blk g g' ∧ tGD K g' ks h v s H Q) (fun s H Q => ∃ g' : G, Blk g g' ∧ tTD K g' t s H Q) (fun s H Q => ∃ g' : G, Blk g g' ∧ tID K g' f1 s H Q) (fun v s H Q => ∃ g' : G, Blk g g' ∧ tGD K g' ks1 h1 v s H Q) (fun s H Q => ∃ g' : G, Blk g g' ∧ tTD K g' t1 s H Q) (fun s H Q => ∃ g' : G, Blk g g' ∧ tD K g' fe s H Q) vs vs1 s H Q := by
  have hb1 : ∀ p ∈ g.B, p.1 ∉ vs1 := fun p hp z => hb p hp (hv1 _ z)
  obtain ⟨F, r, R, q⟩ := h0
  refine ⟨F, r, R, post_mono (post_bind q) fun ds r1 q F1 H1 J sm R1 wk => ?_⟩
  have q : post K g.nw _ _ := post_noE (post_bind q)
  intro A nA
  have hA0 : g.H0 A = none := R1.live nA
  have hAX : ∀ p ∈ g.X, p.1 ≠ A := fun p hp z => by have := (R1.ext p hp).1; rw [z, nA] at this; cases this
  refine ⟨fun i m H2 => m = ds.length - i ∧ i ≤ ds.length ∧ LcK K g F1 s Q A vs h t f1 vs1 h1 t1 fe ds i H2, ⟨ds.length, rfl, Nat.zero_le _, F1, r1, [], [], Same.refl _, R1.laid nA, upd_same, R1.ff nA, fun j o e eo => not_own R1 nA j o e eo, .nil, ?_⟩, ?_⟩
  · rw [List.drop_zero]
    refine post_mono q fun ys r3 q => ?_
    obtain ⟨hl, q⟩ := post_if q
    exact ⟨hl, fun F3 H3 v sm3 R3 hv => q F3 H3 v (sm.trans sm3) R3 hv⟩
  rintro i m H2 ⟨rfl, hi2, F2, r2, acc, vacc, sm2, R2, hA, hFA, hAo, hacc, q2⟩
  obtain ⟨w1, w2⟩ := wk g F2 H2 s r2 rfl sm2 R2
  by_cases hlt : i < ds.length
  · have ed : ds[i]? = some ds[i] := List.getElem?_eq_getElem hlt
    obtain ⟨go, yl⟩ := w1 i _ ed
    rw [List.drop_eq_getElem_cons hlt] at q2
    refine .inr ⟨go, fun H3 => LcK K g F1 s Q A vs h t f1 vs1 h1 t1 fe ds (i + 1) H3, fun H3 hh => ⟨ds.length - (i + 1), by omega, rfl, hlt, hh⟩, fun x H3 hy => ?_⟩
    have R2m : Rel K (g.more A (.lst vacc)) F2 H2 s r2 := R2.more hA hFA hAo
    obtain ⟨w1m, _⟩ := wk (g.more A (.lst vacc)) F2 H2 s r2 rfl sm2 R2m
    obtain ⟨F3, sm3, R3, hx⟩ := (w1m i _ ed).2 x H3 hy
    have R3w : Rel K (g.more A (.lst vacc)) F3 H3 (wipe s vs) (wipeE r2 vs) := R3.forget hb (wipe_length _ _) fun i hi => wipe_keep hi
    have q3 : post K g.nw (fun ys r3 => (acc ++ ys).length ≤ 1000000 ∧ PO K g F1 s Q (.ow (acc ++ ys)) (wipeE r3 vs)) (match h ds[i] (wipeE r2 vs) with
      | none => .bad
      | some r1 => (t r1).bind fun b r2 => if b = true then (f1 r2).bind fun ds1 r3 => (lcS vs1 h1 t1 fe ds1 r3).bind fun ys r4 => (lc2S vs h t f1 vs1 h1 t1 fe (ds.drop (i + 1)) (wipeE r4 vs)).bind fun zs r5 => .ok (ys ++ zs) r5 else lc2S vs h t f1 vs1 h1 t1 fe (ds.drop (i + 1)) (wipeE r2 vs)) := q2
    cases eh : h ds[i] (wipeE r2 vs) with
    | none => rw [eh] at q3; exact q3.elim
    | some r3 =>
      rw [eh] at q3
      refine ⟨(g.more A (.lst vacc)).nw, ⟨rfl, rfl, rfl, rfl⟩, F3, _, ds[i], r3, R3w.nw, hx, eh, fun s4 ag R4 => ⟨agr_wipe ag hks, (g.more A (.lst vacc)).nw, ⟨rfl, rfl, rfl, rfl⟩, F3, r3, R4, post_mono (post_w (post_bind q3)) fun b r4 q4 F4 H4 sm4 R4' => ?_⟩⟩
      have wkeep : ∀ i, i ∉ vs → s[i]? = s4[i]? := fun i hi => by rw [ag.2 i fun z => hi (hks i z), wipe_keep hi]
      have hl4 : s.length = s4.length := by rw [ag.1, wipe_length]
      have sm14 : Same F1 F4 := (sm2.trans sm3).trans sm4
      cases b with
      | false =>
        obtain ⟨R5, a1, a2, a3⟩ := R4'.unw.less
        refine ⟨F4, wipeE r4 vs, acc, vacc, sm14, R5.forget hb hl4 wkeep, a1, a2, fun j o e eo => ?_, RDs.mono (sm3.trans sm4) acc hacc, q4⟩
        obtain ⟨e1, e2⟩ := wipeE_some e
        rw [wkeep j e2]
        exact a3 j o e1 eo
      | true =>
        -- the inner loop
        refine ⟨(g.more A (.lst vacc)).nw, ⟨rfl, rfl, rfl, rfl⟩, F4, r4, R4', post_mono (post_w (post_bind q4)) fun ds1 r5 q5 F5 H5 J1 sm5 R5' wk1 => ?_⟩
        obtain ⟨R5, b1, b2, b3⟩ := R5'.unw.less
        have sm15 : Same F1 F5 := sm14.trans sm5
        have hacc5 := RDs.mono ((sm3.trans sm4).trans sm5) acc hacc
        -- behind the inner loop
        have fin : ∀ (H9 : Hp) (F9 : Hp) (r9 : En) (acc9 : List D) (vacc9 : List V), Same F5 F9 → Rel K g F9 H9 s4 r9 → H9 A = some (.lst vacc9) → F9 A = none → (∀ (j : Nat) (o : OV), r9[j]? = some (some o) → o.own = true → s4[j]? ≠ some (some (.ref A))) → RDs K F9 vacc9 acc9 →
            post K g.nw (fun zs r8 => (acc9 ++ zs).length ≤ 1000000 ∧ PO K g F1 s Q (.ow (acc9 ++ zs)) (wipeE r8 vs)) (lc2S vs h t f1 vs1 h1 t1 fe (ds.drop (i + 1)) (wipeE r9 vs)) → LcK K g F1 s Q A vs h t f1 vs1 h1 t1 fe ds (i + 1) H9 := fun H9 F9 r9 acc9 vacc9 sm9 R9 c1 c2 c3 c4 q9 => by
          refine ⟨F9, wipeE r9 vs, acc9, vacc9, sm15.trans sm9, R9.forget hb hl4 wkeep, c1, c2, fun j o e eo => ?_, c4, q9⟩
          obtain ⟨e1, e2⟩ := wipeE_some e
          rw [wkeep j e2]
          exact c3 j o e1 eo
        refine ⟨fun j k H6 => k = ds1.length - j ∧ j ≤ ds1.length ∧ LcJ K g F5 s4 A vs1 h1 t1 fe (fun ys r6 => post K g.nw (fun zs r8 => (ys ++ zs).length ≤ 1000000 ∧ PO K g F1 s Q (.ow (ys ++ zs)) (wipeE r8 vs)) (lc2S vs h t f1 vs1 h1 t1 fe (ds.drop (i + 1)) (wipeE r6 vs))) ds1 j H6, ⟨ds1.length, rfl, Nat.zero_le _, F5, r5, acc, vacc, Same.refl _, R5, b1, b2, b3, hacc5, ?_⟩, ?_⟩
        · rw [List.drop_zero]
          refine post_mono (post_bind q5) fun ys r6 q6 => ?_
          refine post_mono (post_bind q6) fun zs r8 q8 => ?_
          have q8 : (acc ++ (ys ++ zs)).length ≤ 1000000 ∧ PO K g F1 s Q (.ow (acc ++ (ys ++ zs))) (wipeE r8 vs) := q8
          rw [List.append_assoc]
          exact q8
        rintro j k H6 ⟨rfl, hj2, F6, r6, acc6, vacc6, sm6, R6, d1, d2, d3, d4, q6⟩
        have wk1' : Wk K g.B F5 J1 ds1 := wk1
        obtain ⟨v1, v2⟩ := wk1' g F6 H6 s4 r6 rfl sm6 R6
        by_cases hjt : j < ds1.length
        · have ed1 : ds1[j]? = some ds1[j] := List.getElem?_eq_getElem hjt
          obtain ⟨go1, yl1⟩ := v1 j _ ed1
          rw [List.drop_eq_getElem_cons hjt] at q6
          refine .inr ⟨go1, fun H7 => LcJ K g F5 s4 A vs1 h1 t1 fe (fun ys r6 => post K g.nw (fun zs r8 => (ys ++ zs).length ≤ 1000000 ∧ PO K g F1 s Q (.ow (ys ++ zs)) (wipeE r8 vs)) (lc2S vs h t f1 vs1 h1 t1 fe (ds.drop (i + 1)) (wipeE r6 vs))) ds1 (j + 1) H7, fun H7 hh => ⟨ds1.length - (j + 1), by omega, rfl, hjt, hh⟩, fun x1 H7 hy1 => ?_⟩
          have R6m : Rel K (g.more A (.lst vacc6)) F6 H6 s4 r6 := R6.more d1 d2 d3
          obtain ⟨v1m, _⟩ := wk1' (g.more A (.lst vacc6)) F6 H6 s4 r6 rfl sm6 R6m
          obtain ⟨F7, sm7, R7, hx1⟩ := (v1m j _ ed1).2 x1 H7 hy1
          have R7w : Rel K (g.more A (.lst vacc6)) F7 H7 (wipe s4 vs1) (wipeE r6 vs1) := R7.forget hb1 (wipe_length _ _) fun i hi => wipe_keep hi
          have q7 : post K g.nw (fun ys r6 => (fun ys r6 => post K g.nw (fun zs r8 => (ys ++ zs).length ≤ 1000000 ∧ PO K g F1 s Q (.ow (ys ++ zs)) (wipeE r8 vs)) (lc2S vs h t f1 vs1 h1 t1 fe (ds.drop (i + 1)) (wipeE r6 vs))) (acc6 ++ ys) r6) (match h1 ds1[j] (wipeE r6 vs1) with
            | none => .bad
            | some r1 => (t1 r1).bind fun b r2 => if b = true then (fe r2).bind fun y r3 => (lcS vs1 h1 t1 fe (ds1.drop (j + 1)) (wipeE r3 vs1)).bind fun ys r4 => .ok (y :: ys) r4 else lcS vs1 h1 t1 fe (ds1.drop (j + 1)) (wipeE r2 vs1)) := q6
          cases eh1 : h1 ds1[j] (wipeE r6 vs1) with
          | none => rw [eh1] at q7; exact q7.elim
          | some r7 =>
            rw [eh1] at q7
            refine ⟨(g.more A (.lst vacc6)).nw, ⟨rfl, rfl, rfl, rfl⟩, F7, _, ds1[j], r7, R7w.nw, hx1, eh1, fun s8 ag1 R8 => ⟨agr_wipe ag1 hks1, (g.more A (.lst vacc6)).nw, ⟨rfl, rfl, rfl, rfl⟩, F7, r7, R8, post_mono (post_w (post_bind q7)) fun b r8 q8 F8 H8 sm8 R8' => ?_⟩⟩
            have wkeep1 : ∀ i, i ∉ vs1 → s4[i]? = s8[i]? := fun i hi => by rw [ag1.2 i fun z => hi (hks1 i z), wipe_keep hi]
            have hl8 : s4.length = s8.length := by rw [ag1.1, wipe_length]
            cases b with
            | false =>
              obtain ⟨R9, a1, a2, a3⟩ := R8'.unw.less
              refine ⟨F8, wipeE r8 vs1, acc6, vacc6, (sm6.trans sm7).trans sm8, R9.forget hb1 hl8 wkeep1, a1, a2, fun j o e eo => ?_, RDs.mono (sm7.trans sm8) acc6 d4, q8⟩
              obtain ⟨e1, e2⟩ := wipeE_some e
              rw [wkeep1 j e2]
              exact a3 j o e1 eo
            | true =>
              refine ⟨(g.more A (.lst vacc6)).nw, ⟨rfl, rfl, rfl, rfl⟩, F8, r8, R8', post_mono (post_w (post_bind q8)) fun y r9 q9 F9 H9 v sm9 R9' hv => ?_⟩
              have R9' := R9'.unw
              have a1 := R9'.less.2.1
              have a2 := R9'.less.2.2.1
              have a3 := R9'.less.2.2.2
              have hacc9 := RDs.mono ((sm7.trans sm8).trans sm9) acc6 d4
              have q10 : post K g.nw (fun ys r6 => post K g.nw (fun zs r8 => ((acc6 ++ [y] ++ ys) ++ zs).length ≤ 1000000 ∧ PO K g F1 s Q (.ow ((acc6 ++ [y] ++ ys) ++ zs)) (wipeE r8 vs)) (lc2S vs h t f1 vs1 h1 t1 fe (ds.drop (i + 1)) (wipeE r6 vs))) (lcS vs1 h1 t1 fe (ds1.drop (j + 1)) (wipeE r9 vs1)) := by
                refine post_mono (post_bind q9) fun ys r6 q6 => ?_
                have q6 : post K g.nw (fun zs r8 => ((acc6 ++ y :: ys) ++ zs).length ≤ 1000000 ∧ PO K g F1 s Q (.ow ((acc6 ++ y :: ys) ++ zs)) (wipeE r8 vs)) (lc2S vs h t f1 vs1 h1 t1 fe (ds.drop (i + 1)) (wipeE r6 vs)) := q6
                rw [show acc6 ++ [y] ++ ys = acc6 ++ y :: ys by rw [List.append_assoc]; rfl]
                exact q6
              have hlen : acc6.length < 1000000 := by
                revert q10
                cases lcS vs1 h1 t1 fe (ds1.drop (j + 1)) (wipeE r9 vs1) with
                | bad => exact fun z => z.elim
                | ex _ _ => exact fun z => False.elim z
                | ok ys r6 =>
                  intro q10
                  have q10 : post K g.nw (fun zs r8 => ((acc6 ++ [y] ++ ys) ++ zs).length ≤ 1000000 ∧ PO K g F1 s Q (.ow ((acc6 ++ [y] ++ ys) ++ zs)) (wipeE r8 vs)) (lc2S vs h t f1 vs1 h1 t1 fe (ds.drop (i + 1)) (wipeE r6 vs)) := q10
                  revert q10
                  cases lc2S vs h t f1 vs1 h1 t1 fe (ds.drop (i + 1)) (wipeE r6 vs) with
                  | bad => exact fun z => z.elim
                  | ex _ _ => exact fun z => False.elim z
                  | ok zs r8 =>
                    intro q10
                    have := q10.1
                    simp only [List.length_append, List.length_cons, List.length_nil] at this
                    omega
              refine ⟨vacc6, a1, ?_, F9, wipeE r9 vs1, acc6 ++ [y], vacc6 ++ [v], ((sm6.trans sm7).trans sm8).trans sm9, (R9'.grow hA0 hAX).forget hb1 hl8 wkeep1, upd_same, a2, fun j o e eo => ?_, hacc9.app (.cons hv .nil), q10⟩
              · rw [hacc9.length]
                have : (1000000 : Nat) < sizeLine := by decide
                omega
              · obtain ⟨e1, e2⟩ := wipeE_some e
                rw [wkeep1 j e2]
                exact a3 j o e1 eo
        · have hdr : ds1.drop j = [] := List.drop_of_length_le (by omega)
          rw [hdr] at q6
          have q6 : post K g.nw (fun zs r8 => ((acc6 ++ []) ++ zs).length ≤ 1000000 ∧ PO K g F1 s Q (.ow ((acc6 ++ []) ++ zs)) (wipeE r8 vs)) (lc2S vs h t f1 vs1 h1 t1 fe (ds.drop (i + 1)) (wipeE r6 vs)) := q6
          rw [List.append_nil] at q6
          exact .inl ⟨v2 j (by omega), fin H6 F6 r6 acc6 vacc6 sm6 R6 d1 d2 d3 d4 q6⟩
  · rw [List.drop_of_length_le (by omega)] at q2
    have q2 : (acc ++ []).length ≤ 1000000 ∧ PO K g F1 s Q (.ow (acc ++ [])) (wipeE r2 vs) := q2
    rw [List.append_nil] at q2
    refine .inl ⟨w2 i (by omega), q2.2 F2 H2 (.ref A) sm2 (R2.forget hb rfl fun _ _ => rfl) ⟨A, vacc, rfl, hFA, hA, hacc, hA0, fun j o e eo => ?_, hAX⟩⟩
    obtain ⟨e1, e2⟩ := wipeE_some e
    exact hAo j o e1 eo
/-- name = [.. for .. for ..] on one line, the name a plain local -/
theorem ds_setLc2 {i : Nat} {y : Str} {py spos : Pos} {elt iter iter1 : Expr} {ifs ifs1 : List Expr} {scope : Scope} {own : List (Str × Nat)} {vs ks vs1 ks1 : List Nat} {f f1 : En → Rs (List D)} {h h1 : D → En → Option En} {t t1 : En → Rs Bool} {fe : En → Rs D} (hbi : ∀ p ∈ g.B, p.1 ≠ i) (hc : X.calm = true) (hN : X.N.Nodup) (hi : DI X g tg iter f) (ok : BlkOk X.N X.env.scope scope own)
    (hvs : own.map (·.2) = vs) (hb : ∀ p ∈ g.B, p.1 ∉ vs) (hks : ∀ i ∈ ks, i ∈ vs) (hks1 : ∀ i ∈ ks1, i ∈ vs1) (hv1 : ∀ i ∈ vs1, i ∈ vs)
    (hg : ∀ (s : Shared) (H : Hp) (C : Addr) (cl : List (Str × Addr)) (fp : List Addr) (g' : G), Blk g g' → DG (X.blk s H scope (compEnvC scope cl C X.env) fp) g' tg ks h)
    (ht : ∀ (s : Shared) (H : Hp) (C : Addr) (cl : List (Str × Addr)) (fp : List Addr) (g' : G), Blk g g' → PTs (X.blk s H scope (compEnvC scope cl C X.env) fp) ifs (tTD X.K g' t))
    (hi1 : ∀ (s : Shared) (H : Hp) (C : Addr) (cl : List (Str × Addr)) (fp : List Addr) (g' : G), Blk g g' → DI (X.blk s H scope (compEnvC scope cl C X.env) fp) g' tg1 iter1 f1)
    (hg1 : ∀ (s : Shared) (H : Hp) (C : Addr) (cl : List (Str × Addr)) (fp : List Addr) (g' : G), Blk g g' → DG (X.blk s H scope (compEnvC scope cl C X.env) fp) g' tg1 ks1 h1)
    (ht1 : ∀ (s : Shared) (H : Hp) (C : Addr) (cl : List (Str × Addr)) (fp : List Addr) (g' : G), Blk g g' → PTs (X.blk s H scope (compEnvC scope cl C X.env) fp) ifs1 (tTD X.K g' t1))
    (he : ∀ (s : Shared) (H : Hp) (C : Addr) (cl : List (Str × Addr)) (fp : List Addr) (g' : G), Blk g g' → DE (X.blk s H scope (compEnvC scope cl C X.env) fp) g' elt fe)
    (hsw : swapsWith (.ListComp elt [⟨tg, iter, ifs, 0⟩, ⟨tg1, iter1, ifs1, 0⟩] scope pos) (some (.Name y py)) spos.line X.env = pure true) (hy : X.N[i]? = some y := by rfl) (hyl : X.env.scope.names.lookup y = some .local := by rfl) (hs : ∀ x, foldedSetIterable iter X.env x = pure x := by intro _; rfl) (hs1 : ∀ env x, foldedSetIterable iter1 env x = pure x := by intro _ _; rfl) :
    DS X g (.Assign [.Name y py] (.ListComp elt [⟨tg, iter, ifs, 0⟩, ⟨tg1, iter1, ifs1, 0⟩] scope pos) spos) (setS i (lc2D f vs h t f1 vs1 h1 t1 fe)) := by
  subst hvs
  refine PS.imp (ps_setLc2 hc hN hy hyl hsw hi ok hv1 (g := fun v s H Q => ∃ g' : G, Blk g g' ∧ tGD X.K g' ks h v s H Q) (tt := fun s H Q => ∃ g' : G, Blk g g' ∧ tTD X.K g' t s H Q) (wi1 := fun s H Q => ∃ g' : G, Blk g g' ∧ tID X.K g' f1 s H Q) (g1 := fun v s H Q => ∃ g' : G, Blk g g' ∧ tGD X.K g' ks1 h1 v s H Q) (tt1 := fun s H Q => ∃ g' : G, Blk g g' ∧ tTD X.K g' t1 s H Q) (te := fun s H Q => ∃ g' : G, Blk g g' ∧ tD X.K g' fe s H Q)
    (fun s H C cl fp => ⟨fun pins s2 σ H2 v u Q I rv ⟨g', eg, q⟩ => (hg s H C cl fp g' eg).run pins s2 σ H2 v u Q I rv q⟩)
    (fun s H C cl fp => ⟨fun pins s2 σ H2 Q I ⟨g', eg, q⟩ => (ht s H C cl fp g' eg).run pins s2 σ H2 Q I q⟩)
    (fun s H C cl fp => ⟨fun pins s2 σ H2 Q I ⟨g', eg, q⟩ => (hi1 s H C cl fp g' eg).run pins s2 σ H2 Q I q⟩)
    (fun s H C cl fp => ⟨fun pins s2 σ H2 v u Q I rv ⟨g', eg, q⟩ => (hg1 s H C cl fp g' eg).run pins s2 σ H2 v u Q I rv q⟩)
    (fun s H C cl fp => ⟨fun pins s2 σ H2 Q I ⟨g', eg, q⟩ => (ht1 s H C cl fp g' eg).run pins s2 σ H2 Q I q⟩)
    (fun s H C cl fp => ⟨fun pins s2 σ H2 Q I ⟨g', eg, q⟩ => (he s H C cl fp g' eg).run pins s2 σ H2 Q I q⟩) hs hs1) fun E s H ⟨F, r, R, q⟩ => ?_
  exact lc2_imp hb hks hks1 hv1 ⟨F, r, R, post_mono (post_then q) fun o r1 q F1 H1 v sm R1 hv => q F1 H1 _ sm (R1.set hbi hv)⟩
end
theorem lc2_nod {f f1 : En → Rs (List D)} {vs vs1 : List Nat} {h h1 : D → En → Option En} {t t1 : En → Rs Bool} {e : En → Rs D} : NoOd (lc2D f vs h t f1 vs1 h1 t1 e) := fun r o r1 z => by
  unfold lc2D at z
  cases e1 : f r with
  | bad => rw [e1] at z; cases z
  | ex x r2 => rw [e1] at z; cases z
  | ok ds r2 =>
    rw [e1] at z
    simp only [Rs.bind] at z
    cases e2 : lc2S vs h t f1 vs1 h1 t1 e ds r2 with
    | bad => rw [e2] at z; cases z
    | ex x r3 => rw [e2] at z; cases z
    | ok ys r3 =>
      rw [e2] at z
      simp only [Rs.noE] at z
      split at z
      · cases z
        exact .inr ⟨_, rfl⟩
      · cases z
end DL

/-! Data layer, part 25: xs[::e]; range with a step; min, max of two. -/
namespace DL
open PySem L2 PyProof.Rows
section
variable {X : Cx} {g : G} {e a b c tg : Expr} {pos : Pos}
/-! ### range(a, b, c), c positive -/
/-! ### min, max of two ints -/
end
end DL

/-! Data layer, part 26: sets of texts; sorted of them. -/
namespace DL
open PySem L2 PyProof.Rows PySem.Froz
/-- one text more -/
def insT (l : List Str) (k : Str) : List Str := if k ∈ l then l else k :: l
def addT (l : List Str) (ts : List Str) : List Str := ts.foldl insT l
theorem insT_mem {l : List Str} {k j : Str} : j ∈ insT l k ↔ j ∈ l ∨ j = k := by
  unfold insT
  split
  · next h => exact ⟨.inl, fun z => z.elim id fun e => e ▸ h⟩
  · rw [List.mem_cons]; exact Or.comm
theorem insT_nodup {l : List Str} {k : Str} (h : l.Nodup) : (insT l k).Nodup := by
  unfold insT
  split
  · exact h
  · next q => exact List.nodup_cons.mpr ⟨q, h⟩
theorem insT_len (l : List Str) (k : Str) : (insT l k).length ≤ l.length + 1 := by
  unfold insT
  split
  · omega
  · simp
theorem addT_mem : ∀ (ts l : List Str) (j : Str), j ∈ addT l ts ↔ j ∈ l ∨ j ∈ ts
  | [], l, j => by simp [addT]
  | t :: ts, l, j => by
    show j ∈ addT (insT l t) ts ↔ _
    rw [addT_mem ts, insT_mem, List.mem_cons, or_assoc]
theorem addT_nodup : ∀ (ts : List Str) {l : List Str}, l.Nodup → (addT l ts).Nodup
  | [], _, h => h
  | t :: ts, _, h => addT_nodup ts (insT_nodup h)
theorem addT_len : ∀ (ts l : List Str), (addT l ts).length ≤ l.length + ts.length
  | [], l => by simp [addT]
  | t :: ts, l => by
    have h := addT_len ts (insT l t)
    have h2 := insT_len l t
    show (addT (insT l t) ts).length ≤ _
    rw [List.length_cons]
    omega
theorem addT_snoc (l ts : List Str) (t : Str) : addT l (ts ++ [t]) = insT (addT l ts) t := by
  unfold addT
  rw [List.foldl_append]
  rfl
/-- the set of texts at a -/
def SetX (P : Program) (w : World) (h : Heap) (a : Addr) (l : List Str) : Prop := ∃ Z : SD, h.get? a = some (sObj "set" Z) ∧ TxOk P w Z l ∧ l.Nodup ∧ Ris Z.2.2.place.toList ∧ (w.params.followText "set-order" = true ∨ Z.2.2.led = true)
section
variable {P : Program} {w : World} {A : Around} {E : Value → Shared → Prop} {s : Shared} {a : Addr} {l : List Str}
theorem SetX.at {h h' : Heap} (R : SetX P w h a l) (k : ∀ o, h.get? a = some o → h'.get? a = some o) : SetX P w h' a l := by
  obtain ⟨Z, ho, r⟩ := R
  exact ⟨Z, k _ ho, r⟩
theorem SetX.ob {h : Heap} (R : SetX P w h a l) : ∃ o, h.get? a = some o := by
  obtain ⟨Z, ho, r⟩ := R
  exact ⟨_, ho⟩
theorem tailTx_ris {ep : Nat} {es : Array (Int × Value)} {t : SetTable} {b : Bool} (h : Ris t.place.toList) : Ris (tailTx ep es t b).2.2.place.toList := by
  unfold tailTx
  split
  · exact relayAll_ris _ _ _
  · exact h
theorem tailTx_led {ep : Nat} {es : Array (Int × Value)} {t : SetTable} {b : Bool} : (tailTx ep es t b).2.2.led = t.led := by
  unfold tailTx
  split
  · exact relayAll_led _ _ _
  · rfl
theorem addTx_ris {h : Int} {v : Value} {Z : SD} (r : Ris Z.2.2.place.toList) : Ris (addTx h v Z).2.2.place.toList := by
  unfold addTx
  refine tailTx_ris ?_
  have q := layNew_ris Z.2.2 Z.1 h v r
  split <;> exact q
theorem addTx_led {h : Int} {v : Value} {Z : SD} : (addTx h v Z).2.2.led = Z.2.2.led := by
  unfold addTx
  rw [tailTx_led]
  have q := layNew_led Z.2.2 Z.1 h v
  split <;> exact q
theorem setX_add {k : Str} {u : Tok} {Q : Bool → Shared → Prop} (R : SetX P w s.heap a l) (room : l.length + 1 < scanBound)
    (hQ : ∀ b h', Heap.SameBut a s.heap h' → SetX P w h' a (insT l k) → Q b { s with heap := h' }) : wpAny (model P w) A (setAddHashed a (.str k u) (hashStr w k)) Q E s := by
  obtain ⟨Z, ho, T, nd, hr, hl⟩ := R
  by_cases hk : k ∈ l
  · have e : insT l k = l := if_pos hk
    obtain ⟨es, ep, t⟩ := Z
    have hd : (sObj "set" (es, ep, t)).data = .set es ep t := rfl
    have hf : t.fits es.size = true := T.fit
    have hel : ElemsOf (strKind P w) es.toList := T.el
    have hsz : es.size = l.length := T.sz
    have hb0 : es.size < scanBound := by omega
    have hkey : (strKind P w).is k (.str k u) = true := is_str k u
    obtain ⟨x, hx, hxk⟩ := (T.mem k).mp hk
    unfold setAddHashed setAddHashedIn
    refine wpAny_holding (wpAny_bind (wpAny_setState_of ho hd hf ?_))
    dsimp only
    rw [byScan_of rfl hb0 hel]
    simp only [↓reduceIte]
    unfold setAddByScan
    refine wpAny_bind ?_
    refine wpAny_bind (wpAny_rule ?_)
    refine wpAny_bind (wpAny_setScan_of (knd := strKind P w) (k := k) hkey ho hd hf hel ?_)
    cases hr2 : List.findIdx? (fun e => (strKind P w).is k e.2) es.toList with
    | none =>
      have := List.findIdx?_eq_none_iff.mp hr2 x hx
      rw [hxk] at this
      cases this
    | some j =>
      dsimp only
      refine wpAny_pure (wpAny_pure ?_)
      have q := hQ false s.heap (Heap.SameBut.refl a s.heap) (by rw [e]; exact ⟨(es, ep, t), ho, T, nd, hr, hl⟩)
      exact q
  · have e : insT l k = k :: l := if_neg hk
    refine add_x ho T hk room ?_
    refine hQ true _ (Heap.SameBut.update s.heap a _) ?_
    rw [e]
    exact ⟨_, get_upd _ ho rfl, add_ok u T, List.nodup_cons.mpr ⟨hk, nd⟩, addTx_ris hr, hl.imp id fun z => by rw [addTx_led]; exact z⟩
theorem setX_fresh {h : Heap} (ho : h.get? a = some { cls := .type "set", dict := none, data := .set #[] 0 (.fresh 0 0 (!w.params.followText "set-order")) }) : SetX P w h a [] :=
  ⟨(#[], 0, _), ho, TxOk.nil rfl, List.nodup_nil, List.Pairwise.nil, by
    show _ ∨ (!w.params.followText "set-order") = true
    cases w.params.followText "set-order"
    · exact .inr rfl
    · exact .inl rfl⟩
theorem setX_update {I : Addr} {fp wr : List Addr} {G : Array GenState → Array GenState → Prop} {n : Nat} {Pv : Nat → Value → Prop} {St : Nat → Shared → Prop} {R : Result → Shared → Prop}
    (W : WalksS P w A.in1 I fp wr G n Pv St) (S : Addr) (hSf : S ∉ fp) (ts : List Str) (hn : n = ts.length) (hb : ts.length + 1 < scanBound) (hval : ∀ i v, Pv i v → ∃ k t, ts[i]? = some k ∧ v = .str k t) :
    ∀ (k i : Nat) (s : Shared), n - i = k → i ≤ n → St i s → SetX P w s.heap S (addT [] (ts.take i)) →
      (∀ s', Moved (S :: wr) G s s' → SetX P w s'.heap S (addT [] ts) → R (.ok (.ret .none)) s') →
      codeAny (model P w) A (.builtin "set.update.loop" ⟨[.ref S, .ref I], []⟩) R s := by
  have hSw : S ∉ wr := fun h => hSf (W.sub _ h)
  have hsub : ∀ b ∈ wr, b ∈ S :: wr := fun b hb => List.mem_cons_of_mem _ hb
  intro k
  induction k with
  | zero =>
    intro i s hk' hi hst hS hR
    have hin : i = n := by omega
    subst hin
    refine codeAny_builtin F.entry_set_update_loop ?_
    rw [Around.under_plainId F.plain_set_update_loop _]
    show wpAny _ A.in1 (pyNext (.ref I) >>= _) _ _ s
    refine wpAny_bind (W.done s _ _ hst fun s' hm => ?_)
    show wpAny _ A.in1 (ret Value.none) _ _ s'
    rw [List.take_of_length_le (by omega)] at hS
    exact wpAny_pure (hR s' (hm.mono hsub) (hS.at fun o e => hm.heap S o hSw e))
  | succ k ih =>
    intro i s hk' hi hst hS hR
    have hlt : i < n := by omega
    refine codeAny_builtin F.entry_set_update_loop ?_
    rw [Around.under_plainId F.plain_set_update_loop _]
    show wpAny _ A.in1 (pyNext (.ref I) >>= _) _ _ s
    refine wpAny_bind (W.item i s _ _ hlt hst fun v s' hP hst' hm => ?_)
    obtain ⟨z, t, hz, rfl⟩ := hval i v hP
    have hS' := hS.at fun o e => hm.heap S o hSw e
    show wpAny _ A.in1 (holding [Value.str z t] (setAdd S (.str z t)) >>= _) _ _ s'
    refine wpAny_bind (wpAny_holding ?_)
    unfold setAdd
    refine wpAny_holding ?_
    refine wpAny_bind ((strKind P w).pyHash (k := z) (is_str _ _) ?_)
    have hlen := addT_len (ts.take i) []
    have htl : (ts.take i).length ≤ i := List.length_take_le _ _
    refine setX_add (s := { s' with toks := s'.toks + 1 }) hS' (by simp only [List.length_nil] at hlen; omega) fun b h' hsb hS2 => ?_
    have hS3 : SetX P w h' S (addT [] (ts.take (i + 1))) := by
      rw [List.take_add_one, hz]
      show SetX P w h' S (addT [] (ts.take i ++ [z]))
      rw [addT_snoc]
      exact hS2
    refine wpAny_pure ⟨plainId_quiet F.plain_set_update_loop _, ih (i + 1) _ (by omega) hlt (W.frame _ s' _ _ hst' (Nat.le_succ _) fun b hb o e => ?_) hS3 fun s'' hm'' hS'' => ?_⟩
    · rw [hsb.2 b (fun h : b = S => hSf (by rw [← h]; exact hb))]; exact e
    · refine hR s'' (Moved.trans W.gtrans ((hm.mono hsub).then_heap (Nat.le_succ _) fun b o hb e => ?_) hm'') hS''
      rw [hsb.2 b (fun h : b = S => hb (by rw [h]; exact List.mem_cons_self))]; exact e
end
/-- the empty set that set(..) lays -/
def set0 (w : World) : Obj := { cls := .type "set", dict := none, data := .set #[] 0 (.fresh 0 0 (!w.params.followText "set-order")) }
/-- the heap as set.update's loop begins: the set, the iterator -/
def set1 (w : World) (h : Heap) (l : Addr) (it : String) : Heap := (h.push (set0 w)).push { cls := .type it, data := .fields #[.ref l, .int 0 0] }
section
variable {P : Program} {w : World} {A : Around} {E : Value → Shared → Prop} {s : Shared}
/-- set(l), but for set.update's loop; good: what is told of the heap behind it -/
theorem call_set_of {T : String} {l : Addr} {items : Array Value} {it : Obj} {good : Heap → Prop} {Q : Value → Shared → Prop} (hl : ∃ o, s.heap.get? l = some o ∧ o.cls = .type T ∧ ∃ n, o.data = .seq items n)
    (hsls : isSubtype (.type T) (.type "set") = pure false) (hslf : isSubtype (.type T) (.type "frozenset") = pure false) (hne : (Value.type T == Value.type "dict") = false)
    (iter : ∀ {A : Around} {s' : Shared} {Q : Value → Shared → Prop}, s'.heap = s.heap.push (set0 w) → Q (.ref s'.heap.objs.size) { s' with heap := s'.heap.push it } → wpAny (model P w) A (pyIter (.ref l)) Q E s')
    (loop : ∀ (R : Result → Shared → Prop), (∀ h' tk, good h' → (∀ b o, s.heap.get? b = some o → h'.get? b = some o) → R (.ok (.ret .none)) { s with heap := h', toks := tk }) →
      codeAny (model P w) A.in1.in1 (.builtin "set.update.loop" ⟨[.ref s.heap.objs.size, .ref (s.heap.push (set0 w)).objs.size], []⟩) R { s with heap := (s.heap.push (set0 w)).push it })
    (h : ∀ (h' : Heap) (tk : Nat), good h' → (∀ b o, s.heap.get? b = some o → h'.get? b = some o) → Q (.ref s.heap.objs.size) { s with heap := h', toks := tk }) :
    wpAny (model P w) A (call (.type "set") [.ref l]) Q E s := by
  obtain ⟨c, tl, hmro⟩ := F.called_set.mro
  have hmade := F.called_set.made
  have hsub := F.called_set.sub
  refine wpAny_call (codeAny_of_tree ?_)
  show wpAny _ _ (callAny (.type "set") _) _ _ _
  refine wpAny_pure ⟨Code.quiet_builtin _ (by decide +kernel), codeAny_builtin F.entry_type_call ?_⟩
  rw [Around.under_plain (weight_type_call_type "set" [.ref l] []) rfl]
  have h1 := F.called_set.notType
  have h2 := F.called_set.canCreate
  have hct := F.typeCall_set_1 (.ref l)
  repeat (any_goals (first | assumption | wp_step))
  refine codeAny_mono (code_set_led1 (.ref l) (E := E) (Q₁ := fun obj s₁ => obj = .ref s.heap.objs.size ∧ s₁ = { s with heap := s.heap.push (set0 w) }) ⟨rfl, rfl⟩) fun r s₁ hr => ?_
  cases r with
  | error e => exact hr
  | ok fl =>
    cases fl with
    | ret obj =>
      obtain ⟨rfl, rfl⟩ := hr
      have hS : (s.heap.push (set0 w)).get? s.heap.objs.size = some (set0 w) := Heap.get?_push_size _ rfl
      have hT : Shared.TypeIs { s with heap := s.heap.push (set0 w) } (.ref s.heap.objs.size) "set" := ⟨_, hS, rfl⟩
      have hli := F.called_set.init.lookup
      have hbi := F.called_set.init.bind (.ref s.heap.objs.size)
      repeat (any_goals (first | assumption | wp_step))
      refine codeAny_mono (codeAny_call_builtin (R := wants (fun r s₂ => r = .none ∧ ∃ h' tk, s₂ = { s with heap := h', toks := tk } ∧ good h' ∧ (∀ b o, s.heap.get? b = some o → h'.get? b = some o)) E) F.called_set.init.plain F.entry_set_init (check_set_init_1 hT ?_)) fun r₂ s₂ hr₂ => ?_
      · obtain ⟨ol, hol, hcl, nl, hdl⟩ := hl
        obtain ⟨ocls, odict, odata, oslots⟩ := ol
        simp only at hcl hdl
        subst hcl; subst hdl
        have hol' : (s.heap.push (set0 w)).get? l = some { cls := .type T, dict := odict, data := .seq items nl, slots := oslots } := Heap.get?_push_of_some _ hol
        unfold Builtin.«set.__init__» noKeywords Builtin.Frozenset.updateFrom
        generalize hPI : pyIter = PI
        wp_walk
        subst hPI
        refine iter rfl ?_
        refine wpAny_bind (wpAny_runValue ?_)
        refine loop _ fun h' tk hg hk => ?_
        show wpAny _ _ _ _ _ _
        refine wpAny_pure ?_
        show wpAny _ _ (ret Value.none) _ _ _
        exact wpAny_pure ⟨rfl, h', tk, rfl, hg, hk⟩
      · cases r₂ with
        | error e => exact hr₂
        | ok fl₂ =>
          cases fl₂ with
          | ret r =>
            obtain ⟨rfl, h', tk, rfl, hS', hk'⟩ := hr₂
            repeat (any_goals (first | assumption | wp_step))
            exact h _ _ hS' hk'
          | _ => exact hr₂.elim
    | _ => exact hr.elim
/-- the loop over texts -/
theorem loopX {l : Addr} {it : String} {fp wr : List Addr} {Pv : Nat → Value → Prop} {St : Nat → Shared → Prop} {G : Array GenState → Array GenState → Prop} (ts : List Str) (hb : ts.length + 1 < scanBound)
    (W : WalksS P w A.in1 (s.heap.push (set0 w)).objs.size fp wr G ts.length Pv St) (nS : s.heap.objs.size ∉ fp) (val : ∀ i v, Pv i v → ∃ k t, ts[i]? = some k ∧ v = .str k t) (old : ∀ b ∈ wr, s.heap.objs.size ≤ b)
    (Geq : ∀ g g', G g g' → g' = g) (st : St 0 { s with heap := set1 w s.heap l it }) (R : Result → Shared → Prop)
    (hR : ∀ h' tk, SetX P w h' s.heap.objs.size (addT [] ts) → (∀ b o, s.heap.get? b = some o → h'.get? b = some o) → R (.ok (.ret .none)) { s with heap := h', toks := tk }) :
    codeAny (model P w) A (.builtin "set.update.loop" ⟨[.ref s.heap.objs.size, .ref (s.heap.push (set0 w)).objs.size], []⟩) R { s with heap := set1 w s.heap l it } := by
  have hS : (s.heap.push (set0 w)).get? s.heap.objs.size = some (set0 w) := Heap.get?_push_size _ rfl
  refine setX_update W s.heap.objs.size nS ts rfl hb val (ts.length - 0) 0 _ rfl (Nat.zero_le _) st (setX_fresh (Heap.get?_push_of_some _ hS)) fun s' hm hS' => ?_
  obtain ⟨h', g2, d', tk', os'⟩ := s'
  have eg : g2 = s.gens := Geq _ _ hm.gens
  have ed : d' = s.drawn := hm.drawn
  have eo : os' = s.os := hm.os
  subst eg; subst ed; subst eo
  refine hR h' tk' hS' fun b o e => hm.heap b o (fun z => ?_) (Heap.get?_push_of_some _ (Heap.get?_push_of_some _ e))
  have lt := Heap.lt_size e
  rcases List.mem_cons.mp z with z | z
  · rw [z] at lt; exact Nat.lt_irrefl _ lt
  · exact absurd (Nat.lt_of_lt_of_le lt (old b z)) (Nat.lt_irrefl _)
theorem notIn2 {h : Heap} {l : Addr} {o : Obj} (e : h.get? l = some o) (X : Obj) : h.objs.size ∉ [(h.push X).objs.size, l] := by
  have lt := Heap.lt_size e
  rw [Heap.size_push]
  simp only [List.mem_cons, List.not_mem_nil, or_false, not_or]
  exact ⟨Nat.ne_of_lt (Nat.lt_succ_self _), Nat.ne_of_gt lt⟩
theorem old1 {h : Heap} (X : Obj) : ∀ b ∈ [(h.push X).objs.size], h.objs.size ≤ b := fun b hb => by
  rw [List.mem_singleton.mp hb, Heap.size_push]
  exact Nat.le_succ _
theorem ne1 {h : Heap} {l : Addr} {o : Obj} (e : h.get? l = some o) (X : Obj) : l ≠ (h.push X).objs.size := by
  have lt := Heap.lt_size e
  rw [Heap.size_push]
  exact Nat.ne_of_lt (Nat.lt_succ_of_lt lt)
theorem call_setX {l : Addr} {items : Array Value} (ts : List Str) {Q : Value → Shared → Prop} (hh : A.handled = none) (hl : s.heap.IsList l items) (hisz : items.size = ts.length) (hval : ∀ (i : Nat) (v : Value), items[i]? = some v → ∃ k t, ts[i]? = some k ∧ v = .str k t) (hb : ts.length + 1 < scanBound)
    (h : ∀ (h' : Heap) (tk : Nat), SetX P w h' s.heap.objs.size (addT [] ts) → (∀ b o, s.heap.get? b = some o → h'.get? b = some o) → Q (.ref s.heap.objs.size) { s with heap := h', toks := tk }) :
    wpAny (model P w) A (call (.type "set") [.ref l]) Q E s := by
  obtain ⟨o, ho, hc⟩ := id hl
  have hh3 : A.in1.in1.in1.handled = none := by simp [hh]
  have WW := (Walks.list (prog := P) (w := w) hh3 (s.heap.push (set0 w)).objs.size l (ne1 ho (set0 w)) items).toS
  rw [hisz] at WW
  refine call_set_of (it := { cls := .type "list_iterator", data := .fields #[.ref l, .int 0 0] }) hl F.sub_list_set F.sub_list_frozenset (by decide) (fun e q => wpAny_pyIter_list (by rw [e]; exact hl.push _) q) (fun R hR => loopX ts hb WW (notIn2 ho _) hval (old1 _) (fun _ _ z => z) ⟨⟨_, Heap.get?_push_size _ rfl, rfl, rfl⟩, ((hl.push _).push _)⟩ R hR) h
theorem call_setXT {l : Addr} {items : Array Value} (ts : List Str) {Q : Value → Shared → Prop} (hh : A.handled = none) (hl : s.heap.IsTuple l items) (hisz : items.size = ts.length) (hval : ∀ (i : Nat) (v : Value), items[i]? = some v → ∃ k t, ts[i]? = some k ∧ v = .str k t) (hb : ts.length + 1 < scanBound)
    (h : ∀ (h' : Heap) (tk : Nat), SetX P w h' s.heap.objs.size (addT [] ts) → (∀ b o, s.heap.get? b = some o → h'.get? b = some o) → Q (.ref s.heap.objs.size) { s with heap := h', toks := tk }) :
    wpAny (model P w) A (call (.type "set") [.ref l]) Q E s := by
  obtain ⟨o, ho, hc⟩ := id hl
  have hh3 : A.in1.in1.in1.handled = none := by simp [hh]
  have WW := (Walks.tuple (prog := P) (w := w) hh3 (s.heap.push (set0 w)).objs.size l (ne1 ho (set0 w)) items).toS
  rw [hisz] at WW
  refine call_set_of (it := { cls := .type "tuple_iterator", data := .fields #[.ref l, .int 0 0] }) hl F.sub_tuple_set F.sub_tuple_frozenset (by decide) (fun e q => wpAny_pyIter_tuple (by rw [e]; exact hl.push _) q) (fun R hR => loopX ts hb WW (notIn2 ho _) hval (old1 _) (fun _ _ z => z) ⟨⟨_, Heap.get?_push_size _ rfl, rfl, rfl⟩, ((hl.push _).push _)⟩ R hR) h
end
end DL

/-! Data layer, part 27: sorted of a set of texts; sorted of lists. -/
namespace DL
open PySem L2 PyProof.Rows PySem.Froz
/-- texts in order -/
def leT (a b : Str) : Bool := decide (a.cps.toList ≤ b.cps.toList)
theorem leT_trans (a b c : Str) (h1 : leT a b = true) (h2 : leT b c = true) : leT a c = true :=
  decide_eq_true (List.le_trans (of_decide_eq_true h1) (of_decide_eq_true h2))
theorem leT_total (a b : Str) : (leT a b || leT b a) = true := by
  rw [Bool.or_eq_true]
  rcases List.le_total a.cps.toList b.cps.toList with h | h
  · exact .inl (decide_eq_true h)
  · exact .inr (decide_eq_true h)
theorem leT_anti {a b : Str} (h1 : leT a b = true) (h2 : leT b a = true) : a = b :=
  PySem.W.str_of_cps (List.le_antisymm (of_decide_eq_true h1) (of_decide_eq_true h2))
/-- sorted(set(ts)) -/
def srtT (ts : List Str) : List Str := (addT [] ts).mergeSort leT
theorem srtT_mem (ts : List Str) (k : Str) : k ∈ srtT ts ↔ k ∈ ts := by
  unfold srtT
  rw [List.mem_mergeSort, addT_mem]
  simp
theorem srtT_nodup (ts : List Str) : (srtT ts).Nodup := (List.mergeSort_perm _ _).nodup_iff.mpr (addT_nodup ts List.nodup_nil)
theorem srtT_of {zs l : List Str} (p : zs.Perm l) (h : zs.Pairwise fun a b => leT a b = true) : zs = l.mergeSort leT :=
  List.Perm.eq_of_pairwise (le := fun a b => leT a b = true) (fun a b _ _ h1 h2 => leT_anti h1 h2) h (List.pairwise_mergeSort leT_trans leT_total _) (p.trans (List.mergeSort_perm _ _).symm)
def tvS : Value → Str
  | .str x _ => x
  | _ => ""
theorem vals_tv : ∀ (vs : List Value), (∀ v ∈ vs, ∃ k t, v = Value.str k t) → PySem.W.EachIs (fun v b => ∃ t, v = Value.str b t) vs (vs.map tvS)
  | [], _ => .nil
  | v :: vs, h => by
    obtain ⟨k, t, rfl⟩ := h v List.mem_cons_self
    exact .cons ⟨t, rfl⟩ (vals_tv vs fun u hu => h u (List.mem_cons_of_mem _ hu))
theorem perm_of_sub : ∀ {l m : List Str}, l.Nodup → m.length = l.length → (∀ k, k ∈ l → k ∈ m) → m.Perm l
  | [], m, _, h, _ => by
    have : m = [] := List.eq_nil_of_length_eq_zero (by simpa using h)
    rw [this]
  | x :: l, m, nd, h, sub => by
    obtain ⟨h1, h2⟩ := List.nodup_cons.mp nd
    have hx := sub x List.mem_cons_self
    have p := List.perm_cons_erase hx
    have hl : (m.erase x).length = l.length := by
      have := p.length_eq
      rw [List.length_cons] at this h
      omega
    refine p.trans ((perm_of_sub h2 hl fun k hk => ?_).cons x)
    have hne : k ≠ x := fun e => h1 (e ▸ hk)
    exact (List.mem_erase_of_ne hne).mpr (sub k (List.mem_cons_of_mem _ hk))
section
variable {P : Program} {w : World} {A : Around} {E : Value → Shared → Prop} {s : Shared}
theorem sortedX {a : Addr} {l : List Str} {Q : Value → Shared → Prop} (R : SetX P w s.heap a l) (hh : A.handled = none) (hlen : l.length < scanBound) (hu : A.units + 100 < cLine)
    (hQ : ∀ s' p (out : List Value) (c : Nat), (∀ b o, s.heap.get? b = some o → s'.heap.get? b = some o) → s'.gens = s.gens → s'.os = s.os → s.heap.objs.size ≤ p →
      s'.heap.get? p = some (seqObj "list" out.toArray c) → PySem.W.EachIs (fun v b => ∃ t, v = Value.str b t) out (l.mergeSort leT) → Q (.ref p) s') :
    wpAny (model P w) A (call (.builtin "sorted") [.ref a]) Q E s := by
  obtain ⟨⟨es, ep, t⟩, ho, T, nd, hr, hl⟩ := R
  have hsz : es.size = l.length := T.sz
  refine Calls.call_function_entry kind_sorted plain_sorted entry_sorted (args_sorted1 _) ?_
  unfold Builtin.«sorted»
  refine wpAny_bind (m := checkCount "sorted" 1 1 _) (wpAny_pure ?_)
  refine wpAny_bind (collect_set (A := A.in1) hh ⟨_, ho, rfl, rfl⟩ T.fit (by rw [hsz]; exact hlen) hr hl fun s1 vs k1 hz g1 o1 pm => ?_)
  have hst : ∀ v ∈ vs, ∃ k t, v = Value.str k t := fun v hv => by
    obtain ⟨e, he, q⟩ := List.mem_map.mp (pm.mem_iff.mp hv)
    obtain ⟨⟨k, hk, _⟩, _⟩ := T.el e he
    obtain ⟨u, hu⟩ := Value.isStrOf_shape hk
    exact ⟨k, u, q.symm.trans hu⟩
  have hvl : vs.length = l.length := by rw [pm.length_eq, List.length_map, Array.length_toList]; exact hsz
  have hmem : ∀ k, k ∈ l → k ∈ vs.map tvS := fun k hk => by
    obtain ⟨e, he, q⟩ := (T.mem k).mp hk
    obtain ⟨u, hu⟩ := Value.isStrOf_shape q
    exact List.mem_map.mpr ⟨e.2, pm.mem_iff.mpr (List.mem_map.mpr ⟨e, he, rfl⟩), by rw [hu]; rfl⟩
  have hperm : (vs.map tvS).Perm l := perm_of_sub nd (by rw [List.length_map]; exact hvl) hmem
  have hvz : vs.length ≤ sizeLine := by rw [hvl]; exact fits_of_scanBound hlen
  refine wpAny_bind (wpAny_newList ?_ hvz)
  have hoL : (s1.heap.push (seqObj "list" vs.toArray 0)).get? s1.heap.objs.size = some (seqObj "list" vs.toArray 0) := Heap.get?_push_size _ rfl
  have eV := vals_tv vs hst
  refine wpAny_bind (wpAny_holding (PySem.W.list_sort_data (enc := fun b : Str => PyData.str b) hoL eV (eV.mono fun v b ⟨t, q⟩ => ⟨[], by rw [q]; exact Reads.str _ _, by simp⟩)
    (PySem.W.AllAlike.of fun b b' => by simp [PySem.W.alike]) (PySem.W.Sortable.others fun b => ⟨nofun, fun xs => nofun⟩) (by rw [List.length_map]; exact hvz) (fun b _ => ?_) fun out ho2 eo => ?_))
  · have e1 : A.in1.units = A.units ∨ True := .inr trivial
    have : (PyData.str b).depth = 0 := rfl
    rw [this]
    have hin : A.in1.units ≤ A.units + 1 := by
      first | exact Nat.le_refl _ | exact Nat.le_succ _
    omega
  · obtain ⟨c, hc⟩ := sortedHeap_at (vs := vs) (out := out.toArray) hoL
    refine wpAny_pure ⟨_, rfl, hQ _ s1.heap.objs.size out c (fun b u e => ?_) g1 o1 hz hc ?_⟩
    · have q := k1 b u e
      have hlt := Heap.lt_size q
      show (sortedHeap (s1.heap.push (seqObj "list" vs.toArray 0)) s1.heap.objs.size vs out.toArray).get? b = some u
      rw [sortedHeap_old (Nat.ne_of_lt hlt) (by rw [size_push']; exact Nat.lt_succ_of_lt hlt)]
      exact Heap.get?_push_of_some _ q
    · have e1 : (vs.map tvS).mergeSort (PySem.W.dataLe false fun b : Str => PyData.str b) = l.mergeSort leT := by
        have e2 : (PySem.W.dataLe false fun b : Str => PyData.str b) = leT := PySem.W.dataLe_str (fun b : Str => b)
        rw [e2]
        exact srtT_of ((List.mergeSort_perm _ _).trans hperm) (List.pairwise_mergeSort leT_trans leT_total _)
      rw [e1] at eo
      exact eo
end
end DL

/-! Data layer, part 28: sorted(set(e)) of texts, sorted(e) of alike data. -/
namespace DL
open PySem L2 PyProof.Rows PySem.Froz
def SetXO (P : Program) (w : World) (a : Addr) (l : List Str) : HO := .ext fun h => SetX P w h a l
theorem setXO_new {w : World} {P : Program} {H : Hp} {h : Heap} {a : Addr} {l : List Str} (R : SetX P w h a l) : ObjOk P w H h a (SetXO P w a l) := by
  exact ⟨R, R.ob, fun h1 h2 p k => SetX.at p k⟩
theorem Vals.strs_at {its : List Value} : ∀ {ts : List Str}, Vals (ts.map V.str) its → ∀ (i : Nat) (v : Value), its[i]? = some v → ∃ k t, ts[i]? = some k ∧ v = .str k t := by
  intro ts
  induction ts generalizing its with
  | nil => intro h i v e; cases h; simp at e
  | cons x ts ih =>
    intro h i v e
    cases h with
    | cons r t =>
      obtain ⟨tk, rfl⟩ := r
      cases i with
      | zero => exact ⟨x, tk, rfl, (Option.some.inj e).symm⟩
      | succ i => exact ih t i v e
theorem each_vals : ∀ {out : List Value} {zs : List Str}, PySem.W.EachIs (fun v b => ∃ t, v = Value.str b t) out zs → Vals (zs.map V.str) out
  | _, _, .nil => .nil
  | _, _, .cons h t => .cons h (each_vals t)
section
variable {X : Cx} {g : G} {e : Expr} {pos : Pos}
def rSrtX (X : Cx) : List V → Hp → VK → Prop := fun vs H Q => ∃ (a : Addr) (l : List Str), vs = [V.ref a] ∧ H a = some (SetXO X.prog X.w a l) ∧ l.length ≤ 4000 ∧ ∀ p, H p = none → Q (.ref p) (L2.upd H p (.lst ((l.mergeSort leT).map V.str)))
theorem cr_srtX {k : Nat} (hr : Room k X.A) : CallR X (.builtin "sorted") (rSrtX X) := by
  intro pins s σ H vs us Q I r h
  obtain ⟨a, l, rfl, ha, hl, q⟩ := h
  have R : SetX X.prog X.w s.heap a l := (I.hok a _ ha).1
  rw [Vals.ref1 r]
  refine sortedX R hr.hd (by unfold scanBound; omega) (by have := hr.un; omega) fun s' p out c kk hg ho hp hpo eo => ?_
  have hv := each_vals eo
  have hz : ((l.mergeSort leT).map V.str).length ≤ sizeLine := by
    rw [List.length_map, List.length_mergeSort]
    exact fits_of_scanBound (by unfold scanBound; omega)
  have new : ObjOk X.prog X.w (L2.upd H p (.lst ((l.mergeSort leT).map V.str))) s'.heap p (.lst ((l.mergeSort leT).map V.str)) := ⟨hz, out, c, hv, hpo⟩
  exact ⟨.ref p, _, I.call' (ch := []) ho (Un.laid kk hp (I.hok.fresh hp)) (I.hok.laid kk hp new) (by rw [hg]; exact I.bare) (fun _ z => nomatch z), rfl, q p (I.hok.fresh hp)⟩
theorem tBs_mono {K : PySem.W.Frag} {ps : List Opd} {s : L2.St} {H : Hp} {Q Q' : List V → Hp → Prop} (h : tBs K g ps s H Q) (i : ∀ vs H, Q vs H → Q' vs H) : tBs K g ps s H Q' := by
  obtain ⟨F, r, R, h⟩ := h
  exact ⟨F, r, R, post_mono h fun zs r1 q F1 H1 vs sm R1 hv => i _ _ (q F1 H1 vs sm R1 hv)⟩
/-! sorted(e) -/
def alikeB (ds : List D) : Bool := ds.all fun d => ds.all fun d' => PySem.W.alike d.py d'.py
def isTupP : D → Bool
  | .tup (_ :: _) => true
  | _ => false
def noTup : D → Bool
  | .non => false
  | .tup _ => false
  | .obj _ _ => false
  | _ => true
def srtOk (ds : List D) : Bool := plAll ds && decide (dpAll ds ≤ 40) && alikeB ds && (ds.all isTupP || ds.all noTup)
/-- tuples that can be compared place by place up to where they differ -/
def lzB (ds : List D) : Bool := ds.all fun d => ds.all fun d' => lzP d.py d'.py
def srtZ (ds : List D) : Bool := plAll ds && decide (dpAll ds ≤ 40) && lzB ds
/-- the list sorted, if it can be -/
def srtR (ds : List D) : Option (List D) := if srtOk ds = true then some (ds.mergeSort (PySem.W.dataLe false D.py)) else if srtZ ds = true then some (ds.mergeSort (PySem.W.dataLe false D.py)) else none
theorem srt_of {ds r : List D} (e : srtR ds = some r) : r = ds.mergeSort (PySem.W.dataLe false D.py) ∧ plAll ds = true ∧ dpAll ds ≤ 40 ∧ SrtOk (ds.map D.py) := by
  unfold srtR at e
  split at e
  · next hok =>
    cases e
    unfold srtOk at hok
    simp only [Bool.and_eq_true] at hok
    obtain ⟨⟨⟨hp, hd⟩, hal⟩, hso⟩ := hok
    refine ⟨rfl, hp, of_decide_eq_true hd, .inl ⟨?_, ?_⟩⟩
    · intro d1 h1 d2 h2
      obtain ⟨b1, m1, rfl⟩ := List.mem_map.mp h1
      obtain ⟨b2, m2, rfl⟩ := List.mem_map.mp h2
      exact List.all_eq_true.mp (List.all_eq_true.mp hal b1 m1) b2 m2
    · rcases Bool.or_eq_true_iff.mp hso with z | z
      · refine .inl fun d hd => ?_
        obtain ⟨b, m, rfl⟩ := List.mem_map.mp hd
        have := List.all_eq_true.mp z b m
        unfold isTupP at this
        split at this
        · exact ⟨_, _, rfl⟩
        · cases this
      · refine .inr fun d hd => ?_
        obtain ⟨b, m, rfl⟩ := List.mem_map.mp hd
        have := List.all_eq_true.mp z b m
        cases b <;> first | (simp [noTup] at this; done) | (simp [D.py]; done)
  · split at e
    · next hok =>
      cases e
      unfold srtZ at hok
      simp only [Bool.and_eq_true] at hok
      obtain ⟨⟨hp, hd⟩, hal⟩ := hok
      refine ⟨rfl, hp, of_decide_eq_true hd, .inr fun d1 h1 d2 h2 => ?_⟩
      obtain ⟨b1, m1, rfl⟩ := List.mem_map.mp h1
      obtain ⟨b2, m2, rfl⟩ := List.mem_map.mp h2
      exact List.all_eq_true.mp (List.all_eq_true.mp hal b1 m1) b2 m2
    · cases e
theorem each_rd {K : PySem.W.Frag} {F : Hp} : ∀ {out : List Value} {ds : List D}, PySem.W.EachIs (fun v d => ∃ x, RelV x v ∧ RD K F x d) out ds → ∃ xs, Vals xs out ∧ RDs K F xs ds
  | _, _, .nil => ⟨[], .nil, .nil⟩
  | _, _, .cons h t => by
    obtain ⟨x, h1, h2⟩ := h
    obtain ⟨xs, h3, h4⟩ := each_rd t
    exact ⟨x :: xs, .cons h1 h3, .cons h2 h4⟩
theorem plAll_mem : ∀ {ds : List D}, plAll ds = true → ∀ d ∈ ds, d.pl = true
  | d :: ds, h, x, hx => by
    have h : (d.pl && plAll ds) = true := h
    obtain ⟨h1, h2⟩ := Bool.and_eq_true_iff.mp h
    rcases List.mem_cons.mp hx with rfl | hx
    · exact h1
    · exact plAll_mem h2 x hx
theorem dpAll_mem : ∀ {ds : List D}, ∀ d ∈ ds, d.dp ≤ dpAll ds
  | d :: ds, x, hx => by
    show x.dp ≤ max d.dp (dpAll ds)
    rcases List.mem_cons.mp hx with rfl | hx
    · omega
    · have := dpAll_mem x hx
      omega
end
end DL

/-! Data layer, part 29: sum(lists, []). -/
namespace DL
open PySem L2 PyProof.Rows
/-- a list object -/
abbrev lob (vs : Array Value) (c : Nat) : Obj := { cls := .type "list", dict := none, data := .seq vs c, slots := #[] }
def preL (cat : Nat → List Value) (i : Nat) : List Value := ((List.range i).map cat).flatten
theorem preL_succ (cat : Nat → List Value) (i : Nat) : preL cat (i + 1) = preL cat i ++ cat i := by
  unfold preL
  rw [List.range_succ, List.map_append, List.flatten_append]
  simp
theorem preL_le (cat : Nat → List Value) {i n : Nat} (h : i ≤ n) : (preL cat i).length ≤ (preL cat n).length := by
  induction n with
  | zero =>
    have : i = 0 := by omega
    subst this
    exact Nat.le_refl _
  | succ n ih =>
    by_cases e : i = n + 1
    · subst e; exact Nat.le_refl _
    · have := ih (by omega)
      rw [preL_succ, List.length_append]
      omega
section
variable {P : Program} {w : World} {A : Around} {R : Result → Shared → Prop} {I : Addr} {fp wr : List Addr} {G : Array GenState → Array GenState → Prop} {n : Nat} {Pv : Nat → Value → Prop} {St : Nat → Shared → Prop}
theorem sum_loopL (W : WalksS P w A.in1 I fp wr G n Pv St) (h0 : Heap) (cat : Nat → List Value) (hval : ∀ i v, Pv i v → ∃ a m, v = .ref a ∧ h0.get? a = some (lob (cat i).toArray m)) (S : Addr) (hSf : ∀ b ∈ fp, b < S) (hS0 : ∀ b o, h0.get? b = some o → b ∉ wr ∧ b ≠ S) (hz : (preL cat n).length ≤ sizeLine) :
    ∀ (k i : Nat) (s : Shared) (T : Addr) (c m : Nat), n - i = k → i ≤ n → St i s → (∀ b o, h0.get? b = some o → s.heap.get? b = some o) → s.heap.get? S = some (lob #[.ref T] c) → s.heap.get? T = some (lob (preL cat i).toArray m) → T ≠ S → T ∉ wr →
      (∀ s' T' m', Moved (S :: wr) G s s' → s'.heap.get? T' = some (lob (preL cat n).toArray m') → ((i = n ∧ T' = T) ∨ S < T') → R (.ok (.ret (.ref T'))) s') →
      codeAny (model P w) A (.builtin "sum.loop" ⟨[.ref I, .ref S, rawInt 2, rawInt 0], []⟩) R s := by
  have hSfp : S ∉ fp := fun h => Nat.lt_irrefl _ (hSf S h)
  have hSw : S ∉ wr := fun h => hSfp (W.sub _ h)
  have hsub : ∀ b ∈ wr, b ∈ S :: wr := fun b hb => List.mem_cons_of_mem _ hb
  intro k
  induction k with
  | zero =>
    intro i s T c m hk hi hst h0k hS hT hne hTw hR
    have hin : i = n := by omega
    subst hin
    refine codeAny_builtin PySem.F.entry_sum_loop ?_
    rw [Around.under_plainId PySem.F.plain_sum_loop _]
    show wpAny _ A.in1 (seqItems? (.ref S) >>= _) _ _ s
    refine wpAny_bind (wpAny_seqItems hS rfl ?_)
    show wpAny _ A.in1 (tryCatch (pyNext (.ref I)) _ >>= _) _ _ s
    refine wpAny_bind (wpAny_tryCatch (W.done s _ _ hst fun s' hm => ?_))
    exact wpAny_pure (hR s' T m (hm.mono hsub) (hm.heap T _ hTw hT) (.inl ⟨rfl, rfl⟩))
  | succ k ih =>
    intro i s T c m hk hi hst h0k hS hT hne hTw hR
    have hlt : i < n := by omega
    refine codeAny_builtin PySem.F.entry_sum_loop ?_
    rw [Around.under_plainId PySem.F.plain_sum_loop _]
    show wpAny _ A.in1 (seqItems? (.ref S) >>= _) _ _ s
    refine wpAny_bind (wpAny_seqItems hS rfl ?_)
    show wpAny _ A.in1 (tryCatch (pyNext (.ref I)) _ >>= _) _ _ s
    refine wpAny_bind (wpAny_tryCatch (W.item i s _ _ hlt hst fun v s' hP hst' hm => ?_))
    obtain ⟨a, ma, rfl, ha0⟩ := hval i v hP
    have hS' := hm.heap S _ hSw hS
    have hT' := hm.heap T _ hTw hT
    have h0k' : ∀ b o, h0.get? b = some o → s'.heap.get? b = some o := fun b o e => hm.heap b o (hS0 b o e).1 (h0k b o e)
    have ha := h0k' a _ ha0
    show wpAny _ A.in1 ((holding [Value.ref a] (binaryOp .Add (.ref T) (.ref a))).attempt >>= _) _ _ _
    have hle : (preL cat (i + 1)).length ≤ (preL cat n).length := preL_le cat hlt
    rw [preL_succ, List.length_append] at hle
    refine wpAny_bind (wpAny_attempt (wpAny_holding (PySem.P.add_list (n := m) (n2 := ma) hT' ha ?_ (by rw [List.size_toArray, List.size_toArray]; omega))))
    have eA : (preL cat i).toArray ++ (cat i).toArray = (preL cat (i + 1)).toArray := by rw [preL_succ]; simp
    rw [eA]
    show wpAny _ A.in1 (updateSeq S (fun _ => #[Value.ref s'.heap.objs.size]) >>= _) _ _ _
    have hSlt : S < s'.heap.objs.size := Heap.lt_size hS'
    have hS1 : (s'.heap.push (lob (preL cat (i + 1)).toArray 0)).get? S = some (lob #[.ref T] c) := Heap.get?_push_of_some _ hS'
    refine wpAny_bind (wpAny_updateSeq hS1 rfl ?_)
    have hS₂ := Heap.get?_update_self (Obj.mapSeq fun _ => #[Value.ref s'.heap.objs.size]) hS1 rfl
    refine wpAny_bind (wpAny_letGo ?_)
    have oth : ∀ b o, b ≠ S → s'.heap.get? b = some o → (((s'.heap.push (lob (preL cat (i + 1)).toArray 0)).update S (Obj.mapSeq fun _ => #[Value.ref s'.heap.objs.size])).update S (Obj.mapSeq fun _ => #[Value.ref s'.heap.objs.size])).get? b = some o := fun b o hb e =>
      (Heap.get?_update_other _ _ (Ne.symm hb)).trans ((Heap.get?_update_other _ _ (Ne.symm hb)).trans (Heap.get?_push_of_some _ e))
    have hnew : (((s'.heap.push (lob (preL cat (i + 1)).toArray 0)).update S (Obj.mapSeq fun _ => #[Value.ref s'.heap.objs.size])).update S (Obj.mapSeq fun _ => #[Value.ref s'.heap.objs.size])).get? s'.heap.objs.size = some (lob (preL cat (i + 1)).toArray 0) :=
      (Heap.get?_update_other _ _ (Nat.ne_of_lt hSlt)).trans ((Heap.get?_update_other _ _ (Nat.ne_of_lt hSlt)).trans (Heap.get?_push_size _ rfl))
    refine wpAny_bind (wpAny_updateSeq hS₂ rfl (wpAny_pure ⟨plainId_quiet PySem.F.plain_sum_loop _, ih (i + 1) _ s'.heap.objs.size _ 0 (by omega) hlt (W.frame _ s' _ _ hst' (by first | exact Nat.le_refl _ | exact Nat.le_succ _ | omega) fun b hb o e => ?_) (fun b o e => oth b o (hS0 b o e).2 (h0k' b o e)) (Heap.get?_update_self _ hS₂ rfl) hnew (Nat.ne_of_gt hSlt) (fun z => ?_) fun s'' T'' m'' hm'' hT'' hor => ?_⟩))
    · exact oth b o (fun h : b = S => hSfp (by rw [← h]; exact hb)) e
    · exact Nat.lt_irrefl _ (Nat.lt_trans hSlt (hSf _ (W.sub _ z)))
    · refine hR s'' T'' m'' (Moved.trans W.gtrans ((hm.mono hsub).then_heap (by first | exact Nat.le_refl _ | exact Nat.le_succ _ | omega) fun b o hb e => ?_) hm'') hT'' ?_
      · exact oth b o (fun h : b = S => hb (by rw [h]; exact List.mem_cons_self)) e
      · rcases hor with ⟨_, q⟩ | q
        · exact .inr (by rw [q]; exact hSlt)
        · exact .inr q
end
namespace Sm
theorem args2 (a b : Value) : argsOk "sum" ({ pos := [a, b], kw := [] } : Args) := by unfold argsOk; kernel_rfl
theorem sub_bytearray : isSubtype (.type "list") (.type "bytearray") = pure false := by rw [isSubtype_type]; kernel_rfl
end Sm
section
variable {P : Program} {w : World} {A : Around} {E : Value → Shared → Prop} {s : Shared}
theorem call_sumL {l b : Addr} {its : List Value} {vss : List (List Value)} {c0 : Nat} {Q : Value → Shared → Prop} (hh : A.handled = none) (hl : s.heap.IsList l its.toArray) (hb : s.heap.get? b = some (lob (#[] : Array Value) c0)) (hlen : its.length = vss.length)
    (hval : ∀ (i : Nat) (v : Value), its[i]? = some v → ∃ a m, v = Value.ref a ∧ s.heap.get? a = some (lob (vss[i]?.getD []).toArray m)) (hz : vss.flatten.length ≤ sizeLine)
    (h : ∀ (s' : Shared) (T m : Nat), (∀ b o, s.heap.get? b = some o → s'.heap.get? b = some o) → s'.gens = s.gens → s'.os = s.os → s'.heap.get? T = some (lob vss.flatten.toArray m) → ((vss = [] ∧ T = b) ∨ s.heap.objs.size ≤ T) → Q (.ref T) s') :
    wpAny (model P w) A (call (.builtin "sum") [.ref l, .ref b]) Q E s := by
  refine call_function_tree PySem.F.kind_sum PySem.F.plain_sum PySem.F.entry_sum (Sm.args2 _ _) ?_
  unfold Builtin.«sum»
  simp only [List.length_cons, List.length_nil]
  rw [if_neg (by decide)]
  refine wpAny_bind (wpAny_of_eq (show Builtin.Builtins.bindParams "sum" ["start"] 0 ⟨[.ref b], []⟩ = pure [some (.ref b)] from rfl) ?_)
  refine wpAny_bind (wpAny_pyIter_list hl ?_)
  refine wpAny_bind (wpAny_pure ?_)
  have hb1 : (s.heap.push { cls := .type "list_iterator", data := .fields #[.ref l, .int 0 0] }).get? b = some (lob #[] c0) := Heap.get?_push_of_some _ hb
  have hTb : Shared.TypeIs { s with heap := s.heap.push { cls := .type "list_iterator", data := .fields #[.ref l, .int 0 0] } } (.ref b) "list" := ⟨_, hb1, rfl⟩
  simp only [List.forIn_cons, List.forIn_nil]
  refine wpAny_bind (wpAny_bind (wpAny_bind (wpAny_isInstance (T := "list") (b := false) hTb PySem.F.sub_list_str ?_)))
  simp only [Bool.false_eq_true, if_false]
  refine wpAny_pure (wpAny_bind (wpAny_bind (wpAny_isInstance (T := "list") (b := false) hTb PySem.F.sub_list_bytes ?_)))
  simp only [Bool.false_eq_true, if_false]
  refine wpAny_pure (wpAny_bind (wpAny_bind (wpAny_isInstance (T := "list") (b := false) hTb Sm.sub_bytearray ?_)))
  simp only [Bool.false_eq_true, if_false]
  refine wpAny_pure (wpAny_pure ?_)
  refine wpAny_bind (wpAny_newObj_type ?_)
  have hlo : l < s.heap.objs.size := by
    obtain ⟨o, ho, _⟩ := hl
    exact Heap.lt_size ho
  have hz1 : (s.heap.push { cls := .type "list_iterator", data := .fields #[.ref l, .int 0 0] }).objs.size = s.heap.objs.size + 1 := size_push' _ _
  have hblt : b < s.heap.objs.size := Heap.lt_size hb
  have epre : ∀ n, n ≤ vss.length → preL (fun i => vss[i]?.getD []) n = (vss.take n).flatten := fun n hn => by
    induction n with
    | zero => simp [preL]
    | succ n ih =>
      rw [preL_succ, ih (by omega), List.take_add_one, List.flatten_append]
      have : n < vss.length := by omega
      simp [List.getElem?_eq_getElem this]
  have epn : preL (fun i => vss[i]?.getD []) its.toArray.size = vss.flatten := by
    rw [List.size_toArray, hlen, epre _ (Nat.le_refl _), List.take_length]
  have hneI : l ≠ s.heap.objs.size := Nat.ne_of_lt hlo
  refine wpAny_pure ⟨plainId_quiet PySem.F.plain_sum_loop _, sum_loopL ((Walks.list (A := A.in1) (by simp [hh]) s.heap.objs.size l hneI its.toArray).toS) s.heap (fun i => vss[i]?.getD []) (fun i v hv => ?_) _ (fun x hx => ?_) (fun x o e => ?_) (by rw [epn]; exact hz) its.toArray.size 0 _ b 0 c0 (by omega) (Nat.zero_le _) ?_ (fun x o e => ?_) (Heap.get?_push_size _ rfl) ?_ ?_ ?_ fun s' T m hm hT hor => ?_⟩
  · exact hval i v (by simpa using hv)
  · show x < (s.heap.push _).objs.size
    rw [hz1]
    rcases List.mem_cons.mp hx with rfl | hx
    · exact Nat.lt_succ_self _
    · rw [List.mem_singleton.mp hx]; exact Nat.lt_succ_of_lt hlo
  · have hx := Heap.lt_size e
    refine ⟨fun z => ?_, fun z => ?_⟩
    · rw [List.mem_singleton.mp z] at hx
      exact Nat.lt_irrefl _ hx
    · have z : x = (s.heap.push _).objs.size := z
      rw [hz1] at z
      rw [z] at hx
      exact absurd hx (Nat.not_lt_of_le (Nat.le_succ _))
  · exact ⟨⟨_, Heap.get?_push_of_some _ (Heap.get?_push_size _ rfl), rfl, rfl⟩, (hl.push _).push _⟩
  · exact Heap.get?_push_of_some _ (Heap.get?_push_of_some _ e)
  · exact Heap.get?_push_of_some _ (by simpa [preL] using hb1)
  · intro z
    have z : b = (s.heap.push _).objs.size := z
    rw [hz1] at z
    rw [z] at hblt
    exact absurd hblt (Nat.not_lt_of_le (Nat.le_succ _))
  · intro z
    have e := List.mem_singleton.mp z
    rw [e] at hblt
    exact Nat.lt_irrefl _ hblt
  · rw [epn] at hT
    refine h s' T m (fun x o e => ?_) hm.gens hm.os hT ?_
    · have hx := Heap.lt_size e
      refine hm.heap x o (fun z => ?_) (Heap.get?_push_of_some _ (Heap.get?_push_of_some _ e))
      rcases List.mem_cons.mp z with z | z
      · have z : x = (s.heap.push _).objs.size := z
        rw [hz1] at z
        rw [z] at hx
        exact absurd hx (Nat.not_lt_of_le (Nat.le_succ _))
      · have e := List.mem_singleton.mp z
        rw [e] at hx
        exact Nat.lt_irrefl _ hx
    · rcases hor with ⟨q1, q2⟩ | q
      · refine .inl ⟨List.eq_nil_of_length_eq_zero ?_, q2⟩
        rw [← hlen, ← List.size_toArray]
        exact q1.symm
      · refine .inr ?_
        have q : (s.heap.push _).objs.size < T := q
        rw [hz1] at q
        exact Nat.le_of_lt (Nat.lt_of_succ_lt q)
end
def lstsOf : List D → Option (List (List D))
  | [] => some []
  | .lst xs :: ds => (lstsOf ds).map fun xss => xs :: xss
  | _ :: _ => none
theorem lstsOf_map : ∀ xss : List (List D), lstsOf (xss.map D.lst) = some xss
  | [] => rfl
  | xs :: xss => by
    show (lstsOf (xss.map D.lst)).map _ = _
    rw [lstsOf_map xss]
    rfl
def semSumL : D → Option (List D)
  | .lst ds => (lstsOf ds).bind fun xss => if xss.flatten.length ≤ 100000 then some xss.flatten else none
  | _ => none
theorem vals_app {xs ys : List V} {us vs : List Value} (h1 : Vals xs us) (h2 : Vals ys vs) : Vals (xs ++ ys) (us ++ vs) := h1.append h2
section
variable {X : Cx} {g : G} {pins : List (Addr × Obj)} {s : Shared} {F H : Hp} {sg : L2.St}
theorem lists_vals (I : L2.Inv X pins sg H s) (sub : Same F H) : ∀ {ds : List D} {vs : List V} {its : List Value} {xss : List (List D)}, RDs X.K F vs ds → Vals vs its → lstsOf ds = some xss →
    ∃ (vss : List (List Value)) (ws : List V), its.length = vss.length ∧ (∀ (i : Nat) (v : Value), its[i]? = some v → ∃ a m, v = Value.ref a ∧ s.heap.get? a = some (lob (vss[i]?.getD []).toArray m)) ∧ Vals ws vss.flatten ∧ RDs X.K F ws xss.flatten
  | [], _, _, _, h, hv, e => by
    cases h; cases hv; cases e
    exact ⟨[], [], rfl, fun i v q => by simp at q, .nil, .nil⟩
  | d :: ds, _, _, _, h, hv, e => by
    cases h with
    | cons h1 h2 =>
      cases hv with
      | cons r t =>
        cases d with
        | lst xs =>
          obtain ⟨xss', e1, rfl⟩ := Option.map_eq_some_iff.mp e
          obtain ⟨vss, ws, a1, a2, a3, a4⟩ := lists_vals I sub h2 t e1
          cases h1 with
          | lst b1 b2 =>
            cases r
            obtain ⟨z, its1, n, rv, hl, e2⟩ := I.lstM (sub _ _ b1)
            refine ⟨its1 :: vss, _ ++ ws, by rw [List.length_cons, List.length_cons, a1], fun i v q => ?_, vals_app rv a3, RDs.app b2 a4⟩
            cases i with
            | zero =>
              cases q
              exact ⟨_, n, rfl, e2⟩
            | succ i => exact a2 i v q
        | _ => cases e
def rSm (K : PySem.W.Frag) (g : G) : List V → Hp → VK → Prop := fun xs H Q => ∃ F s r x p d0 ys H1, xs = [x, .ref p] ∧ H = L2.upd H1 p (.lst []) ∧ H1 p = none ∧ Rel K g F H1 s r ∧ RB K F H1 x d0 ∧ semSumL d0 = some ys ∧ PO K g F s Q (.ow ys) r
theorem cr_sumL (hc : X.calm = true) : CallR X (.builtin "sum") (rSm X.K g) := by
  intro pins s sg H xs us Q I rv h
  obtain ⟨F, s0, r, x, p, d0, ys, H1, rfl, rfl, np, R, hx, e, q⟩ := h
  unfold semSumL at e
  split at e
  · next ds0 =>
    obtain ⟨xss, e1, e2⟩ := Option.bind_eq_some_iff.mp e
    split at e2
    · next hl =>
      cases e2
      obtain ⟨a, vs, rfl, k1, k2⟩ := hx.lst R.sub
      obtain ⟨u1, u2, rfl, r1, r2⟩ := vals2 rv
      cases r1
      cases r2
      have R2 : Rel X.K g F (L2.upd H1 p (.lst [])) s0 r := R.laid np
      have k1' : (L2.upd H1 p (.lst [])) a = some (.lst vs) := by
        rw [upd_ne (fun z => by rw [z, np] at k1; cases k1)]
        exact k1
      obtain ⟨its, rvs, hli, hz⟩ := I.list (show SqL X.K _ a vs from .of k1')
      obtain ⟨z, itb, nb, rb, hlb, eb⟩ := I.lstM (upd_same (H := H1) (a := p) (o := .lst []))
      cases rb
      obtain ⟨vss, ws, c1, c2, c3, c4⟩ := lists_vals I R2.sub k2 rvs e1
      have hfl : vss.flatten.length = xss.flatten.length := by rw [← c3.length, RDs.length c4]
      have hsz : vss.flatten.length ≤ sizeLine := by rw [hfl, sizeLine_eq]; omega
      refine call_sumL (I.ok.hd hc) hli.isList eb c1 c2 hsz fun s' T m kk hg ho hT hor => ?_
      have hlen : ws.length ≤ sizeLine := by rw [c3.length]; exact hsz
      rcases hor with ⟨q1, q2⟩ | hp
      · subst q1
        subst q2
        have ex : xss.flatten = [] := List.eq_nil_of_length_eq_zero (by rw [← hfl]; rfl)
        rw [ex] at q
        exact ⟨.ref T, _, I.call' (ch := []) ho (Un.kept kk) (I.hok.kept kk) (by rw [hg]; exact I.bare) (fun _ z => nomatch z), rfl, PO.new R .nil q T np⟩
      · have new : ObjOk X.prog X.w (L2.upd (L2.upd H1 p (.lst [])) T (.lst ws)) s'.heap T (.lst ws) := ⟨hlen, vss.flatten, m, c3, hT⟩
        exact ⟨.ref T, _, I.call' (ch := []) ho (Un.laid kk hp (I.hok.fresh hp)) (I.hok.laid kk hp new) (by rw [hg]; exact I.bare) (fun _ z => nomatch z), rfl, PO.new R2 c4 q T (I.hok.fresh hp)⟩
    · cases e2
  · cases e
def sumO (p : Opd) : En → Rs OV := fun r => (p.run r).bind fun x r1 => ofO ((look r1 x).bind fun d => (semSumL d).map OV.ow) r1
theorem do_sumL {e : Expr} {p : Opd} {pn pl pos : Pos} (hc : X.calm = true) (hm : X.mg "sum" = none) (ha : DB X g e p) (hg : Gl X "sum" := by rfl)
    (he : starEach [e, .List [] pl] X.env = (false, eval e X.env) :: starEach [.List [] pl] X.env := by rfl) (he2 : starEach [.List [] pl] X.env = (false, eval (.List [] pl) X.env) :: starEach [] X.env := by rfl) (hpl : (backTo pos (starEach [.List [] pl] X.env)).any (·.1) = false := by rfl) :
    DO X g (.Call (.Name "sum" pn) [e, .List [] pl] [] pos) (sumO p) := by
  refine PE.imp (pe_callB (cr_sumL (g := g) hc) hg hm (by decide +kernel) (pa_cons ha (pa_cons (pe_lst pa_nil) pa_nil he2) he) (he := he) (hpl := hpl)) fun s H Q h => ?_
  obtain ⟨F, r, R, h⟩ := h
  refine ⟨F, r, R, post_mono (post_bind h) fun z r1 q F1 H1 v sm R1 hv => ?_⟩
  obtain ⟨o, e, q⟩ := post_ofO q
  obtain ⟨dx, e1, e2⟩ := Option.bind_eq_some_iff.mp e
  obtain ⟨ys, e3, rfl⟩ := Option.map_eq_some_iff.mp e2
  refine ⟨Nat.zero_le _, fun p np => ?_⟩
  exact ⟨F1, s, r1, v, p, dx, ys, H1, rfl, rfl, np, R1, look_ok R1 hv e1, e3, fun F2 H2 v2 s2 R2 h2 => q F2 H2 v2 (sm.trans s2) R2 h2⟩
end
end DL

/-! Data layer, part 30: list(text). -/
namespace DL
open PySem L2
def semListS : List D → Option (List D)
  | [.str x] => if x.length ≤ 1000000 then some (signs x) else none
  | _ => none
theorem signs_vals {x : Str} {acc : Array Value} (h : ItemsOf (SignAt x) acc x.cps.size) : Vals (x.cps.toList.map fun c => V.str ⟨#[c]⟩) acc.toList := by
  obtain ⟨h1, h2⟩ := h
  have key : ∀ (cs : List Nat) (us : List Value), us.length = cs.length → (∀ (j : Nat) (v : Value), us[j]? = some v → ∃ c t, cs[j]? = some c ∧ v = .str ⟨#[c]⟩ t) → Vals (cs.map fun c => V.str ⟨#[c]⟩) us := by
    intro cs
    induction cs with
    | nil =>
      intro us e _
      have : us = [] := List.eq_nil_of_length_eq_zero (by simpa using e)
      rw [this]
      exact .nil
    | cons c cs ih =>
      intro us e k
      cases us with
      | nil => simp at e
      | cons u us =>
        obtain ⟨c', t, e1, rfl⟩ := k 0 u rfl
        cases e1
        exact .cons ⟨t, rfl⟩ (ih us (by simpa using e) fun j v q => k (j + 1) v q)
  refine key _ _ (by rw [Array.length_toList, h1, Array.length_toList]) fun j v q => ?_
  obtain ⟨c, t, e1, e2⟩ := h2 j v (by simpa using q)
  exact ⟨c, t, by simpa using e1, e2⟩
section
variable {X : Cx} {g : G}
theorem signs_rd {K : PySem.W.Frag} {F : Hp} (x : Str) : RDs K F (x.cps.toList.map fun c => V.str ⟨#[c]⟩) (signs x) := by
  unfold signs
  induction x.cps.toList with
  | nil => exact .nil
  | cons c cs ih => exact .cons (.str _) ih
theorem co_listS (hc : X.calm = true) : CallR X (.type "list") (rON X.K g semListS) := by
  intro pins s sg H xs us Q I rv h
  obtain ⟨F, s0, r, ds, d, R, hx, e, q⟩ := h
  unfold semListS at e
  split at e
  · next x =>
    split at e
    · next hl =>
      cases e
      obtain ⟨v, rfl, h1⟩ := hx.one
      cases h1.flat (fun _ => nofun)
      obtain ⟨u, rfl, ru⟩ := vals1 rv
      obtain ⟨t, rfl⟩ := ru
      have hz : x.cps.size ≤ sizeLine := Nat.le_trans hl mil_line
      refine call_list_str (I.ok.hd hc) x t (hn := hz) fun h' tk acc c' hk hS hacc => ?_
      have hv := signs_vals hacc
      have new : ObjOk X.prog X.w (L2.upd H s.heap.objs.size (.lst (x.cps.toList.map fun c => V.str ⟨#[c]⟩))) h' s.heap.objs.size (.lst (x.cps.toList.map fun c => V.str ⟨#[c]⟩)) := ⟨by rw [List.length_map, Array.length_toList]; exact hz, acc.toList, c', hv, by simpa using hS⟩
      exact ⟨.ref _, _, I.laid (t' := tk) hk (Nat.le_refl _) new, rfl, PO.new R (signs_rd x) q _ (I.hok.fresh (Nat.le_refl _))⟩
    · cases e
  · cases e
end
end DL

/-! Data layer, part 31: dicts that a name owns, with tuples as keys. -/
namespace DL
open PySem L2
section
variable {X : Cx} {g : G} {pos : Pos}
variable {pt pt2 px py pd pl : Pos} {x y : Str} {kt k2 i j : Nat}
/-! keys -/
mutual
theorem RD.nested {pins : List (Addr × Obj)} {s : Shared} {H : Hp} {sg : L2.St} (I : L2.Inv X pins sg H s) : ∀ (d : D) (v : V) (u : Value) (k : NestedKey), d.nk = some k → RD X.K H v d → RelV v u → NestedIs s.heap k u
  | .non, _, _, _, e, h, r => by cases h; cases e; cases r; exact .none
  | .bl b, _, _, _, e, h, r => by cases h; cases e; cases r; exact .bool rfl
  | .int i, _, _, _, e, h, r => by cases h; cases e; obtain ⟨t, rfl⟩ := r; exact .int i t
  | .str x, _, _, _, e, h, r => by cases h; cases e; obtain ⟨t, rfl⟩ := r; exact .text x t
  | .tup ds, _, _, _, e, h, r => by
    have e : (nks ds).map NestedKey.tup = some _ := e
    obtain ⟨ks, e1, rfl⟩ := Option.map_eq_some_iff.mp e
    cases h with
    | tup h1 h2 =>
      cases r
      obtain ⟨its, rv, ⟨o, ho, hc, n, hd⟩, _⟩ := I.tuple h1
      refine .tup ho hc hd ?_
      have := RDs.nested I ds _ its ks e1 h2 rv
      simpa using this
  | .lst ds, _, _, _, e, _, _ => by cases e
  | .dic ds, _, _, _, e, _, _ => by cases e
  | .scr ns, _, _, _, e, _, _ => by cases e
  | .obj _ _, _, _, _, e, _, _ => by cases e
theorem RDs.nested {pins : List (Addr × Obj)} {s : Shared} {H : Hp} {sg : L2.St} (I : L2.Inv X pins sg H s) : ∀ (ds : List D) (vs : List V) (us : List Value) (ks : List NestedKey), nks ds = some ks → RDs X.K H vs ds → Vals vs us → NestedAll s.heap ks us
  | [], _, _, _, e, h, r => by cases h; cases e; cases r; exact .nil
  | d :: ds, _, _, _, e, h, r => by
    have e : (d.nk.bind fun k => (nks ds).map fun ks => k :: ks) = some _ := e
    obtain ⟨k, e1, e2⟩ := Option.bind_eq_some_iff.mp e
    obtain ⟨ks, e3, rfl⟩ := Option.map_eq_some_iff.mp e2
    cases h with
    | cons h1 h2 =>
      cases r with
      | cons r1 r2 => exact .cons (RD.nested I d _ _ k e1 h1 r1) (RDs.nested I ds _ _ ks e3 h2 r2)
end
def KeyAt (K : PySem.W.Frag) (H : Hp) (k : NestedKey) (b : Addr) : Prop := ∃ kd : D, RD K H (.ref b) kd ∧ kd.nk = some k ∧ k.depth ≤ 8
theorem KeyAt.is {pins : List (Addr × Obj)} {s : Shared} {H : Hp} {sg : L2.St} (I : L2.Inv X pins sg H s) {k : NestedKey} {b : Addr} (h : KeyAt X.K H k b) : (nestedKind X.prog X.w).is s.heap k b := by
  obtain ⟨kd, h1, h2, h3⟩ := h
  exact ⟨RD.nested I kd _ _ k h2 h1 rfl, h3⟩
/-! by data -/
def D.key8 : D → Option NestedKey
  | .tup ds => (nks ds).bind fun ks => if (NestedKey.tup ks).depth ≤ 8 then some (.tup ks) else none
  | _ => none
theorem key8_at {K : PySem.W.Frag} {F H : Hp} {v : V} {d : D} {k : NestedKey} (sub : Same F H) (h : RD K F v d) (e : d.key8 = some k) : ∃ b, v = .ref b ∧ KeyAt K H k b ∧ RD K F (.ref b) d ∧ d.nk = some k ∧ k.depth ≤ 8 := by
  cases d with
  | tup ds =>
    obtain ⟨ks, e1, e2⟩ := Option.bind_eq_some_iff.mp (show ((nks ds).bind fun ks => if (NestedKey.tup ks).depth ≤ 8 then some (NestedKey.tup ks) else none) = some k from e)
    split at e2
    · next hd =>
      cases e2
      have hn : (D.tup ds).nk = some (.tup ks) := by show (nks ds).map NestedKey.tup = _; rw [e1]; rfl
      have h0 := h
      cases h with
      | tup h1 h2 => exact ⟨_, rfl, ⟨.tup ds, RD.mono sub _ h0, hn, hd⟩, h0, hn, hd⟩
    · cases e2
  | _ => cases e
theorem RDm.keys {K : PySem.W.Frag} {F H : Hp} (sub : Same F H) : ∀ {kvs : List (D × D)} {xs : List (NestedKey × Addr × V)}, RDm K F xs kvs → ∀ q ∈ xs, KeyAt K H q.1 q.2.1
  | [], _, h, q, hq => by cases h; cases hq
  | (kd, d) :: kvs, _, h, q, hq => by
    cases h with
    | cons h1 h2 h3 h4 =>
      rcases List.mem_cons.mp hq with rfl | hq
      · exact ⟨kd, RD.mono sub _ h1, h2.1, h2.2⟩
      · exact RDm.keys sub h4 q hq
def odHas (kvs : List (D × D)) (k : NestedKey) : Bool := kvs.any fun p => decide (p.1.nk = some k)
theorem RDm.len {K : PySem.W.Frag} {F : Hp} : ∀ {kvs : List (D × D)} {xs : List (NestedKey × Addr × V)}, RDm K F xs kvs → xs.length = kvs.length
  | [], _, h => by cases h; rfl
  | (kd, d) :: kvs, _, h => by
    cases h with
    | cons h1 h2 h3 h4 => rw [List.length_cons, List.length_cons, RDm.len h4]
theorem RDm.snoc {K : PySem.W.Frag} {F : Hp} {k : NestedKey} {b : Addr} {v : V} {kd d : D} (a1 : RD K F (.ref b) kd) (a2 : kd.nk = some k ∧ k.depth ≤ 8) (a3 : RD K F v d) : ∀ {kvs : List (D × D)} {xs : List (NestedKey × Addr × V)}, RDm K F xs kvs → RDm K F (xs ++ [(k, b, v)]) (kvs ++ [(kd, d)])
  | [], _, h => by cases h; exact .cons a1 a2 a3 .nil
  | (_, _) :: kvs, _, h => by
    cases h with
    | cons h1 h2 h3 h4 => exact .cons h1 h2 h3 (RDm.snoc a1 a2 a3 h4)
/-- e not in d, e in d -/
def inOd (n : Bool → Bool) (i : Nat) (f : En → Rs D) : En → Rs Bool := fun r => (f r).bind fun d r1 =>
  match r1[i]? with
  | some (some (.od kvs)) => ofO (d.key8.map fun k => n (odHas kvs k)) r1
  | _ => .bad
variable {a : Expr} {px : Pos} {x : Str} {i : Nat}
/-- d[e] = f, a new key -/
def putOd (i : Nat) (fi f : En → Rs D) : En → SRs := fun r => thenS (f r) fun d r1 => thenS (fill r1 i) fun _ r1 => thenS (fi r1) fun kd r2 =>
  match r2[i]? with
  | some (some (.od kvs)) => match kd.key8 with
    | some k => if odHas kvs k = false ∧ kvs.length ≤ 1000000 then .nx (r2.set i (some (.od (kvs ++ [(kd, d)])))) else .bad
    | none => .bad
  | _ => .bad
variable {ei e : Expr} {p : Pos}
end
end DL

/-! Data layer, part 32: comprehensions with any number of fors, lists and sets. -/
namespace DL
open PySem L2 PySem.Spec
abbrev FF : Value → Shared → Prop := fun _ _ => False
section
variable {prog : Program} {w : World} {A : Around} {R : Result → Shared → Prop} {s : Shared} {b : Bool} {elt : Expr} {gs : List Comprehension} {scope : Scope} {pos : Pos} {depth : Nat} {it acc : Value} {env : Env} {g : Comprehension}
end
end DL

/-! Data layer, part 33: the clauses of a comprehension, one behind the other. -/
namespace DL
open PySem L2 PySem.Spec
abbrev GRd := TI × TG × TT × List Nat
/-- the clauses from one on have these readings -/
def Al (Y : Cx) (gs : List Comprehension) : Nat → List GRd → List Nat → Prop
  | k, [], _ => gs[k]? = none
  | k, (wi, g, tt, vs) :: rest, vp => ∃ cl, gs[k]? = some cl ∧ PI Y cl.target cl.iter wi ∧ PG Y cl.target g ∧ PTs Y cl.ifs tt ∧ (∀ x, foldedSetIterable cl.iter Y.env x = pure x) ∧ (∀ i ∈ vs, i ∈ vp) ∧ Al Y gs (k + 1) rest vs
end DL

/-! Data layer, part 34: the comprehension as a value. -/
namespace DL
open PySem L2 PySem.Spec PyProof.Rows
section
variable {X : Cx}
end
end DL

/-! Data layer, part 35: lists, sets of texts. -/
namespace DL
open PySem L2 PySem.Spec PyProof.Rows PySem.Froz
section
variable {P : Program} {w : World} {A : Around} {E : Value → Shared → Prop} {s : Shared} {a : Addr} {l : List Str}
end
section
variable {Y : Cx} {elt : Expr} {te : TE} {D : Addr}
end
section
variable {X : Cx} {elt tg iter : Expr} {ifs : List Expr} {gs : List Comprehension} {scope : Scope} {own : List (PySem.Str × Nat)} {pos : Pos} {wi : TI} {g : TG} {tt : TT} {te : TE} {rest : List GRd}
end
end DL

/-! Data layer, part 36: comprehensions with any number of fors, by data. -/
namespace DL
open PySem L2
/-- a clause: its source, its store, its test, the slots of its and later targets, its target's slots -/
structure GDt where
  f : En → Rs (List D)
  h : D → En → Option En
  t : En → Rs Bool
  vs : List Nat
  ks : List Nat
/-- the reading of a clause -/
def rdC (K : PySem.W.Frag) (g : G) (c : GDt) : GRd := (fun s H Q => ∃ g' : G, Blk g g' ∧ tID K g' c.f s H Q, fun v s H Q => ∃ g' : G, Blk g g' ∧ tGD K g' c.ks c.h v s H Q, fun s H Q => ∃ g' : G, Blk g g' ∧ tTD K g' c.t s H Q, c.vs)
section
variable {g : G} {K : PySem.W.Frag} {A : Addr} {AR : Hp → List D → HO → Prop} {Em : Hp → V → HO → HO → Prop} {ok : List D → D → Bool} {fe : En → Rs D}
end
end DL

/-! Data layer, part 37: [.. for .. for ..], sorted({.. for .. for ..}). -/
namespace DL
open PySem L2 PySem.Froz
section
variable {X : Cx} {g : G}
/-- the later clauses have these functions -/
def AlD (X : Cx) (g : G) (scope : Scope) : List Comprehension → List GDt → List Nat → Prop
  | [], [], _ => True
  | cl :: cls, c :: cs, vp => (∀ (s : Shared) (H : Hp) (C : Addr) (cx : List (Str × Addr)) (fp : List Addr) (g' : G), Blk g g' → DI (X.blk s H scope (compEnvC scope cx C X.env) fp) g' cl.target cl.iter c.f) ∧
      (∀ (s : Shared) (H : Hp) (C : Addr) (cx : List (Str × Addr)) (fp : List Addr) (g' : G), Blk g g' → DG (X.blk s H scope (compEnvC scope cx C X.env) fp) g' cl.target c.ks c.h) ∧
      (∀ (s : Shared) (H : Hp) (C : Addr) (cx : List (Str × Addr)) (fp : List Addr) (g' : G), Blk g g' → PTs (X.blk s H scope (compEnvC scope cx C X.env) fp) cl.ifs (tTD X.K g' c.t)) ∧
      (∀ env x, foldedSetIterable cl.iter env x = pure x) ∧ (∀ i ∈ c.vs, i ∈ vp) ∧ (∀ p ∈ g.B, p.1 ∉ c.vs) ∧ (∀ i ∈ c.ks, i ∈ c.vs) ∧ cl.is_async = 0 ∧ AlD X g scope cls cs c.vs
  | _, _, _ => False
theorem AlD.al {scope : Scope} : ∀ (gs : List Comprehension) (cs : List GDt) (vp : List Nat), AlD X g scope gs cs vp → ∀ (pre : List Comprehension) (s : Shared) (H : Hp) (C : Addr) (cx : List (Str × Addr)) (fp : List Addr),
    Al (X.blk s H scope (compEnvC scope cx C X.env) fp) (pre ++ gs) pre.length (cs.map (rdC X.K g)) vp
  | [], [], vp, _, pre, s, H, C, cx, fp => by
    show (pre ++ [])[pre.length]? = none
    simp
  | cl :: cls, c :: cs, vp, h, pre, s, H, C, cx, fp => by
    obtain ⟨h1, h2, h3, h4, h5, h6, h7, h8, h9⟩ := h
    have rec1 := AlD.al cls cs c.vs h9 (pre ++ [cl]) s H C cx fp
    rw [List.append_assoc, List.length_append] at rec1
    refine ⟨cl, by simp, ⟨fun pins s2 σ H2 Q I ⟨g', eg, q⟩ => (h1 s H C cx fp g' eg).run pins s2 σ H2 Q I q⟩, ⟨fun pins s2 σ H2 v u Q I rv ⟨g', eg, q⟩ => (h2 s H C cx fp g' eg).run pins s2 σ H2 v u Q I rv q⟩, ⟨fun pins s2 σ H2 Q I ⟨g', eg, q⟩ => (h3 s H C cx fp g' eg).run pins s2 σ H2 Q I q⟩, h4 _, h5, rec1⟩
  | [], _ :: _, _, h, _, _, _, _, _, _ => h.elim
  | _ :: _, [], _, h, _, _, _, _, _, _ => h.elim
theorem AlD.z {scope : Scope} : ∀ (gs : List Comprehension) (cs : List GDt) (vp : List Nat), AlD X g scope gs cs vp → ∀ c ∈ gs, c.is_async = 0
  | [], _, _, _, c, hc => by cases hc
  | cl :: cls, c :: cs, vp, h, d, hd => by
    obtain ⟨_, _, _, _, _, _, _, h8, h9⟩ := h
    rcases List.mem_cons.mp hd with rfl | hd
    · exact h8
    · exact AlD.z cls cs c.vs h9 d hd
  | _ :: _, [], _, h, _, _ => h.elim
theorem AlD.bk {scope : Scope} : ∀ (gs : List Comprehension) (cs : List GDt) (vp : List Nat), AlD X g scope gs cs vp → ∀ c ∈ cs, (∀ p ∈ g.B, p.1 ∉ c.vs) ∧ ∀ i ∈ c.ks, i ∈ c.vs
  | _, [], _, _, c, hc => by cases hc
  | cl :: cls, c :: cs, vp, h, d, hd => by
    obtain ⟨_, _, _, _, _, h6, h7, _, h9⟩ := h
    rcases List.mem_cons.mp hd with rfl | hd
    · exact ⟨h6, h7⟩
    · exact AlD.bk cls cs c.vs h9 d hd
  | [], _ :: _, _, h, _, _ => h.elim
end
section
variable {g : G} {K : PySem.W.Frag} {AR : Addr → Hp → List D → HO → Prop} {Em : Addr → Hp → V → HO → HO → Prop} {ok : List D → D → Bool} {fe : En → Rs D} {acc0 : Addr → HO}
end
end DL

/-! Data layer, part 38: the rules. -/
namespace DL
open PySem L2 PySem.Froz
section
variable {Y : Cx} {elt : Expr} {te : TE} {D : Addr}
end
section
variable {X : Cx} {g : G} {elt tg iter : Expr} {ifs : List Expr} {gs : List Comprehension} {scope : Scope} {own : List (PySem.Str × Nat)} {pos : Pos} {c : GDt} {cs : List GDt} {fe : En → Rs D}
theorem strsOf_strs (ts : List Str) : strsOf (ts.map D.str) = some ts := by
  induction ts with
  | nil => rfl
  | cons t ts ih =>
    show (strsOf (ts.map D.str)).map _ = _
    rw [ih]
    rfl
end
end DL

/-! Data layer, part 39: [*xs, e, ..]. -/
namespace DL
open PySem L2
def stL (f : En → Rs D) (fs : List (En → Rs D)) : En → Rs OV := fun r => (f r).bind fun d r1 =>
  match d with
  | .lst xs => (evs fs r1).bind fun ds r2 => if (xs ++ ds).length ≤ 1000 then .ok (.ow (xs ++ ds)) r2 else .bad
  | _ => .bad
section
variable {X : Cx} {g : G} {e : Expr} {es : List Expr} {f : En → Rs D} {fs : List (En → Rs D)} {p pos : Pos}
end
end DL

/-! Data layer, part 40: a, b = x, y where both names own what they get. -/
namespace DL
open PySem L2
section
variable {X : Cx} {g : G} {a b : Expr} {pos pt pt2 px py : Pos} {x y : Str} {kt k2 i j : Nat}
def par2o (i j : Nat) (f h : En → Rs OV) : En → SRs := fun r => thenS (f r) fun o r1 => thenS (h r1).noE fun o2 r2 => .nx ((r2.set i (some o)).set j (some o2))
end
end DL

/-! Data layer, part 41: defs that may raise, their calls. -/
namespace DL
open PySem L2
/-- what a def that may raise gives -/
inductive FR where
  | ok (o : OV)
  | ex (x : Exn)
  | bad
/-- what is wished of errors is taken -/
def TkG (X : Cx) (g : G) : Prop := ∀ W, g.W = some W → Takes X W
theorem TkG.none {X : Cx} {g : G} (h : g.W = none) : TkG X g := fun W e => by rw [h] at e; cases e
/-- the wish at the slots σ -/
def WG (g : G) (σ : St) : XK := fun cls d H => match g.W with
  | none => False
  | some W => W cls d σ H
/-- what is wanted of a def's result -/
def QX (K : PySem.W.Frag) (F H : Hp) (Q : VK) (E : XK) : FR → Prop
  | .ok o => ∀ F' H' v, Same F F' → Same F' H' → Fresh F F' H → Same H H' → RVf K F' H' H v o → Q v H'
  | .ex x => ∀ F' H' cls d, Same F F' → Same F' H' → Fresh F F' H → Same H H' → RX K F' cls d x → E cls d H'
  | .bad => False
def spX (K : PySem.W.Frag) (n : Nat) (f : List D → FR) : Sp := fun vs H Q E => ∃ F ds, Same F H ∧ RDs K F vs ds ∧ ds.length = n ∧ QX K F H Q E (f ds)
section
variable {P : Program} {w : World} {K : PySem.W.Frag} {mg : Str → Option Value} {base : Heap}
end
structure HasX (P : Program) (w : World) (K : PySem.W.Frag) (mg : Str → Option Value) (base : Heap) (k : Nat) (x : Str) (n : Nat) (f : List D → FR) : Prop where
  ex : ∃ fa fd ps, FnG P w K mg base (L2.CX P w) k fa fd ps (spX K n f) ∧ mg x = some (.ref fa) ∧ PySem.W.keepIn K (.ref fa) = true ∧ Binds K fd ps []
/-- a result handed on -/
def frR (z : FR) (r : En) : Rs OV := match z with
  | .ok o => .ok o r
  | .ex x => .ex x r
  | .bad => .bad
def callX (n : Nat) (f : List D → FR) (fs : List (En → Rs D)) : En → Rs OV := fun r => (evs fs r).bind fun ds r1 => if ds.length = n then frR (f ds) r1 else .bad
/-- behind a call that changed nothing that was there -/
theorem Rel.after {K : PySem.W.Frag} {g : G} {F1 H1 F' H' : Hp} {s : St} {r1 : En} (R1 : Rel K g F1 H1 s r1) (s1 : Same F1 F') (s2 : Same F' H') (fr : Fresh F1 F' H1) (s3 : Same H1 H') : Rel K g F' H' s r1 := by
  have fn : ∀ {a : Addr} {u : HO}, F1 a = none → H1 a = some u → F' a = none := fun {a u} z1 z2 => by
    cases z : F' a with
    | none => rfl
    | some o' => rw [fr a o' z z1] at z2; cases z2
  refine ⟨s2, R1.f0.trans s1, fun b u e e0 => ?_, fun b u e hb ht => s3 _ _ (R1.keep b u e hb ht), fun i u e => ?_, R1.own, R1.dist, R1.pin, R1.len, R1.tb.call s1 s3 fr, fun q hq => ?_⟩
  · cases z : F1 b with
    | some u' => exact R1.fnew b u' z e0
    | none => exact R1.live (fr b u e z)
  · obtain ⟨w, a1, a2⟩ := R1.slot i u e
    exact ⟨w, a1, RO.mono s1 (fun a vs ew e2 e3 => ⟨fn e2 e3, s3 _ _ e3⟩) a2⟩
  · obtain ⟨x1, x2, x3⟩ := R1.ext q hq
    exact ⟨s3 _ _ x1, fn x2 x1, x3⟩
theorem RVf.rv {K : PySem.W.Frag} {g : G} {F1 H1 F' H' : Hp} {s : St} {r1 : En} {v : V} {o : OV} (R1 : Rel K g F1 H1 s r1) (hv : RVf K F' H' H1 v o) : RV K g F' H' s r1 v o := by
  cases o with
  | sh d => exact hv
  | ow xs =>
    obtain ⟨a, us, e1, e2, e3, e4, e5⟩ := hv
    exact ⟨a, us, e1, e2, e3, e4, R1.live e5, fun j o e eo => not_own R1 e5 j o e eo, fun q hq z => by have := (R1.ext q hq).1; rw [z, e5] at this; cases this⟩
  | od xs => exact hv.elim
  | oi c xs => exact hv.elim
  | th xs => exact hv.elim
  | exc c => exact hv.elim
/-- the promise of a callee, by what is wanted of the call -/
theorem QX.of {K : PySem.W.Frag} {g : G} {F F1 H1 : Hp} {s : St} {r1 : En} {Q : VK} {z : FR} (R1 : Rel K g F1 H1 s r1) (sm : Same F F1) (q : post K g (PO K g F s Q) (frR z r1)) : QX K F1 H1 Q (WG g s) z := by
  cases z with
  | ok o => exact fun F' H' v s1 s2 fr s3 hv => q F' H' v (sm.trans s1) (R1.after s1 s2 fr s3) (hv.rv R1)
  | ex x =>
    intro F' H' cls d s1 s2 fr s3 hx
    have q : exW K g x r1 := q
    unfold exW at q
    unfold WG
    revert q
    cases g.W with
    | none => exact fun q => q
    | some W => exact fun q => q F' H' s cls d (R1.after s1 s2 fr s3) hx
  | bad => exact q
section
variable {X : Cx} {CX : CXT} {k : Nat} {f : Addr} {fd : FuncData} {ps : List Str} {sp : Sp} {E : St → XK} {x : Str} {p pos : Pos} {e : Expr} {es : List Expr} {t : TA}
end
section
variable {X : Cx} {g : G} {k n : Nat} {x : Str} {p pos : Pos} {e : Expr} {es : List Expr}
end
end DL

/-! Data layer, part 42: raise C(e), C an error class whose __init__ stores its one argument. -/
namespace DL
open PySem L2
/-- __init__(self, p): self.f = p -/
def spEI (K : PySem.W.Frag) (f : Str) : Sp := fun vs H Q _ => ∃ (a C : Addr) (y : V), vs = [.ref a, y] ∧ OexC K C ∧ PySem.W.findIn K (.ref C) f = some none ∧ H a = some (exo a C none) ∧ ∀ dx, H dx = none → dx ≠ a → Q .non (L2.upd (L2.upd H dx (exd dx [(f, y)])) a (exo a C (some dx)))
section
variable {P : Program} {w : World} {K : PySem.W.Frag} {mg : Str → Option Value} {base : Heap}
end
/-- the error class c with its one attribute f -/
structure HasE (P : Program) (w : World) (K : PySem.W.Frag) (mg : Str → Option Value) (base : Heap) (c f : Str) : Prop where
  ex : ∃ C fI fd ps, mg c = some (.ref C) ∧ ClsAt K c C ∧ OexC K C ∧ PySem.W.findIn K (.ref C) f = some none ∧ PySem.W.findIn K (.ref C) "__init__" = some (some (.ref fI)) ∧ PySem.W.typeIn K (.ref fI) = some (.type "function") ∧ FnOk P w K mg base CX0 1 fI fd ps (spEI K f) ∧ Binds K fd ps []
def raiseS (c f : Str) (fe : En → Rs D) : En → SRs := fun r => thenS (fe r) fun d r1 => .ex ⟨c, [(f, d)]⟩ r1
section
variable {X : Cx} {g : G} {e : Expr} {p pos pos2 : Pos} {c f : Str}
end
end DL

/-! Data layer, part 43: try .. except C as n; isinstance(n, C), n.f in its suite. -/
namespace DL
open PySem L2
/-- no slot holds an error -/
def noX (r : En) : Bool := r.all fun o => match o with
  | some (.exc _) => false
  | _ => true
def tryS (ct : Str → Option Bool) (i : Nat) (fb fs : En → SRs) : En → SRs := fun r => match fb r with
  | .ex x r1 => match ct x.c with
    | some true => match fs (r1.set i (some (.exc x))) with
      | .nx r2 => if noX (r2.set i none) = true then .nx (r2.set i none) else .bad
      | .rt o r2 => if noX (r2.set i none) = true then .rt o (r2.set i none) else .bad
      | .bk r2 => if noX (r2.set i none) = true then .bk (r2.set i none) else .bad
      | .ct r2 => if noX (r2.set i none) = true then .ct (r2.set i none) else .bad
      | .ex _ _ => .bad
      | .bad => .bad
    | some false => .ex x r1
    | none => .bad
  | y => y
structure Tri (g g' : G) : Prop where
  B : g'.B = g.B
  w : g'.w = g.w
  xc : g'.xc = g.xc
structure Sui (g g' : G) (a : Addr) (cls : Value) (d : Option Addr) : Prop where
  B : g'.B = g.B
  w : g'.w = g.w
  W : g'.W = none
  xc : g'.xc = some (a, cls, d)
/-- with the error that is handled -/
def G.hnd (g : G) (a : Addr) (cls : Value) (d : Option Addr) : G := { g with W := none, xc := some (a, cls, d) }
section
variable {K : PySem.W.Frag} {g : G} {F H : Hp} {s : St} {r : En} {i : Nat} {a : Addr} {cls : Value} {d : Option Addr} {x : Exn}
end
section
variable {X : Cx} {g : G} {xn n : Str} {cv : Value} {i : Nat} {body suite : List Stmt} {b₀ : Stmt} {np pos pos' : Pos} {fb fs : En → SRs} {ct : Str → Option Bool}
/-! ### in the suite -/
def isxD (i : Nat) (t : Str → Option Bool) : En → Rs D := fun r => match r[i]? with
  | some (some (.exc x)) => ofO ((t x.c).map D.bl) r
  | _ => .bad
theorem RDf.look {K : PySem.W.Frag} {F : Hp} {f : Str} {d : D} : ∀ {vs : List (Str × V)} {ds : List (Str × D)}, RDf K F vs ds → ds.lookup f = some d → ∃ v, vs.lookup f = some v ∧ RD K F v d
  | _, [], h, e => by cases e
  | _, (k, d') :: ds, h, e => by
    cases h with
    | cons h1 h2 =>
      rw [List.lookup_cons] at e
      rw [List.lookup_cons]
      cases hk : f == k with
      | true =>
        simp only [hk] at e
        cases e
        exact ⟨_, rfl, h1⟩
      | false =>
        simp only [hk] at e
        exact RDf.look h2 e
variable {a : Addr} {oe : Obj} {cls : Value} {d : Option Addr} {pn : List (Addr × Obj)} {g' : G} {p : Pos}
def xfD' (i : Nat) (f : Str) (cs : List Str) : En → Rs D := fun r => match r[i]? with
  | some (some (.exc x)) => if x.c ∈ cs then ofO (x.fs.lookup f) r else .bad
  | _ => .bad
end
end DL

/-! Data layer, part 44: instances: __init__, C(e, ..), self.f = e, o.f. -/
namespace DL
open PySem L2
theorem ClsAt.inj {K : PySem.W.Frag} {c : Str} {C C' : Addr} (h : ClsAt K c C) (h' : ClsAt K c C') : C = C' := by
  unfold ClsAt at h h'
  rw [h] at h'
  cases h'
  rfl
/-- the attribute f of instances of c is read and stored plainly -/
def FldOk (K : PySem.W.Frag) (c f : Str) : Prop := ∀ C, ClsAt K c C → Cls K C ∧ NoAttr K C f
theorem FldOk.of {K : PySem.W.Frag} {c f : Str} {C : Addr} (h : ClsAt K c C) (h1 : Cls K C) (h2 : NoAttr K C f) : FldOk K c f := fun C' h' => by
  cases h.inj h'
  exact ⟨h1, h2⟩
/-! ### __init__ -/
inductive FI where
  | ok (fs : List (Str × D))
  | ex (x : Exn)
  | bad
def QI (K : PySem.W.Frag) (c : Str) (F H : Hp) (a : Addr) (Q : VK) (E : XK) : FI → Prop
  | .ok fs => ∀ F' H' C dx vs, Same F F' → Same F' H' → Fresh F F' H → (∀ b o, H b = some o → b ≠ a → H' b = some o) → F' a = none → H' a = some (.ins C dx vs) → ClsAt K c C → RDf K F' vs fs → Q .non H'
  | .ex x => ∀ F' H' cls d, Same F F' → Same F' H' → Fresh F F' H → (∀ b o, H b = some o → b ≠ a → H' b = some o) → RX K F' cls d x → E cls d H'
  | .bad => False
def spI (K : PySem.W.Frag) (c : Str) (n : Nat) (f : List D → FI) : Sp := fun vs H Q E => ∃ F a C dx ws ds, vs = .ref a :: ws ∧ Same F H ∧ F a = none ∧ H a = some (.ins C dx []) ∧ ClsAt K c C ∧ RDs K F ws ds ∧ ds.length = n ∧ QI K c F H a Q E (f ds)
section
variable {K : PySem.W.Frag} {F H : Hp} {w : World} {W : Option WX}
end
section
variable {P : Program} {w : World} {K : PySem.W.Frag} {mg : Str → Option Value} {base : Heap}
end
/-! ### self.f = e, o.f -/
def putFd (f : Str) (d : D) : List (Str × D) → List (Str × D)
  | [] => [(f, d)]
  | (g, x) :: r => if g = f then (g, d) :: r else (g, x) :: putFd f d r
theorem RDf.put {K : PySem.W.Frag} {F : Hp} {f : Str} {v : V} {d : D} (hv : RD K F v d) : ∀ {vs : List (Str × V)} {ds : List (Str × D)}, RDf K F vs ds → RDf K F (L2.putF f v vs) (putFd f d ds)
  | _, [], h => by cases h; exact .cons hv .nil
  | _, (k, d') :: ds, h => by
    cases h with
    | cons h1 h2 =>
      unfold L2.putF putFd
      split
      · exact .cons hv h2
      · exact .cons h1 (RDf.put hv h2)
theorem RDf.length {K : PySem.W.Frag} {F : Hp} : ∀ {vs : List (Str × V)} {ds : List (Str × D)}, RDf K F vs ds → vs.length = ds.length
  | _, [], h => by cases h; rfl
  | _, (k, d') :: ds, h => by
    cases h with
    | cons h1 h2 => rw [List.length_cons, List.length_cons, RDf.length h2]
def fldS (i : Nat) (c f : Str) (fe : En → Rs D) : En → SRs := fun r => thenS (fe r) fun d r1 => match r1[i]? with
  | some (some (OV.oi c' fs)) => if c' = c ∧ fs.length < 900 then .nx (r1.set i (some (.oi c (putFd f d fs)))) else .bad
  | _ => .bad
def semFld (c f : Str) : D → Option D
  | .obj c' fs => if c' = c then fs.lookup f else none
  | _ => none
section
variable {X : Cx} {g : G} {e : Expr} {p pos pos' : Pos} {c f n : Str} {i : Nat}
/-- the attribute of an instance that a slot owns -/
def fldO (i : Nat) (c f : Str) : En → Rs D := fun r => match r[i]? with
  | some (some (OV.oi c' fs)) => if c' = c then ofO (fs.lookup f) r else .bad
  | _ => .bad
end
end DL

/-! Data layer, part 45: C(e, ..), o.m(e, ..), properties. -/
namespace DL
open PySem L2
section
variable {K : PySem.W.Frag} {g : G} {F1 H1 F' H' : Hp} {s : St} {r1 : En} {a : Addr}
end
/-! ### C(e, ..) -/
structure HasI (P : Program) (w : World) (K : PySem.W.Frag) (mg : Str → Option Value) (base : Heap) (k : Nat) (c : Str) (n : Nat) (f : List D → FI) : Prop where
  ex : ∃ C fa fd ps, FnG P w K mg base (L2.CX P w) k fa fd ps (spI K c n f) ∧ mg c = some (.ref C) ∧ ClsAt K c C ∧ Mk K C fa ∧ Binds K fd ps []
def fiR (c : Str) (z : FI) (r : En) : Rs OV := match z with
  | .ok fs => .ok (.sh (.obj c fs)) r
  | .ex x => .ex x r
  | .bad => .bad
def makeD (c : Str) (n : Nat) (f : List D → FI) (fs : List (En → Rs D)) : En → Rs OV := fun r => (evs fs r).bind fun ds r1 => if ds.length = n then fiR c (f ds) r1 else .bad
section
variable {X : Cx} {CX : CXT} {k : Nat} {f C : Addr} {fd : FuncData} {ps : List Str} {sp : Sp} {E : St → XK} {x m : Str} {p pos apos : Pos} {e o : Expr} {es : List Expr} {t : TA} {ta : TE}
end
section
variable {X : Cx} {g : G} {k n : Nat} {c m : Str} {p pos apos : Pos} {e o : Expr} {es : List Expr}
/-! ### o.m(e, ..) -/
/-- a method that raises nothing; one that may raise: the object is its first argument -/
structure HasMP (P : Program) (w : World) (K : PySem.W.Frag) (mg : Str → Option Value) (base : Heap) (k : Nat) (c m : Str) (n : Nat) (f : List D → Option OV) : Prop where
  ex : ∃ C fa fd ps, FnG P w K mg base CX0 k fa fd ps (spP K n f) ∧ ClsAt K c C ∧ Cls K C ∧ Meth K C m fa ∧ Binds K fd ps []
structure HasMX (P : Program) (w : World) (K : PySem.W.Frag) (mg : Str → Option Value) (base : Heap) (k : Nat) (c m : Str) (n : Nat) (f : List D → FR) : Prop where
  ex : ∃ C fa fd ps, FnG P w K mg base (L2.CX P w) k fa fd ps (spX K n f) ∧ ClsAt K c C ∧ Cls K C ∧ Meth K C m fa ∧ Binds K fd ps []
def toFR (o : Option OV) : FR := match o with
  | some o => .ok o
  | none => .bad
/-- an instance of c without an attribute m of its own -/
def objOk (c m : Str) : D → Bool
  | .obj c' fl => decide (c' = c) && decide (fl.lookup m = none)
  | _ => false
def methX (c m : Str) (n : Nat) (f : List D → FR) (fo : En → Rs D) (fs : List (En → Rs D)) : En → Rs OV := fun r => (fo r).bind fun x r1 => if objOk c m x = true then (evs fs r1).bind fun ds r2 => if ds.length + 1 = n then frR (f (x :: ds)) r2 else .bad else .bad
/-! ### o.f, a property whose getter returns an attribute -/
/-- c's property f returns the attribute a -/
structure HasG (P : Program) (w : World) (K : PySem.W.Frag) (mg : Str → Option Value) (base : Heap) (c f a : Str) : Prop where
  ex : ∃ C p ga fd, ClsAt K c C ∧ Cls K C ∧ PropOf K C f p ga ∧ FnOk P w K mg base CX0 1 ga fd ["self"] (getSp C a) ∧ Binds K fd ["self"] []
end
end DL

/-! Data layer, part 46: what the written part says of classes, put together. -/
namespace DL
open PySem L2
/-- c's __init__ is the def st -/
structure InitAt (K : PySem.W.Frag) (mg : Str → Option Value) (c qual : Str) (st : Stmt) : Prop where
  ex : ∃ C f fd, mg c = some (.ref C) ∧ ClsAt K c C ∧ Mk K C f ∧ Fun K "__init__" qual st f fd
/-- c's method m is the def st -/
structure MethAt (K : PySem.W.Frag) (c m qual : Str) (st : Stmt) : Prop where
  ex : ∃ C f fd, ClsAt K c C ∧ Cls K C ∧ Meth K C m f ∧ Fun K m qual st f fd
end DL

/-! Data layer, part 47: d.values() walked. -/
namespace DL
open PySem L2
theorem RDk.get {K : PySem.W.Frag} {F : Hp} : ∀ {ds : List (Key × D)} {vs : List (Key × V)} {i : Nat} {k : Key} {d : D}, RDk K F vs ds → ds[i]? = some (k, d) → ∃ v, vs[i]? = some (k, v) ∧ RD K F v d
  | [], _, _, _, _, h, e => by simp at e
  | (j, d') :: ds, _, 0, k, d, h, e => by
    cases h with
    | cons h1 h2 =>
      simp only [List.getElem?_cons_zero, Option.some.injEq, Prod.mk.injEq] at e
      obtain ⟨rfl, rfl⟩ := e
      exact ⟨_, rfl, h1⟩
  | (j, d') :: ds, _, i + 1, k, d, h, e => by
    cases h with
    | cons h1 h2 =>
      rw [List.getElem?_cons_succ] at e
      obtain ⟨v, e1, e2⟩ := RDk.get h2 e
      exact ⟨v, by rw [List.getElem?_cons_succ]; exact e1, e2⟩
def D.vals : D → Option (List D)
  | .dic kds => some (kds.map (·.2))
  | _ => none
def vaD (f : En → Rs D) : En → Rs (List D) := fun r => (f r).bind fun d r1 => ofO d.vals r1
section
variable {X : Cx} {g : G} {e tg : Expr} {apos cpos : Pos}
end
end DL

/-! Data layer, part 48: displays with stars anywhere: [*a, x, *b], (*a, x). -/
namespace DL
open PySem L2
def nlZ : En → Rs (List D) := fun r => .ok [] r
def cnZ (f : En → Rs D) (h : En → Rs (List D)) : En → Rs (List D) := fun r => (f r).bind fun d r1 => (h r1).bind fun ds r2 => .ok (d :: ds) r2
def D.sq : D → Option (List D)
  | .lst xs => some xs
  | .tup xs => some xs
  | _ => none
def stZ (f : En → Rs D) (h : En → Rs (List D)) : En → Rs (List D) := fun r => (f r).bind fun d r1 => (ofO d.sq r1).bind fun xs r1 => (h r1).bind fun ds r2 => .ok (xs ++ ds) r2
def lstZ (f : En → Rs (List D)) : En → Rs OV := fun r => (f r).bind fun ds r1 => if ds.length ≤ 1000 then .ok (.ow ds) r1 else .bad
def tupZ (f : En → Rs (List D)) : En → Rs D := fun r => (f r).bind fun ds r1 => if ds.length ≤ 1000 then .ok (.tup ds) r1 else .bad
section
variable {X : Cx} {g : G} {e : Expr} {es : List Expr} {f : En → Rs D} {h : En → Rs (List D)} {p pos : Pos}
end
end DL

/-! Data layer, part 49: list(d.items()), d frozen. -/
namespace DL
open PySem PySem.Spec PyProof.Rows L2
section
variable {X : Cx} {g : G} {e : Expr} {te : TE} {p apos cpos pos : Pos}
def keyD : Key → D
  | .inl i => .int i
  | .inr x => .str x
def D.itms : D → Option (List D)
  | .dic kds => some (kds.map fun z => .tup [keyD z.1, z.2])
  | _ => none
theorem Rel.up {K : PySem.W.Frag} {F H H' : Hp} {s : L2.St} {r : En} (R : Rel K g F H s r) (e : Same H H') : Rel K g F H' s r :=
  ⟨R.sub.trans e, R.f0, R.fnew, fun b u x hb ht => e _ _ (R.keep b u x hb ht), fun i u x => let ⟨v, h1, h2⟩ := R.slot i u x; ⟨v, h1, RO.mono (Same.refl _) (fun a vs _ e1 e2 => ⟨e1, e _ _ e2⟩) h2⟩, R.own, R.dist, R.pin, R.len, R.tb.up e, fun q hq => ⟨e _ _ (R.ext q hq).1, (R.ext q hq).2⟩⟩
def itsO (f : En → Rs D) : En → Rs OV := fun r => (f r).bind fun d r1 => (ofO d.itms r1).bind fun ds r1 => .ok (.ow ds) r1
end
end DL

/-! Data layer, part 50: {**d, k: e}. -/
namespace DL
open PySem PySem.Spec PyProof
section
variable {prog : Program} {w : World} {K : Type} [DecidableEq K] {knd : KeyKind prog w K} {A : Around} {E : Value → Shared → Prop} {s : Shared}
end
end DL

/-! Data layer, part 51: {**d, k: e}, the rule. -/
namespace DL
open PySem PySem.Spec PyProof
section
variable {prog : Program} {w : World} {K : Type} [DecidableEq K] {knd : KeyKind prog w K} {A : Around} {E : Value → Shared → Prop} {s : Shared}
end
end DL

/-! Data layer, part 52: {**d, k: e}, as a judgement. -/
namespace DL
open PySem PySem.Spec PyProof L2
section
variable {X : Cx} {e k x : Expr} {te : TE} {trs : List (TE × TE)} {pos : Pos}
theorem there {P : Program} {w : World} {h : Heap} {a : Addr} {vs : List (Key × Value)} (d : h.DictOf (mixKind P w) a vs) : ∃ q, h.get? a = some q := let ⟨q, _, _, hq, _⟩ := d; ⟨q, hq⟩
end
end DL

/-! Data layer, part 53: {**d, k: e}, by data. -/
namespace DL
open PySem L2
def dstD (f : En → Rs D) (fs : List ((En → Rs D) × (En → Rs D))) : En → Rs D := fun r => (f r).noE.bind fun d r1 =>
  match d with
  | .dic kds => if kds.length ≤ 1000 then (evPs fs r1).noE.bind fun rs r2 => if rs.length ≤ 15 then .ok (.dic (mergeD (mergeD [] kds) (mergeD [] rs))) r2 else .bad else .bad
  | _ => .bad
section
variable {X : Cx} {g : G} {pos : Pos} {e k x : Expr} {f : En → Rs D} {fs : List ((En → Rs D) × (En → Rs D))}
end
end DL

/-! Data layer, part 54: len(o) by o's own __len__. -/
namespace DL
open PySem L2 PySem.Calls Builtin
section
variable {prog : Program} {w : World} {A : Around} {E : Value → Shared → Prop} {s : Shared} {K : PySem.W.Frag} {x C f : Addr} {ox : Obj} {od : Option Obj} {Q : Value → Shared → Prop}
end
section
variable {X : Cx} {k : Nat} {f C : Addr} {fd : FuncData} {ps : List Str} {sp : Sp}
end
/-- len of an instance of c, f its __len__ -/
def lenF (c : Str) (f : List D → Option OV) : D → Option D
  | .obj c' fl => if c' = c then (match f [.obj c' fl] with
    | some (.sh (.int n)) => if 0 ≤ n ∧ n < 1000000000 then some (.int n) else none
    | _ => none) else none
  | _ => none
def lenM (c : Str) (f : List D → Option OV) (fo : En → Rs D) : En → Rs D := fun r => (fo r).bind fun x r1 => ofO (lenF c f x) r1
section
variable {X : Cx} {g : G} {k : Nat} {c : Str} {p pos : Pos} {e : Expr}
end
end DL

/-! Data layer, part 55: == of alike data, dicts among them. -/
namespace PySem.SeqAt
open AutoSeq1 (wpAny_loadPart')
open MeetsSeq MeetsSeq2 MeetsSeq3 SeqRoads2
section
variable {prog : Program} {w : World}
theorem dl_tupEq (p q : Addr) (vs us : Array Value) (i j : Nat) (o o' : Option Addr) (z z' : Array (Option Value)) (hn : vs.size = us.size) :
    MeetsIn prog w (Builtin.«tuple.__eq__» ⟨[.ref p, .ref q], []⟩)
      (fun A R s => s.heap.get? p = some { cls := .type "tuple", dict := o, data := .seq vs i, slots := z } ∧ s.heap.get? q = some { cls := .type "tuple", dict := o', data := .seq us j, slots := z' } ∧
        (∀ k (g : k < vs.size) (g' : k < us.size), EqP prog w A.in1 s vs[k] us[k] true) ∧ R (.ok (.ret (.bool true))) s) := by
  intro A R s h
  obtain ⟨hp, g, d, tk, os⟩ := s
  obtain ⟨h1, h2, h3, h4⟩ := h
  have f2 := AutoSeq1.sub_tuple_tuple
  have zl : (vs.toList.zip us.toList).length = vs.size := by simp [hn]
  wp_walk using wpAny_loadPart' h1, wpAny_loadPart' h2, wpAny_forIn_list _ (fun l b s' => b.1 = none ∧ s' = ⟨hp, g, d, tk, os⟩ ∧ ∃ k, l = (vs.toList.zip us.toList).drop k ∧ R (.ok (.ret (.bool true))) ⟨hp, g, d, tk, os⟩) _
  case turn =>
    rintro ⟨y, x⟩ l b s' ⟨hb, rfl, k, hk, hR⟩
    have lt : k < (vs.toList.zip us.toList).length := Nat.lt_of_not_le fun c => by
      rw [List.drop_of_length_le c] at hk
      cases hk
    have l1 : k < vs.size := zl ▸ lt
    have l2 : k < us.size := hn ▸ l1
    rw [List.drop_eq_getElem_cons lt] at hk
    injection hk with e1 e2
    have ey : y = vs[k] := by simpa using congrArg Prod.fst e1
    have ex : x = us[k] := by simpa using congrArg Prod.snd e1
    subst ey ex
    refine wpAny_bind (h3 k l1 l2 _ _ ?_)
    wp_walk
    exact ⟨rfl, rfl, k + 1, e2, hR⟩
  case fin =>
    rintro ⟨b1, b2⟩ s' ⟨hb, rfl, k, hk, hR⟩
    simp only at hb
    subst hb
    wp_walk
    simpa [Builtin.Tuple.tupleCompareSizes, hn] using hR
  case h => exact ⟨rfl, rfl, 0, rfl, h4⟩
theorem dl_rcTup {A : Around} {s : Shared} {p q : Addr} {vs us : Array Value} (h1 : s.heap.IsTuple p vs) (h2 : s.heap.IsTuple q us) (hn : vs.size = us.size) (hu : A.units < cLine)
    (he : ∀ k (g : k < vs.size) (g' : k < us.size), EqP prog w A.in1 s vs[k] us[k] true) (E Q : Value → Shared → Prop) (h : Q (.bool true) s) : wpAny (model prog w) A (richCompare .Eq (.ref p) (.ref q)) Q E s := by
  obtain ⟨⟨c, o, d, z⟩, a1, a2, i, a3⟩ := id h1
  obtain ⟨⟨c', o', d', z'⟩, b1, b2, j, b3⟩ := id h2
  simp only at a2 a3 b2 b3
  subst a2 a3 b2 b3
  have ta : s.TypeIs (.ref p) "tuple" := ⟨_, a1, rfl⟩
  have tb : s.TypeIs (.ref q) "tuple" := ⟨_, b1, rfl⟩
  exact wpAny_richCompare_same_room (op := .Eq) ta tb F.slot_tuple_eq (call_meetsIn F.slot_tuple_eq ta F.entry_tuple_eq (F.args_tuple_eq_2 _ _) (dl_tupEq p q vs us i j o o' z z' hn)
    ⟨a1, b1, he, show Value.bool true ≠ Value.notImplemented ∧ Q (.bool true) s from ⟨(fun x => nomatch x), h⟩⟩) hu
end
end PySem.SeqAt
namespace DL
open PySem L2
mutual
def D.same : D → D → Bool
  | .non, .non => true
  | .bl a, .bl b => a == b
  | .int a, .int b => decide (a = b)
  | .str a, .str b => decide (a = b)
  | .lst xs, .lst ys => sames xs ys
  | .tup xs, .tup ys => sames xs ys
  | .dic xs, .dic ys => decide (xs.map (·.1)).Nodup && samek xs ys
  | _, _ => false
def sames : List D → List D → Bool
  | [], [] => true
  | x :: xs, y :: ys => x.same y && sames xs ys
  | _, _ => false
def samek : List (Key × D) → List (Key × D) → Bool
  | [], [] => true
  | (k, x) :: xs, (j, y) :: ys => decide (k = j) && (x.same y && samek xs ys)
  | _, _ => false
end
section
variable {X : Cx} {pins : List (Addr × Obj)} {s : Shared} {H : Hp} {sg : L2.St}
/-- read alike, they are equal -/
def EqU (X : Cx) (s : Shared) (n : Nat) (v u : Value) : Prop := ∀ A : Around, A.units + n < cLine → SeqAt.EqP X.prog X.w A s v u true
theorem EqU.refs {n : Nat} {a b : Addr} (h : ∀ A : Around, A.units + n + 1 < cLine → ∀ (E Q : Value → Shared → Prop), Q (.bool true) s → wpAny (model X.prog X.w) A (richCompare .Eq (.ref a) (.ref b)) Q E s) : EqU X s (n + 1) (.ref a) (.ref b) := fun A hu => by
  by_cases e : a = b
  · subst e
    exact (SeqAt.EqAt.same _).eqP
  · exact SeqAt.eqP_refs e (h A (by omega))
theorem rdk_val {K : PySem.W.Frag} {F : Hp} : ∀ {ds es : List (Key × D)} {ks ls : List (Key × V)}, samek ds es = true → RDk K F ks ds → RDk K F ls es → (ds.map (·.1)).Nodup → ∀ p ∈ ks, ∃ u, valV ls p.1 = some u ∧ ∃ d e, (p.1, d) ∈ ds ∧ d.same e = true ∧ RD K F p.2 d ∧ RD K F u e
  | [], _, _, _, _, h1, _, _ => by
    cases h1
    exact fun p hp => by cases hp
  | (k, d) :: ds, [], _, _, hs, _, _, _ => by cases hs
  | (k, d) :: ds, (j, e) :: es, _, _, hs, h1, h2, hn => by
    have hs : (decide (k = j) && (d.same e && samek ds es)) = true := hs
    simp only [Bool.and_eq_true, decide_eq_true_eq] at hs
    obtain ⟨hk, s1, s2⟩ := hs
    subst hk
    cases h1 with
    | @cons _ v vs _ _ a1 a2 =>
      cases h2 with
      | @cons _ u us _ _ b1 b2 =>
        intro p hp
        rcases List.mem_cons.mp hp with rfl | hp
        · exact ⟨u, by simp [valV], d, e, List.mem_cons_self, s1, a1, b1⟩
        · rw [List.map_cons, List.nodup_cons] at hn
          obtain ⟨u', c1, d', e', c2, c3, c4, c5⟩ := rdk_val s2 a2 b2 hn.2 p hp
          have : ¬ k = p.1 := fun z => hn.1 (by rw [z]; exact List.mem_map.mpr ⟨_, c2, rfl⟩)
          refine ⟨u', ?_, d', e', List.mem_cons_of_mem _ c2, c3, c4, c5⟩
          have c1' : valV us p.1 = some u' := c1
          unfold valV at c1' ⊢
          rw [List.find?_cons]
          simp only [this, decide_false]
          exact c1'
theorem samek_len : ∀ {ds es : List (Key × D)}, samek ds es = true → ds.length = es.length
  | [], [], _ => rfl
  | [], _ :: _, h => by cases h
  | _ :: _, [], h => by cases h
  | (k, d) :: ds, (j, e) :: es, h => by
    have h : (decide (k = j) && (d.same e && samek ds es)) = true := h
    simp only [Bool.and_eq_true] at h
    rw [List.length_cons, List.length_cons, samek_len h.2.2]
theorem sames_len : ∀ {ds es : List D}, sames ds es = true → ds.length = es.length
  | [], [], _ => rfl
  | [], _ :: _, h => by cases h
  | _ :: _, [], h => by cases h
  | d :: ds, e :: es, h => by
    have h : (d.same e && sames ds es) = true := h
    simp only [Bool.and_eq_true] at h
    rw [List.length_cons, List.length_cons, sames_len h.2]
theorem RDk.len {K : PySem.W.Frag} {F : Hp} : ∀ {ks : List (Key × V)} {ds : List (Key × D)}, RDk K F ks ds → ks.length = ds.length
  | _, [], h => by cases h; rfl
  | _, (k, d) :: ds, h => by
    cases h with
    | cons h1 h2 => rw [List.length_cons, List.length_cons, RDk.len h2]
theorem units_in1 (A : Around) (n : Nat) : A.in1.units + n = A.units + n + 1 := by
  show A.units + 1 + n = _
  omega
theorem dq_mem : ∀ {ds : List D} {d : D}, d ∈ ds → d.dq ≤ dqAll ds
  | d' :: ds, d, h => by
    show d.dq ≤ max d'.dq (dqAll ds)
    rcases List.mem_cons.mp h with rfl | h
    · omega
    · have := dq_mem h
      omega
theorem dq_memK : ∀ {ds : List (Key × D)} {k : Key} {d : D}, (k, d) ∈ ds → d.dq ≤ dqK ds
  | (j, d') :: ds, k, d, h => by
    show d.dq ≤ max d'.dq (dqK ds)
    rcases List.mem_cons.mp h with h | h
    · cases h
      omega
    · have := dq_memK h
      omega
theorem sames_at : ∀ {ds es : List D}, sames ds es = true → ∀ k (g : k < ds.length) (g' : k < es.length), ds[k].same es[k] = true
  | d :: ds, e :: es, h, k, g, g' => by
    have h : (d.same e && sames ds es) = true := h
    obtain ⟨s1, s2⟩ := Bool.and_eq_true_iff.mp h
    cases k with
    | zero => exact s1
    | succ k => exact sames_at s2 k (by simpa using g) (by simpa using g')
/-- what is asked of data of that depth -/
def SameU (X : Cx) (s : Shared) (H : Hp) (n : Nat) : Prop := ∀ (d e : D) (x y : V) (v u : Value), d.same e = true → d.dq ≤ n → RD X.K H x d → RD X.K H y e → RelV x v → RelV y u → EqU X s (n + 1) v u
theorem items_same (I : L2.Inv X pins sg H s) {n : Nat} (ih : SameU X s H n) {ds es : List D} {xs ys : List V} {vs us : List Value} (hs : sames ds es = true) (hd : dqAll ds ≤ n) (h1 : RDs X.K H xs ds) (h2 : RDs X.K H ys es) (r1 : Vals xs vs) (r2 : Vals ys us) (k : Nat) (g : k < vs.length) (g' : k < us.length) : EqU X s (n + 1) vs[k] us[k] := by
  have l1 := r1.length
  have l2 := r2.length
  have l3 := h1.length
  have l4 := h2.length
  obtain ⟨x, e1, a1⟩ := h1.get (List.getElem?_eq_getElem (l := ds) (i := k) (by omega))
  obtain ⟨y, e2, a2⟩ := h2.get (List.getElem?_eq_getElem (l := es) (i := k) (by omega))
  obtain ⟨v, e3, a3⟩ := r1.get e1
  obtain ⟨u, e4, a4⟩ := r2.get e2
  rw [List.getElem?_eq_getElem g] at e3
  rw [List.getElem?_eq_getElem g'] at e4
  cases e3
  cases e4
  exact ih _ _ _ _ _ _ (sames_at hs k (by omega) (by omega)) (Nat.le_trans (dq_mem (List.getElem_mem _)) hd) a1 a2 a3 a4
theorem same_flat {n : Nat} {d e : D} {x y : V} {v u : Value} (hs : d.same e = true) (h1 : RD X.K H x d) (h2 : RD X.K H y e) (r1 : RelV x v) (r2 : RelV y u) (hd : match d with | .lst _ => False | .tup _ => False | .dic _ => False | _ => True) : EqU X s n v u := fun A _ => by
  cases d with
  | non => cases e <;> first | cases hs; done | skip
           cases h1; cases h2
           exact (eqAt_same r1 r2 rfl).eqP
  | bl a =>
    cases e <;> first | cases hs; done | skip
    have : _ = _ := beq_iff_eq.mp hs
    subst this
    cases h1; cases h2
    exact (eqAt_same r1 r2 rfl).eqP
  | int a =>
    cases e <;> first | cases hs; done | skip
    have : _ = _ := of_decide_eq_true hs
    subst this
    cases h1; cases h2
    exact (eqAt_same r1 r2 rfl).eqP
  | str a =>
    cases e <;> first | cases hs; done | skip
    have : _ = _ := of_decide_eq_true hs
    subst this
    cases h1; cases h2
    exact (eqAt_same r1 r2 rfl).eqP
  | lst _ => exact hd.elim
  | tup _ => exact hd.elim
  | dic _ => exact hd.elim
  | scr _ => cases e <;> cases hs
  | obj _ _ => cases e <;> cases hs
theorem same_all (I : L2.Inv X pins sg H s) : ∀ n, SameU X s H n := by
  intro n
  induction n with
  | zero =>
    intro d e x y v u hs hd h1 h2 r1 r2
    refine same_flat hs h1 h2 r1 r2 ?_
    cases d with
    | lst _ => exact absurd (show dqAll _ + 1 ≤ 0 from hd) (by omega)
    | tup _ => exact absurd (show dqAll _ + 1 ≤ 0 from hd) (by omega)
    | dic _ => exact absurd (show dqK _ + 1 ≤ 0 from hd) (by omega)
    | _ => trivial
  | succ n ih =>
    intro d e x y v u hs hd h1 h2 r1 r2
    cases d with
    | lst ds =>
      have hd : dqAll ds + 1 ≤ n + 1 := hd
      cases e with
      | lst es =>
        have hs : sames ds es = true := hs
        cases h1 with
        | lst a1 a2 =>
          cases h2 with
          | lst b1 b2 =>
            have r1 := (show v = _ from r1)
            have r2 := (show u = _ from r2)
            subst r1
            subst r2
            obtain ⟨its, rv, pl, _⟩ := I.list (SqL.of a1)
            obtain ⟨its2, rv2, pl2, _⟩ := I.list (SqL.of b1)
            have l1 := rv.length
            have l2 := rv2.length
            have l3 := a2.length
            have l4 := b2.length
            have l5 := sames_len hs
            refine EqU.refs fun A hu E Q q => ?_
            refine SeqAt.rcP_lists (e := fun _ => true) pl.isList pl2.isList (by simp only [List.size_toArray]; omega) (by omega) (fun k g g' => ?_) E Q ?_
            · have := items_same I ih hs (by omega) a2 b2 rv rv2 k (by simpa using g) (by simpa using g') A.in1 (by rw [units_in1]; omega)
              simpa using this
            · rw [show ((List.range its.toArray.size).all fun _ => true) = true from List.all_eq_true.mpr fun _ _ => rfl]
              exact q
      | _ => cases hs
    | tup ds =>
      have hd : dqAll ds + 1 ≤ n + 1 := hd
      cases e with
      | tup es =>
        have hs : sames ds es = true := hs
        cases h1 with
        | tup a1 a2 =>
          cases h2 with
          | tup b1 b2 =>
            have r1 := (show v = _ from r1)
            have r2 := (show u = _ from r2)
            subst r1
            subst r2
            obtain ⟨its, rv, pl, _⟩ := I.tuple a1
            obtain ⟨its2, rv2, pl2, _⟩ := I.tuple b1
            have l1 := rv.length
            have l2 := rv2.length
            have l3 := a2.length
            have l4 := b2.length
            have l5 := sames_len hs
            refine EqU.refs fun A hu E Q q => ?_
            refine SeqAt.dl_rcTup pl pl2 (by simp only [List.size_toArray]; omega) (by omega) (fun k g g' => ?_) E Q q
            have := items_same I ih hs (by omega) a2 b2 rv rv2 k (by simpa using g) (by simpa using g') A.in1 (by rw [units_in1]; omega)
            simpa using this
      | _ => cases hs
    | dic ds =>
      have hd : dqK ds + 1 ≤ n + 1 := hd
      cases e with
      | dic es =>
        have hs : (decide (ds.map (·.1)).Nodup && samek ds es) = true := hs
        simp only [Bool.and_eq_true, decide_eq_true_eq] at hs
        obtain ⟨hn, hs⟩ := hs
        cases h1 with
        | @dic a _ ks _ a1 a2 =>
          cases h2 with
          | @dic b _ ls _ b1 b2 =>
            have r1 := (show v = _ from r1)
            have r2 := (show u = _ from r2)
            subst r1
            subst r2
            obtain ⟨_, _, ya, va, ra, da⟩ := (show ObjOk X.prog X.w H s.heap a (.frz _ (.dK ks)) from I.hok a _ a1)
            obtain ⟨_, _, yb, vb, rb, db⟩ := (show ObjOk X.prog X.w H s.heap b (.frz _ (.dK ls)) from I.hok b _ b1)
            refine EqU.refs fun A hu E Q q => ?_
            have hv := rdk_val hs a2 b2 hn
            have el : va.length = vb.length := by
              have h1 := ra.length
              have h2 := rb.length
              have h3 := a2.len
              have h4 := b2.len
              have h5 := samek_len hs
              omega
            refine PySem.W.rcP_dicts (knd := mixKind X.prog X.w) (r := true) ya yb da db (by omega) (fun _ => ?_) E Q ?_
            · refine hits_run (F := fun x y => ∀ v u, RelV x v → RelV y u → SeqAt.EqP X.prog X.w A.in1 s v u true) (fun x y v u f rx ry => f v u rx ry) rb ra fun p hp => ?_
              obtain ⟨u, c1, d, e, c2, c3, c4, c5⟩ := hv p hp
              exact ⟨u, c1, fun v' u' rx ry => ih d e _ _ v' u' c3 (Nat.le_trans (dq_memK c2) (by omega)) c4 c5 rx ry A.in1 (by rw [units_in1]; omega)⟩
            · rw [show (va.length == vb.length && true) = true from by rw [el]; simp]
              exact q
      | _ => cases hs
    | non => exact same_flat hs h1 h2 r1 r2 trivial
    | bl _ => exact same_flat hs h1 h2 r1 r2 trivial
    | int _ => exact same_flat hs h1 h2 r1 r2 trivial
    | str _ => exact same_flat hs h1 h2 r1 r2 trivial
    | scr _ => exact same_flat hs h1 h2 r1 r2 trivial
    | obj _ _ => exact same_flat hs h1 h2 r1 r2 trivial
end
/-- what is read alike is equal, dicts too -/
def semEqX (d e : D) : Option D := match semEq d e with
  | some z => some z
  | none => match d, e with
    | .tup ds, .tup es => if sames ds es && decide (dqAll ds ≤ 50) then some (.bl true) else none
    | .lst ds, .lst es => if sames ds es && decide (dqAll ds ≤ 50) then some (.bl true) else none
    | _, _ => none
theorem semEqX_of {d e : D} {z : D} (h : semEq d e = some z) : semEqX d e = some z := by unfold semEqX; rw [h]
section
variable {X : Cx} {g : G}
theorem opd_eqX (hu : X.A.units + 64 < cLine) : OpR X (compareOp .Eq) (rD2 X.K g semEqX) := by
  intro pins s sg H x y v u Q I rx ry h
  obtain ⟨F, s0, r, dx, dy, d, R, hx, hy, e, q⟩ := h
  unfold semEqX at e
  split at e
  · next z es =>
    cases e
    exact opd_eq hu pins s sg H x y v u Q I rx ry ⟨F, s0, r, dx, dy, d, R, hx, hy, es, q⟩
  · split at e
    · next ds es _ =>
      split at e
      · next hc =>
        cases e
        obtain ⟨hs, hd⟩ := Bool.and_eq_true_iff.mp hc
        have hd : dqAll ds ≤ 50 := of_decide_eq_true hd
        cases hx.rd R.sub with
        | tup a1 a2 =>
          cases hy.rd R.sub with
          | tup b1 b2 =>
            have r1 := (show v = _ from rx)
            have r2 := (show u = _ from ry)
            subst r1
            subst r2
            obtain ⟨its, rv, pl, _⟩ := I.tuple a1
            obtain ⟨its2, rv2, pl2, _⟩ := I.tuple b1
            have l1 := rv.length
            have l2 := rv2.length
            have l3 := a2.length
            have l4 := b2.length
            have l5 := sames_len hs
            refine SeqAt.dl_rcTup pl pl2 (by simp only [List.size_toArray]; omega) (by omega) (fun k g g' => ?_) _ _ ⟨.bl true, H, I, rfl, q F H _ (Same.refl _) R (.bl _)⟩
            have := items_same I (same_all I 50) hs hd a2 b2 rv rv2 k (by simpa using g) (by simpa using g') X.A.in1 (by rw [units_in1]; omega)
            simpa using this
      · cases e
    · next ds es _ =>
      split at e
      · next hc =>
        cases e
        obtain ⟨hs, hd⟩ := Bool.and_eq_true_iff.mp hc
        have hd : dqAll ds ≤ 50 := of_decide_eq_true hd
        cases hx.rd R.sub with
        | lst a1 a2 =>
          cases hy.rd R.sub with
          | lst b1 b2 =>
            have r1 := (show v = _ from rx)
            have r2 := (show u = _ from ry)
            subst r1
            subst r2
            obtain ⟨its, rv, pl, _⟩ := I.list (SqL.of a1)
            obtain ⟨its2, rv2, pl2, _⟩ := I.list (SqL.of b1)
            have l1 := rv.length
            have l2 := rv2.length
            have l3 := a2.length
            have l4 := b2.length
            have l5 := sames_len hs
            refine SeqAt.rcP_lists (e := fun _ => true) pl.isList pl2.isList (by simp only [List.size_toArray]; omega) (by omega) (fun k g g' => ?_) _ _ ?_
            · have := items_same I (same_all I 50) hs hd a2 b2 rv rv2 k (by simpa using g) (by simpa using g') X.A.in1 (by rw [units_in1]; omega)
              simpa using this
            · rw [show ((List.range its.toArray.size).all fun _ => true) = true from List.all_eq_true.mpr fun _ _ => rfl]
              exact ⟨.bl true, H, I, rfl, q F H _ (Same.refl _) R (.bl _)⟩
      · cases e
    · cases e
end
end DL

/-! Data layer, part 56: set(e) of a list or a tuple of tuples;  -/
namespace DL
open PySem L2 PyProof.Rows PySem.Froz
theorem takeS {α : Type} {l : List α} {i : Nat} {x : α} (e : l[i]? = some x) : l.take (i + 1) = l.take i ++ [x] := by
  rw [List.take_succ, e]
  rfl
theorem GotN.add {ks L L' : List KA} {i : Nat} {x : KA} (g : GotN ks i L) (e : ks[i]? = some x) (c1 : x.2 ∈ L.map (·.2) → L' = L) (c2 : x.2 ∉ L.map (·.2) → L'.Perm (x :: L)) : GotN ks (i + 1) L' := by
  have eT := takeS e
  rcases Classical.em (x.2 ∈ L.map (·.2)) with c | c
  · rw [c1 c]
    refine ⟨fun p hp => ?_, fun p hp => ?_, Nat.le_succ_of_le g.len⟩
    · rw [eT]; exact List.mem_append_left _ (g.sub p hp)
    · rw [eT] at hp
      rcases List.mem_append.mp hp with z | z
      · exact g.all p z
      · rw [List.mem_singleton.mp z]; exact c
  · have pm := c2 c
    refine ⟨fun p hp => ?_, fun p hp => ?_, by rw [pm.length_eq]; exact Nat.succ_le_succ g.len⟩
    · rw [eT]
      rcases List.mem_cons.mp (pm.mem_iff.mp hp) with z | z
      · rw [z]; exact List.mem_append_right _ (List.mem_singleton.mpr rfl)
      · exact List.mem_append_left _ (g.sub p z)
    · rw [(pm.map (·.2)).mem_iff, List.map_cons]
      rw [eT] at hp
      rcases List.mem_append.mp hp with z | z
      · exact List.mem_cons_of_mem _ (g.all p z)
      · rw [List.mem_singleton.mp z]; exact List.mem_cons_self
section
variable {P : Program} {w : World} {A : Around} {E : Value → Shared → Prop} {s : Shared}
theorem SetN.up {h h' : Heap} {a : Addr} {L : List KA} {es : Array (Int × Value)} {ep : Nat} {t : SetTable} (R : SetN w h a L es ep t) (ka : ∀ o, h.get? a = some o → h'.get? a = some o) (kt : ∀ p ∈ L, IsN h' p.2 p.1) : SetN w h' a L es ep t := by
  obtain ⟨o, oa, r⟩ := R.ob
  exact ⟨⟨o, ka o oa, r⟩, R.rows, R.tab, R.nd, kt, R.led, R.room, R.few⟩
theorem setN_new {h : Heap} {a : Addr} (ho : h.get? a = some (set0 w)) : SetN w h a [] #[] 0 (.fresh 0 0 (!w.params.followText "set-order")) :=
  ⟨⟨_, ho, ⟨rfl, rfl, rfl⟩, rfl⟩, rfl, ⟨List.Pairwise.nil, rfl, rfl, .inl rfl, fun x hx => (by cases hx), fun i h j hi => (by simp [hN] at hi)⟩, List.nodup_nil, fun p hp => (by cases hp), by
    show _ ∨ (!w.params.followText "set-order") = true
    cases w.params.followText "set-order"
    · exact .inr rfl
    · exact .inl rfl, by
    show 0 * 5 < 7 * 3
    decide, by
    show 0 < 64
    decide⟩
/-- the set at S has what stands among the first i -/
def SoFar (w : World) (ks : List KA) (S : Addr) (i : Nat) (h : Heap) : Prop := ∃ L es ep t, SetN w h S L es ep t ∧ GotN ks i L
theorem setN_update {I : Addr} {fp wr : List Addr} {G : Array GenState → Array GenState → Prop} {n : Nat} {Pv : Nat → Value → Prop} {St : Nat → Shared → Prop} {R : Result → Shared → Prop}
    (W : WalksS P w A.in1 I fp wr G n Pv St) (S : Addr) (hSf : S ∉ fp) (ks : List KA) (hn : n = ks.length) (few : ks.length < 64) (val : ∀ i v, Pv i v → ∃ p, ks[i]? = some p ∧ v = .ref p.1)
    (h0 : Heap) (hk : ∀ p ∈ ks, IsN h0 p.2 p.1) (hS0 : h0.get? S = none) (hw0 : ∀ b ∈ wr, h0.get? b = none) (hu : A.in1.units + 8 < cLine) :
    ∀ (k i : Nat) (s : Shared), n - i = k → i ≤ n → St i s → (∀ b o, h0.get? b = some o → s.heap.get? b = some o) → SoFar w ks S i s.heap →
      (∀ s', Moved (S :: wr) G s s' → SoFar w ks S n s'.heap → (∀ b o, h0.get? b = some o → s'.heap.get? b = some o) → R (.ok (.ret .none)) s') →
      codeAny (model P w) A (.builtin "set.update.loop" ⟨[.ref S, .ref I], []⟩) R s := by
  have nSw : S ∉ wr := fun h => hSf (W.sub _ h)
  have wsub : ∀ b ∈ wr, b ∈ S :: wr := fun b hb => List.mem_cons_of_mem _ hb
  have kM : ∀ {s s' : Shared}, Moved wr G s s' → (∀ b o, h0.get? b = some o → s.heap.get? b = some o) → ∀ b o, h0.get? b = some o → s'.heap.get? b = some o := fun hm kp b o e =>
    hm.heap b o (fun hb => by rw [hw0 b hb] at e; cases e) (kp b o e)
  intro k
  induction k with
  | zero =>
    intro i s hk' hi st kp ⟨L, es, ep, t, hS, g⟩ hR
    obtain rfl : i = n := by omega
    refine codeAny_builtin F.entry_set_update_loop ?_
    rw [Around.under_plainId F.plain_set_update_loop _]
    show wpAny _ A.in1 (pyNext (.ref I) >>= _) _ _ s
    refine wpAny_bind (W.done s _ _ st fun s' hm => ?_)
    show wpAny _ A.in1 (ret Value.none) _ _ s'
    have kp' := kM hm kp
    exact wpAny_pure (hR s' (hm.mono wsub) ⟨L, es, ep, t, hS.up (fun o e => hm.heap S o nSw e) fun p hp => (hk p (List.mem_of_mem_take (g.sub p hp))).up kp', g⟩ kp')
  | succ k ih =>
    intro i s hk' hi st kp ⟨L, es, ep, t, hS, g⟩ hR
    have hlt : i < n := by omega
    refine codeAny_builtin F.entry_set_update_loop ?_
    rw [Around.under_plainId F.plain_set_update_loop _]
    show wpAny _ A.in1 (pyNext (.ref I) >>= _) _ _ s
    refine wpAny_bind (W.item i s _ _ hlt st fun v s' hP st' hm => ?_)
    obtain ⟨p, hp, rfl⟩ := val i v hP
    have kp' := kM hm kp
    have hS' : SetN w s'.heap S L es ep t := hS.up (fun o e => hm.heap S o nSw e) fun q hq => (hk q (List.mem_of_mem_take (g.sub q hq))).up kp'
    have hx : IsN s'.heap p.2 p.1 := (hk p (List.mem_of_getElem? hp)).up kp'
    show wpAny _ A.in1 (holding [Value.ref p.1] (setAdd S (.ref p.1)) >>= _) _ _ s'
    refine wpAny_bind (wpAny_holding ?_)
    unfold setAdd
    refine wpAny_holding (wpAny_bind ((nestedKind P w).pyHash hu hx.knd ?_))
    have gl := g.len
    refine setN_add (s := { s' with toks := s'.toks + p.2.draws }) hS' hx hu (by omega) fun b h' L' es' ep' t' sb hS2 c1 c2 => ?_
    have kp2 : ∀ b o, h0.get? b = some o → h'.get? b = some o := fun b o e => (sb.2 b (fun z => by rw [z, hS0] at e; cases e)).trans (kp' b o e)
    refine wpAny_pure ⟨plainId_quiet F.plain_set_update_loop _, ih (i + 1) _ (by omega) hlt (W.frame _ s' _ _ st' (Nat.le_add_right _ _) fun b hb o e => ?_) kp2 ⟨L', es', ep', t', hS2, g.add hp c1 c2⟩ fun s'' hm2 hS3 kp3 => ?_⟩
    · rw [sb.2 b (fun z : b = S => hSf (by rw [← z]; exact hb))]; exact e
    · refine hR s'' (Moved.trans W.gtrans ((hm.mono wsub).then_heap (Nat.le_add_right _ _) fun b o hb e => ?_) hm2) hS3 kp3
      rw [sb.2 b (fun z : b = S => hb (by rw [z]; exact List.mem_cons_self))]; exact e
/-- the loop over tuples -/
theorem loopN {it : Obj} {fp wr : List Addr} {Pv : Nat → Value → Prop} {St : Nat → Shared → Prop} {G : Array GenState → Array GenState → Prop} (ks : List KA) (few : ks.length < 64)
    (W : WalksS P w A.in1 (s.heap.push (set0 w)).objs.size fp wr G ks.length Pv St) (nS : s.heap.objs.size ∉ fp) (val : ∀ i v, Pv i v → ∃ p, ks[i]? = some p ∧ v = .ref p.1) (hk : ∀ p ∈ ks, IsN s.heap p.2 p.1) (hu : A.in1.units + 8 < cLine) (old : ∀ b ∈ wr, s.heap.objs.size ≤ b)
    (Geq : ∀ g g', G g g' → g' = g) (st : St 0 { s with heap := (s.heap.push (set0 w)).push it }) (R : Result → Shared → Prop)
    (hR : ∀ h' tk, SoFar w ks s.heap.objs.size ks.length h' → (∀ b o, s.heap.get? b = some o → h'.get? b = some o) → R (.ok (.ret .none)) { s with heap := h', toks := tk }) :
    codeAny (model P w) A (.builtin "set.update.loop" ⟨[.ref s.heap.objs.size, .ref (s.heap.push (set0 w)).objs.size], []⟩) R { s with heap := (s.heap.push (set0 w)).push it } := by
  have hS : (s.heap.push (set0 w)).get? s.heap.objs.size = some (set0 w) := Heap.get?_push_size _ rfl
  have gone : ∀ b, s.heap.objs.size ≤ b → s.heap.get? b = none := fun b hb => by
    cases q : s.heap.get? b with
    | none => rfl
    | some o => exact absurd (Nat.lt_of_lt_of_le (Heap.lt_size q) hb) (Nat.lt_irrefl _)
  refine setN_update W s.heap.objs.size nS ks rfl few val s.heap hk (gone _ (Nat.le_refl _)) (fun b hb => gone b (old b hb)) hu (ks.length - 0) 0 _ rfl (Nat.zero_le _) st (fun b o e => Heap.get?_push_of_some _ (Heap.get?_push_of_some _ e))
    ⟨[], #[], 0, _, setN_new (Heap.get?_push_of_some _ hS), ⟨fun p h => (by cases h), fun p h => (by simp at h), Nat.le_refl _⟩⟩ fun s' hm hS' kp => ?_
  obtain ⟨h', g2, d', tk', os'⟩ := s'
  have eg : g2 = s.gens := Geq _ _ hm.gens
  have ed : d' = s.drawn := hm.drawn
  have eo : os' = s.os := hm.os
  subst eg; subst ed; subst eo
  exact hR h' tk' hS' kp
theorem call_setN {l : Addr} {items : Array Value} (ks : List KA) {Q : Value → Shared → Prop} (hh : A.handled = none) (hl : s.heap.IsList l items) (hit : items.toList = ks.map fun p => Value.ref p.1)
    (hk : ∀ p ∈ ks, IsN s.heap p.2 p.1) (few : ks.length < 64) (hu : A.units + 12 < cLine)
    (h : ∀ (h' : Heap) (tk : Nat), SoFar w ks s.heap.objs.size ks.length h' → (∀ b o, s.heap.get? b = some o → h'.get? b = some o) → Q (.ref s.heap.objs.size) { s with heap := h', toks := tk }) :
    wpAny (model P w) A (call (.type "set") [.ref l]) Q E s := by
  obtain ⟨o, ho, hc⟩ := id hl
  have hisz : items.size = ks.length := by
    have q := congrArg List.length hit
    rw [Array.length_toList, List.length_map] at q
    exact q
  have val : ∀ (i : Nat) (v : Value), items[i]? = some v → ∃ p, ks[i]? = some p ∧ v = .ref p.1 := fun i v hv => by
    have q : items.toList[i]? = some v := by rw [Array.getElem?_toList]; exact hv
    rw [hit, List.getElem?_map] at q
    cases hq : ks[i]? with
    | none => rw [hq] at q; cases q
    | some p =>
      rw [hq] at q
      exact ⟨p, rfl, (Option.some.inj q).symm⟩
  have hu3 : A.in1.in1.in1.units + 8 < cLine := by
    have e : A.in1.in1.in1.units ≤ A.units + 4 := by first | exact Nat.le_add_right _ _ | (simp [Around.in1]; done)
    omega
  have hh3 : A.in1.in1.in1.handled = none := by simp [hh]
  have WW := (Walks.list (prog := P) (w := w) hh3 (s.heap.push (set0 w)).objs.size l (ne1 ho (set0 w)) items).toS
  rw [hisz] at WW
  refine call_set_of (it := { cls := .type "list_iterator", data := .fields #[.ref l, .int 0 0] }) hl F.sub_list_set F.sub_list_frozenset (by decide) (fun e q => wpAny_pyIter_list (by rw [e]; exact hl.push _) q) (fun R hR => loopN ks few WW (notIn2 ho _) val hk hu3 (old1 _) (fun _ _ z => z) ⟨⟨_, Heap.get?_push_size _ rfl, rfl, rfl⟩, ((hl.push _).push _)⟩ R hR) h
theorem call_setNT {l : Addr} {items : Array Value} (ks : List KA) {Q : Value → Shared → Prop} (hh : A.handled = none) (hl : s.heap.IsTuple l items) (hit : items.toList = ks.map fun p => Value.ref p.1)
    (hk : ∀ p ∈ ks, IsN s.heap p.2 p.1) (few : ks.length < 64) (hu : A.units + 12 < cLine)
    (h : ∀ (h' : Heap) (tk : Nat), SoFar w ks s.heap.objs.size ks.length h' → (∀ b o, s.heap.get? b = some o → h'.get? b = some o) → Q (.ref s.heap.objs.size) { s with heap := h', toks := tk }) :
    wpAny (model P w) A (call (.type "set") [.ref l]) Q E s := by
  obtain ⟨o, ho, hc⟩ := id hl
  have hisz : items.size = ks.length := by
    have q := congrArg List.length hit
    rw [Array.length_toList, List.length_map] at q
    exact q
  have val : ∀ (i : Nat) (v : Value), items[i]? = some v → ∃ p, ks[i]? = some p ∧ v = .ref p.1 := fun i v hv => by
    have q : items.toList[i]? = some v := by rw [Array.getElem?_toList]; exact hv
    rw [hit, List.getElem?_map] at q
    cases hq : ks[i]? with
    | none => rw [hq] at q; cases q
    | some p =>
      rw [hq] at q
      exact ⟨p, rfl, (Option.some.inj q).symm⟩
  have hu3 : A.in1.in1.in1.units + 8 < cLine := by
    have e : A.in1.in1.in1.units ≤ A.units + 4 := by first | exact Nat.le_add_right _ _ | (simp [Around.in1]; done)
    omega
  have hh3 : A.in1.in1.in1.handled = none := by simp [hh]
  have WW := (Walks.tuple (prog := P) (w := w) hh3 (s.heap.push (set0 w)).objs.size l (ne1 ho (set0 w)) items).toS
  rw [hisz] at WW
  refine call_set_of (it := { cls := .type "tuple_iterator", data := .fields #[.ref l, .int 0 0] }) hl F.sub_tuple_set F.sub_tuple_frozenset (by decide) (fun e q => wpAny_pyIter_tuple (by rw [e]; exact hl.push _) q) (fun R hR => loopN ks few WW (notIn2 ho _) val hk hu3 (old1 _) (fun _ _ z => z) ⟨⟨_, Heap.get?_push_size _ rfl, rfl, rfl⟩, ((hl.push _).push _)⟩ R hR) h
end
end DL

/-! Data layer, part 57: set(e), sorted(set(e)) and len(set(e)) of texts or tuples, by data. -/
namespace DL
open PySem L2 PyProof.Rows PySem.Froz
/-! keys tell data without truths apart -/
mutual
def D.nob : D → Bool
  | .non => true
  | .int _ => true
  | .str _ => true
  | .tup ds => nobs ds
  | _ => false
def nobs : List D → Bool
  | [] => true
  | d :: ds => d.nob && nobs ds
end
theorem nks_cons {d : D} {ds : List D} {ks : List NestedKey} (h : nks (d :: ds) = some ks) : ∃ k r, d.nk = some k ∧ nks ds = some r ∧ ks = k :: r := by
  have e : (d.nk.bind fun k => (nks ds).map fun ks => k :: ks) = some ks := h
  obtain ⟨k, e1, e2⟩ := Option.bind_eq_some_iff.mp e
  obtain ⟨r, e3, rfl⟩ := Option.map_eq_some_iff.mp e2
  exact ⟨k, r, e1, e3, rfl⟩
theorem nk_tup {ds : List D} {k : NestedKey} (h : (D.tup ds).nk = some k) : ∃ ks, nks ds = some ks ∧ k = .tup ks := by
  have e : (nks ds).map NestedKey.tup = some k := h
  obtain ⟨ks, e1, rfl⟩ := Option.map_eq_some_iff.mp e
  exact ⟨ks, e1, rfl⟩
mutual
theorem nk_inj : ∀ (d d' : D) (k : NestedKey), d.nob = true → d'.nob = true → d.nk = some k → d'.nk = some k → d = d'
  | .non, d', k, _, h', e, e' => by
    cases e
    cases d' with
    | non => rfl
    | tup ds => obtain ⟨_, _, z⟩ := nk_tup e'; cases z
    | bl b => cases h'
    | _ => cases e'
  | .int i, d', k, _, h', e, e' => by
    cases e
    cases d' with
    | int j => cases e'; rfl
    | tup ds => obtain ⟨_, _, z⟩ := nk_tup e'; cases z
    | bl b => cases h'
    | _ => cases e'
  | .str x, d', k, _, h', e, e' => by
    cases e
    cases d' with
    | str y => cases e'; rfl
    | tup ds => obtain ⟨_, _, z⟩ := nk_tup e'; cases z
    | bl b => cases h'
    | _ => cases e'
  | .tup ds, d', k, h, h', e, e' => by
    obtain ⟨ks, e1, rfl⟩ := nk_tup e
    cases d' with
    | tup ds' =>
      obtain ⟨ks', e2, z⟩ := nk_tup e'
      cases z
      rw [nks_inj ds ds' ks h h' e1 e2]
    | bl b => cases h'
    | _ => cases e'
  | .bl _, _, _, h, _, _, _ => by cases h
  | .lst _, _, _, h, _, _, _ => by cases h
  | .dic _, _, _, h, _, _, _ => by cases h
  | .scr _, _, _, h, _, _, _ => by cases h
  | .obj _ _, _, _, h, _, _, _ => by cases h
theorem nks_inj : ∀ (ds ds' : List D) (ks : List NestedKey), nobs ds = true → nobs ds' = true → nks ds = some ks → nks ds' = some ks → ds = ds'
  | [], [], _, _, _, _, _ => rfl
  | [], d :: ds, ks, _, _, e, e' => by
    obtain ⟨k, r, _, _, rfl⟩ := nks_cons e'
    cases e
  | d :: ds, [], ks, _, _, e, e' => by
    obtain ⟨k, r, _, _, rfl⟩ := nks_cons e
    cases e'
  | d :: ds, d' :: ds', ks, h, h', e, e' => by
    obtain ⟨k, r, e1, e2, rfl⟩ := nks_cons e
    obtain ⟨k', r', f1, f2, z⟩ := nks_cons e'
    cases z
    obtain ⟨h1, h2⟩ := Bool.and_eq_true_iff.mp (show (d.nob && nobs ds) = true from h)
    obtain ⟨g1, g2⟩ := Bool.and_eq_true_iff.mp (show (d'.nob && nobs ds') = true from h')
    rw [nk_inj d d' k h1 g1 e1 f1, nks_inj ds ds' r h2 g2 e2 f2]
end
mutual
/-- equal data without truths are one -/
theorem eqv_nob : ∀ (d d' : D), d.nob = true → d'.nob = true → PyData.eqv d.py d'.py = true → d = d'
  | .non, d', _, h', e => by cases d' <;> first | rfl | (cases h'; done) | (simp [D.py, PyData.eqv] at e; done)
  | .int i, d', _, h', e => by
    cases d' with
    | int j =>
      have z : (i == j) = true := e
      rw [eq_of_beq z]
    | _ => first | (cases h'; done) | (simp [D.py, PyData.eqv] at e; done)
  | .str x, d', _, h', e => by
    cases d' with
    | str y =>
      have z : (x == y) = true := e
      rw [eq_of_beq z]
    | _ => first | (cases h'; done) | (simp [D.py, PyData.eqv] at e; done)
  | .tup ds, d', h, h', e => by
    cases d' with
    | tup ds' => rw [eqvs_nob ds ds' h h' e]
    | _ => first | (cases h'; done) | (simp [D.py, PyData.eqv] at e; done)
  | .bl _, _, h, _, _ => by cases h
  | .lst _, _, h, _, _ => by cases h
  | .dic _, _, h, _, _ => by cases h
  | .scr _, _, h, _, _ => by cases h
  | .obj _ _, _, h, _, _ => by cases h
theorem eqvs_nob : ∀ (ds ds' : List D), nobs ds = true → nobs ds' = true → PyData.eqvAll (pys ds) (pys ds') = true → ds = ds'
  | [], [], _, _, _ => rfl
  | [], d :: ds, _, _, e => by cases e
  | d :: ds, [], _, _, e => by cases e
  | d :: ds, d' :: ds', h, h', e => by
    obtain ⟨h1, h2⟩ := Bool.and_eq_true_iff.mp (show (d.nob && nobs ds) = true from h)
    obtain ⟨g1, g2⟩ := Bool.and_eq_true_iff.mp (show (d'.nob && nobs ds') = true from h')
    obtain ⟨e1, e2⟩ := Bool.and_eq_true_iff.mp (show (PyData.eqv d.py d'.py && PyData.eqvAll (pys ds) (pys ds')) = true from e)
    rw [eqv_nob d d' h1 g1 e1, eqvs_nob ds ds' h2 g2 e2]
end
/-! of alike data neither of which is less the two are equal -/
theorem toks_split {x y : PyData} {l m : List (Int ⊕ List Nat)} (h : PySem.W.alike x y = true) (e : PySem.W.keyToks x ++ l = PySem.W.keyToks y ++ m) : PyData.eqv x y = true := by
  cases z : PyData.eqv x y with
  | true => rfl
  | false =>
    have key : ∀ u v, PyProof.Rows.lexLt PyProof.Rows.itemOrd u v = PyProof.Rows.lexLt PyProof.Rows.itemOrd (PySem.W.keyToks x) (PySem.W.keyToks y) := fun u v => by
      have k := (PySem.W.toks_eqv x y h).2 z (l ++ u) (m ++ v)
      rw [← List.append_assoc, ← List.append_assoc, e, PySem.W.lex_pre] at k
      exact k
    have c := (key [] [.inl 0]).trans (key [.inl 0] []).symm
    cases c
theorem lz_eq : ∀ (xs ys : List PyData), lzAll xs ys = true → PySem.W.keyToksAll xs = PySem.W.keyToksAll ys → PyData.eqvAll xs ys = true
  | [], [], _, _ => rfl
  | [], y :: ys, _, e => by
    rw [PySem.W.toks_all_cons] at e
    simp [PySem.W.keyToksAll] at e
  | x :: xs, [], _, e => by
    rw [PySem.W.toks_all_cons] at e
    simp [PySem.W.keyToksAll] at e
  | x :: xs, y :: ys, h, e => by
    obtain ⟨z1, z2⟩ := lz_cons h
    rw [PySem.W.toks_all_cons, PySem.W.toks_all_cons] at e
    have e1 := (List.cons.inj e).2
    have ev := toks_split z1 e1
    rw [(PySem.W.toks_eqv x y z1).1 ev] at e1
    rw [PySem.W.eqv_all_cons, ev, lz_eq xs ys (z2 ev) (List.append_cancel_left e1)]
    rfl
theorem both_le {a b : PyData} (hp : PySem.W.alike a b = true ∨ lzP a b = true) (h1 : PySem.W.dataLt a b = false) (h2 : PySem.W.dataLt b a = false) : PyData.eqv a b = true := by
  have e : PySem.W.keyToks a = PySem.W.keyToks b := PyProof.Rows.lex_total (O := PyProof.Rows.itemOrd) _ _ h1 h2
  rcases hp with hp | hp
  · exact toks_split (l := []) (m := []) hp (by rw [e])
  · obtain ⟨x, xs, y, ys, rfl, rfl, z⟩ := lzP_of hp
    exact lz_eq _ _ z e
theorem SrtOk.pair {ds : List PyData} (k : SrtOk ds) {d d' : PyData} (h : d ∈ ds) (h' : d' ∈ ds) : PySem.W.alike d d' = true ∨ lzP d d' = true := by
  rcases k with ⟨k, _⟩ | k
  · exact .inl (k d h d' h')
  · exact .inr (k d h d' h')
theorem SrtOk.perm {ds es : List PyData} (k : SrtOk ds) (p : ∀ x, x ∈ es → x ∈ ds) : SrtOk es := by
  rcases k with ⟨k1, k2⟩ | k
  · refine .inl ⟨fun d h d' h' => k1 d (p d h) d' (p d' h'), ?_⟩
    rcases k2 with k2 | k2
    · exact .inl fun d h => k2 d (p d h)
    · exact .inr fun d h => k2 d (p d h)
  · exact .inr fun d h d' h' => k d (p d h) d' (p d' h')
/-- sorted whatever the order was -/
theorem sort_one_of {ds es : List D} (p : es.Perm ds) (k : SrtOk (ds.map D.py)) (nb : ∀ d ∈ ds, d.nob = true) : es.mergeSort (PySem.W.dataLe false D.py) = ds.mergeSort (PySem.W.dataLe false D.py) := by
  have T := PySem.W.sortLe_total (PyProof.Rows.listOrd PyProof.Rows.itemOrd) false fun b : D => PySem.W.keyToks b.py
  have tot : ∀ a b : D, (PySem.W.dataLe false D.py a b || PySem.W.dataLe false D.py b a) = true := fun a b => by
    rw [Bool.or_eq_true]
    exact T.total a b
  refine List.Perm.eq_of_pairwise (le := fun a b => PySem.W.dataLe false D.py a b = true) (fun a b ha hb h1 h2 => ?_) (List.pairwise_mergeSort T.trans tot _) (List.pairwise_mergeSort T.trans tot _) ((List.mergeSort_perm _ _).trans (p.trans (List.mergeSort_perm _ _).symm))
  have ma : a ∈ ds := p.mem_iff.mp ((List.mergeSort_perm _ _).mem_iff.mp ha)
  have mb : b ∈ ds := (List.mergeSort_perm _ _).mem_iff.mp hb
  have g1 : PySem.W.dataLt b.py a.py = false := by
    have z : (!PySem.W.dataLt b.py a.py) = true := h1
    rwa [Bool.not_eq_true'] at z
  have g2 : PySem.W.dataLt a.py b.py = false := by
    have z : (!PySem.W.dataLt a.py b.py) = true := h2
    rwa [Bool.not_eq_true'] at z
  exact eqv_nob a b (nb a ma) (nb b mb) (both_le (k.pair (List.mem_map.mpr ⟨a, ma, rfl⟩) (List.mem_map.mpr ⟨b, mb, rfl⟩)) g2 g1)
/-! each once -/
def insD (l : List D) (d : D) : List D := if d.nk ∈ l.map D.nk then l else l ++ [d]
def dedD (ds : List D) : List D := ds.foldl insD []
theorem insD_keys {l : List D} {d : D} (h : (l.map D.nk).Nodup) : ((insD l d).map D.nk).Nodup := by
  unfold insD
  split
  · exact h
  · next q =>
    rw [List.map_append]
    refine List.nodup_append.mpr ⟨h, by simp, fun a ha b hb => ?_⟩
    rw [List.map_cons, List.map_nil, List.mem_singleton] at hb
    exact fun e => q (by rw [← hb, ← e]; exact ha)
theorem insD_mem {l : List D} {d x : D} (h : x ∈ insD l d) : x ∈ l ∨ x = d := by
  unfold insD at h
  split at h
  · exact .inl h
  · exact (List.mem_append.mp h).imp id List.mem_singleton.mp
theorem insD_key {l : List D} {d : D} {k : Option NestedKey} : k ∈ (insD l d).map D.nk ↔ k ∈ l.map D.nk ∨ k = d.nk := by
  unfold insD
  split
  · next h => exact ⟨.inl, fun z => z.elim id fun e => e ▸ h⟩
  · rw [List.map_append, List.mem_append, List.map_cons, List.map_nil, List.mem_singleton]
theorem ded_go : ∀ (ds l : List D), (l.map D.nk).Nodup → ((ds.foldl insD l).map D.nk).Nodup ∧ (∀ x ∈ ds.foldl insD l, x ∈ l ∨ x ∈ ds) ∧ (∀ k, k ∈ (ds.foldl insD l).map D.nk ↔ k ∈ l.map D.nk ∨ k ∈ ds.map D.nk)
  | [], l, h => ⟨h, fun x hx => .inl hx, fun k => by simp⟩
  | d :: ds, l, h => by
    obtain ⟨h1, h2, h3⟩ := ded_go ds (insD l d) (insD_keys h)
    refine ⟨h1, fun x hx => ?_, fun k => ?_⟩
    · rcases h2 x hx with z | z
      · exact (insD_mem z).imp id fun e => by rw [e]; exact List.mem_cons_self
      · exact .inr (List.mem_cons_of_mem _ z)
    · show k ∈ (ds.foldl insD (insD l d)).map D.nk ↔ _
      rw [h3 k, insD_key, List.map_cons, List.mem_cons, or_assoc]
theorem dedD_keys (ds : List D) : ((dedD ds).map D.nk).Nodup := (ded_go ds [] List.nodup_nil).1
theorem dedD_sub {ds : List D} {x : D} (h : x ∈ dedD ds) : x ∈ ds := ((ded_go ds [] List.nodup_nil).2.1 x h).elim (fun z => by cases z) id
theorem dedD_key (ds : List D) (k : Option NestedKey) : k ∈ (dedD ds).map D.nk ↔ k ∈ ds.map D.nk := by
  rw [show (k ∈ (dedD ds).map D.nk ↔ _) from (ded_go ds [] List.nodup_nil).2.2 k]
  simp
def keyB (d : D) : Bool := d.key8.isSome && d.nob
theorem keyB_nk {d : D} (h : keyB d = true) : ∃ k, d.nk = some k ∧ k.depth ≤ 8 ∧ d.nob = true ∧ d.key8 = some k := by
  obtain ⟨h1, h2⟩ := Bool.and_eq_true_iff.mp h
  obtain ⟨k, e⟩ := Option.isSome_iff_exists.mp h1
  unfold D.key8 at e
  cases d with
  | tup ds =>
    obtain ⟨ks, e1, e2⟩ := Option.bind_eq_some_iff.mp e
    split at e2
    · next hd =>
      cases e2
      exact ⟨.tup ks, by show (nks ds).map NestedKey.tup = _; rw [e1]; rfl, hd, h2, e⟩
    · cases e2
  | _ => cases e
theorem dedD_mem {ds : List D} (h : ∀ d ∈ ds, keyB d = true) (x : D) : x ∈ dedD ds ↔ x ∈ ds := by
  refine ⟨dedD_sub, fun hx => ?_⟩
  obtain ⟨y, hy, e⟩ := List.mem_map.mp ((dedD_key ds x.nk).mpr (List.mem_map.mpr ⟨x, hx, rfl⟩))
  obtain ⟨k, e1, _, e2, _⟩ := keyB_nk (h x hx)
  obtain ⟨_, _, _, e3, _⟩ := keyB_nk (h y (dedD_sub hy))
  rw [← nk_inj y x k e3 e2 (e.trans e1) e1]
  exact hy
theorem dedD_nodup (ds : List D) : (dedD ds).Nodup := nodup_of_map (dedD_keys ds)
theorem dedD_len (ds : List D) : (dedD ds).length ≤ ds.length := by
  have key : ∀ (ds l : List D), (ds.foldl insD l).length ≤ l.length + ds.length := fun ds => by
    induction ds with
    | nil => exact fun l => Nat.le_refl _
    | cons d ds ih =>
      intro l
      have h := ih (insD l d)
      have h2 : (insD l d).length ≤ l.length + 1 := by
        unfold insD
        split
        · omega
        · simp
      show (ds.foldl insD (insD l d)).length ≤ _
      rw [List.length_cons]
      omega
  have h := key ds []
  rw [List.length_nil, Nat.zero_add] at h
  exact h
/-- what a set has of data each of which can be a key -/
theorem RDn.got {K : PySem.W.Frag} {F : Hp} {ks : List KA} {ds : List D} (r : RDn K F ks ds) (hb : ∀ d ∈ ds, keyB d = true) {L : List KA} (nd : (L.map (·.2)).Nodup) (g : GotN ks ks.length L) : ∃ es, RDn K F L es ∧ es.Perm (dedD ds) := by
  have at_ : ∀ {ks : List KA} {ds : List D}, RDn K F ks ds → ∀ p ∈ ks, ∃ d ∈ ds, RD K F (.ref p.1) d ∧ d.nk = some p.2 ∧ p.2.depth ≤ 8 := by
    intro ks ds r
    induction r with
    | nil => intro p hp; cases hp
    | cons h1 h2 _ ih =>
      intro p hp
      rcases List.mem_cons.mp hp with rfl | hp
      · exact ⟨_, List.mem_cons_self, h1, h2.1, h2.2⟩
      · obtain ⟨d, hd, z⟩ := ih p hp
        exact ⟨d, List.mem_cons_of_mem _ hd, z⟩
  have back : ∀ {ks : List KA} {ds : List D}, RDn K F ks ds → ∀ d ∈ ds, ∃ p ∈ ks, d.nk = some p.2 := by
    intro ks ds r
    induction r with
    | nil => intro p hp; cases hp
    | cons h1 h2 _ ih =>
      intro d hd
      rcases List.mem_cons.mp hd with rfl | hd
      · exact ⟨_, List.mem_cons_self, h2.1⟩
      · obtain ⟨p, hp, z⟩ := ih d hd
        exact ⟨p, List.mem_cons_of_mem _ hp, z⟩
  have mk : ∀ L : List KA, (∀ p ∈ L, p ∈ ks) → ∃ es, RDn K F L es ∧ (∀ e ∈ es, e ∈ ds) ∧ es.map D.nk = L.map fun p => some p.2 := by
    intro L
    induction L with
    | nil => exact fun _ => ⟨[], .nil, fun e h => (by cases h), rfl⟩
    | cons p L ih =>
      intro h
      obtain ⟨es, e1, e2, e3⟩ := ih fun q hq => h q (List.mem_cons_of_mem _ hq)
      obtain ⟨d, hd, z1, z2, z3⟩ := at_ r p (h p List.mem_cons_self)
      refine ⟨d :: es, .cons z1 ⟨z2, z3⟩ e1, fun e he => ?_, by rw [List.map_cons, List.map_cons, e3, z2]⟩
      rcases List.mem_cons.mp he with rfl | he
      · exact hd
      · exact e2 e he
  have sub : ∀ p ∈ L, p ∈ ks := fun p hp => List.mem_of_mem_take (g.sub p hp)
  obtain ⟨es, e1, e2, e3⟩ := mk L sub
  refine ⟨es, e1, (List.perm_ext_iff_of_nodup ?_ (dedD_nodup ds)).mpr fun x => ?_⟩
  · refine nodup_of_map (f := D.nk) ?_
    rw [e3]
    have z := List.Pairwise.map (f := fun k : NestedKey => some k) (S := (· ≠ ·)) (R := (· ≠ ·)) (fun a b h e => h (Option.some.inj e)) nd
    rw [List.map_map] at z
    exact z
  · rw [dedD_mem hb]
    refine ⟨e2 x, fun hx => ?_⟩
    obtain ⟨p, hp, ep⟩ := back r x hx
    have hk := g.all p (by rw [List.take_length]; exact hp)
    obtain ⟨q, hq, eq⟩ := List.mem_map.mp hk
    have hz : some q.2 ∈ es.map D.nk := by rw [e3]; exact List.mem_map.mpr ⟨q, hq, rfl⟩
    obtain ⟨y, hy, ey⟩ := List.mem_map.mp hz
    obtain ⟨k, a1, _, a2, _⟩ := keyB_nk (hb x hx)
    obtain ⟨_, _, _, a3, _⟩ := keyB_nk (hb y (e2 y hy))
    rw [← nk_inj y x k a3 a2 (by rw [ey, eq, ← ep, a1]) a1]
    exact hy
/-! ### set(e) -/
/-- a sequence of tuples that can be keys, read -/
theorem RDs.rdn {K : PySem.W.Frag} {F : Hp} : ∀ {ds : List D} {vs : List V}, (∀ d ∈ ds, keyB d = true) → RDs K F vs ds → ∃ ks : List KA, vs = ks.map (fun p => V.ref p.1) ∧ RDn K F ks ds
  | [], _, _, h => by cases h; exact ⟨[], rfl, .nil⟩
  | d :: ds, _, hb, h => by
    cases h with
    | cons h1 h2 =>
      obtain ⟨ks, rfl, r⟩ := RDs.rdn (fun e he => hb e (List.mem_cons_of_mem _ he)) h2
      obtain ⟨k, e1, e2, _, e3⟩ := keyB_nk (hb d List.mem_cons_self)
      obtain ⟨b, rfl, _, z1, z2, z3⟩ := key8_at (Same.refl _) h1 e3
      exact ⟨(b, k) :: ks, rfl, .cons z1 ⟨z2, z3⟩ r⟩
theorem RDn.keys {K : PySem.W.Frag} {F H : Hp} (sub : Same F H) : ∀ {ds : List D} {ks : List KA}, RDn K F ks ds → ∀ p ∈ ks, KeyAt K H p.2 p.1
  | [], _, h, p, hp => by cases h; cases hp
  | d :: ds, _, h, p, hp => by
    cases h with
    | cons h1 h2 h3 =>
      rcases List.mem_cons.mp hp with rfl | hp
      · exact ⟨d, RD.mono sub d h1, h2.1, h2.2⟩
      · exact RDn.keys sub h3 p hp
theorem RDn.length {K : PySem.W.Frag} {F : Hp} : ∀ {ds : List D} {ks : List KA}, RDn K F ks ds → ks.length = ds.length
  | [], _, h => by cases h; rfl
  | d :: ds, _, h => by
    cases h with
    | cons h1 h2 h3 => rw [List.length_cons, List.length_cons, RDn.length h3]
theorem KeyAt.isN {X : Cx} {pins : List (Addr × Obj)} {s : Shared} {H : Hp} {sg : L2.St} (I : L2.Inv X pins sg H s) {k : NestedKey} {b : Addr} (h : KeyAt X.K H k b) : IsN s.heap k b := by
  obtain ⟨kd, h1, h2, h3⟩ := h
  exact ⟨RD.nested I kd _ _ k h2 h1 rfl, h3⟩
theorem stO_new {w : World} {P : Program} {H : Hp} {h : Heap} {a : Addr} {ks L : List KA} (R : SetN0 w h a L) (G : GotN ks ks.length L) : ObjOk P w H h a (StO w a ks) := by
  refine ⟨⟨L, R, G⟩, ?_, fun h1 h2 p st => ?_⟩
  · obtain ⟨_, _, _, ⟨o, ho, _⟩, _⟩ := R
    exact ⟨o, ho⟩
  · obtain ⟨L, ⟨es, ep, t, ⟨o, ho, r⟩, z⟩, G⟩ := p
    exact ⟨L, ⟨es, ep, t, ⟨o, st o ho, r⟩, z⟩, G⟩
theorem vals_refs : ∀ {ks : List KA} {us : List Value}, Vals (ks.map fun p => V.ref p.1) us → us = ks.map fun p => Value.ref p.1
  | [], _, h => by cases h; rfl
  | p :: ks, _, h => by
    cases h with
    | cons r t =>
      cases r
      rw [vals_refs t]
      rfl
section
variable {X : Cx} {g : G} {e : Expr} {pos : Pos}
def rSet (X : Cx) : List V → Hp → VK → Prop := fun vs H Q =>
  (∃ (a : Addr) (ts : List Str), vs = [V.ref a] ∧ (SqL X.K H a (ts.map V.str) ∨ SqT X.K H a (ts.map V.str)) ∧ ts.length ≤ 4000 ∧ ∀ b, H b = none → Q (.ref b) (L2.upd H b (SetXO X.prog X.w b (addT [] ts)))) ∨
  (∃ (a : Addr) (ks : List KA), vs = [V.ref a] ∧ (SqL X.K H a (ks.map fun p => V.ref p.1) ∨ SqT X.K H a (ks.map fun p => V.ref p.1)) ∧ ks.length < 64 ∧ (∀ p ∈ ks, KeyAt X.K H p.2 p.1) ∧
    ∀ b, H b = none → Q (.ref b) (L2.upd H b (StO X.w b ks)))
theorem cr_set {k : Nat} (hr : Room k X.A) : CallR X (.type "set") (rSet X) := by
  intro pins s σ H vs us Q I r h
  have hun := hr.un
  rcases h with ⟨a, ts, rfl, hs, hl, q⟩ | ⟨a, ks, rfl, hs, hl, hk, q⟩
  · rw [Vals.ref1 r]
    have fin : ∀ (h' : Heap) (tk : Nat), SetX X.prog X.w h' s.heap.objs.size (addT [] ts) → (∀ b o, s.heap.get? b = some o → h'.get? b = some o) → EP X pins σ Q (.ref s.heap.objs.size) { s with heap := h', toks := tk } := fun h' tk R k => ⟨.ref _, _, I.laid (t' := tk) k (Nat.le_refl _) (setXO_new R), rfl, q _ (I.hok.fresh (Nat.le_refl _))⟩
    rcases hs with hs | hs
    · obtain ⟨its, rv, hli, hz⟩ := I.list hs
      have hlen : its.length = ts.length := by
        have := rv.length
        rw [List.length_map] at this
        exact this.symm
      exact call_setX ts hr.hd hli.isList (by rw [List.size_toArray]; exact hlen) (fun i v hv => Vals.strs_at rv i v (by simpa using hv)) (by unfold scanBound; omega) fin
    · obtain ⟨its, rv, hli, hz⟩ := I.tuple hs
      have hlen : its.length = ts.length := by
        have := rv.length
        rw [List.length_map] at this
        exact this.symm
      exact call_setXT ts hr.hd hli (by rw [List.size_toArray]; exact hlen) (fun i v hv => Vals.strs_at rv i v (by simpa using hv)) (by unfold scanBound; omega) fin
  · rw [Vals.ref1 r]
    have fin : ∀ (h' : Heap) (tk : Nat), SoFar X.w ks s.heap.objs.size ks.length h' → (∀ b o, s.heap.get? b = some o → h'.get? b = some o) → EP X pins σ Q (.ref s.heap.objs.size) { s with heap := h', toks := tk } := fun h' tk ⟨L, es, ep, t, R, g⟩ k => ⟨.ref _, _, I.laid (t' := tk) k (Nat.le_refl _) (stO_new R.t0 g), rfl, q _ (I.hok.fresh (Nat.le_refl _))⟩
    have isn : ∀ p ∈ ks, IsN s.heap p.2 p.1 := fun p hp => (hk p hp).isN I
    rcases hs with hs | hs
    · obtain ⟨its, rv, hli, hz⟩ := I.list hs
      exact call_setN ks hr.hd hli.isList (vals_refs rv) isn hl (by omega) fin
    · obtain ⟨its, rv, hli, hz⟩ := I.tuple hs
      exact call_setNT ks hr.hd hli (vals_refs rv) isn hl (by omega) fin
/-! ### sorted(set(e)) -/
theorem perm_map_inv {α β : Type} (f : α → β) {l : List α} {vs : List β} (p : vs.Perm (l.map f)) : ∃ l' : List α, vs = l'.map f ∧ l'.Perm l := by
  generalize e : l.map f = ws at p
  induction p generalizing l with
  | nil => exact ⟨[], rfl, by rw [List.map_eq_nil_iff.mp e]⟩
  | cons x _ ih =>
    obtain ⟨a, l2, rfl, rfl, e2⟩ := List.map_eq_cons_iff.mp e
    obtain ⟨l', rfl, q⟩ := ih e2
    exact ⟨a :: l', rfl, q.cons a⟩
  | swap x y l0 =>
    obtain ⟨a, l2, rfl, rfl, e2⟩ := List.map_eq_cons_iff.mp e
    obtain ⟨b, l3, rfl, rfl, e3⟩ := List.map_eq_cons_iff.mp e2
    exact ⟨b :: a :: l3, by rw [← e3]; rfl, List.Perm.swap a b l3⟩
  | trans _ _ ih1 ih2 =>
    obtain ⟨l2, rfl, q2⟩ := ih2 e
    obtain ⟨l1, e1, q1⟩ := ih1 rfl
    exact ⟨l1, e1, q1.trans q2⟩
theorem RDn.zip {K : PySem.W.Frag} {F : Hp} : ∀ {es : List D} {L : List KA}, RDn K F L es → ∃ Z : List (KA × D), Z.map (·.1) = L ∧ Z.map (·.2) = es ∧ ∀ z ∈ Z, RD K F (.ref z.1.1) z.2
  | [], _, h => by cases h; exact ⟨[], rfl, rfl, fun z hz => by cases hz⟩
  | e :: es, _, h => by
    cases h with
    | @cons a k _ L _ h1 h2 h3 =>
      obtain ⟨Z, z1, z2, z3⟩ := RDn.zip h3
      refine ⟨((a, k), e) :: Z, by rw [List.map_cons, z1], by rw [List.map_cons, z2], fun z hz => ?_⟩
      rcases List.mem_cons.mp hz with rfl | hz
      · exact h1
      · exact z3 z hz
theorem each_zip {K : PySem.W.Frag} {F : Hp} {R : Value → D → Prop} : ∀ (Z : List (KA × D)), (∀ z ∈ Z, R (.ref z.1.1) z.2) → PySem.W.EachIs R (Z.map fun z => Value.ref z.1.1) (Z.map (·.2))
  | [], _ => .nil
  | z :: Z, h => .cons (h z List.mem_cons_self) (each_zip (K := K) (F := F) Z fun y hy => h y (List.mem_cons_of_mem _ hy))
theorem sortedN {pins : List (Addr × Obj)} {s : Shared} {H F : Hp} {sg : L2.St} {a : Addr} {ks : List KA} {ds : List D} {Q : Value → Shared → Prop} {E : Value → Shared → Prop} (I : L2.Inv X pins sg H s) (sub : Same F H) (ha : H a = some (StO X.w a ks)) (r : RDn X.K F ks ds) (hb : ∀ d ∈ ds, keyB d = true) (pl : plAll (dedD ds) = true) (dp : dpAll (dedD ds) ≤ 40) (ok : SrtOk ((dedD ds).map D.py)) (hh : X.A.handled = none) (hu : X.A.units + 100 < cLine)
    (hQ : ∀ s' p (out : List Value) (c : Nat), (∀ b o, s.heap.get? b = some o → s'.heap.get? b = some o) → s'.gens = s.gens → s'.os = s.os → s.heap.objs.size ≤ p →
      s'.heap.get? p = some (seqObj "list" out.toArray c) → PySem.W.EachIs (fun v d => ∃ x, RelV x v ∧ RD X.K F x d) out ((dedD ds).mergeSort (PySem.W.dataLe false D.py)) → Q (.ref p) s') :
    wpAny (model X.prog X.w) X.A (call (.builtin "sorted") [.ref a]) Q E s := by
  obtain ⟨⟨L, R0, G⟩, _⟩ := I.hok a _ ha
  have kz := RDn.keys sub r
  have tup : ∀ p ∈ L, IsN s.heap p.2 p.1 := fun p hp => (kz p (List.mem_of_mem_take (G.sub p hp))).isN I
  obtain ⟨es0, ep, t, R⟩ := R0.full tup
  obtain ⟨es, re, pe⟩ := RDn.got r hb R.nd G
  obtain ⟨Z, z1, z2, z3⟩ := RDn.zip re
  obtain ⟨o, ho, hex, hd⟩ := R.ob
  have hsz := size_rw R.rows
  have hfew := R.few
  refine Calls.call_function_entry kind_sorted plain_sorted entry_sorted (args_sorted1 _) ?_
  unfold Builtin.«sorted»
  refine wpAny_bind (m := checkCount "sorted" 1 1 _) (wpAny_pure ?_)
  refine wpAny_bind (collect_set (A := X.A.in1) hh ⟨o, ho, hex.1, hd⟩ R.fits (by unfold scanBound; omega) R.tab.ris R.led fun s1 vs k1 hz g1 o1 pm => ?_)
  have ev : es0.toList.map (·.2) = Z.map fun z => Value.ref z.1.1 := by
    rw [R.rows, ← z1]
    unfold rwN
    rw [List.map_map, List.map_map]
    rfl
  rw [ev] at pm
  obtain ⟨Z', rfl, pZ⟩ := perm_map_inv _ pm
  have hvl : Z'.length < 64 := by
    have := pZ.length_eq
    have h2 := congrArg List.length z1
    rw [List.length_map] at h2
    omega
  have hvz : (Z'.map fun z => Value.ref z.1.1).length ≤ sizeLine := by rw [List.length_map, sizeLine_eq]; omega
  refine wpAny_bind (wpAny_newList ?_ hvz)
  have hoL : (s1.heap.push (seqObj "list" (Z'.map fun z => Value.ref z.1.1).toArray 0)).get? s1.heap.objs.size = some (seqObj "list" (Z'.map fun z => Value.ref z.1.1).toArray 0) := Heap.get?_push_size _ rfl
  have pD : (Z'.map (·.2)).Perm (dedD ds) := (pZ.map (·.2)).trans (by rw [z2]; exact pe)
  have memD : ∀ d ∈ Z'.map (·.2), d ∈ dedD ds := fun d hd => pD.mem_iff.mp hd
  have ok' : SrtOk ((Z'.map (·.2)).map D.py) := ok.perm fun x hx => by
    obtain ⟨d, hd, rfl⟩ := List.mem_map.mp hx
    exact List.mem_map.mpr ⟨d, memD d hd, rfl⟩
  have rdZ : ∀ z ∈ Z', RD X.K F (.ref z.1.1) z.2 := fun z hz => z3 z (pZ.mem_iff.mp hz)
  have e1 : PySem.W.EachIs (fun v d => ∃ x, RelV x v ∧ RD X.K F x d) (Z'.map fun z => Value.ref z.1.1) (Z'.map (·.2)) := each_zip (K := X.K) (F := F) Z' fun z hz => ⟨.ref z.1.1, rfl, rdZ z hz⟩
  have keep : ∀ b o, s.heap.get? b = some o → (PySem.W.sortingHeap (s1.heap.push (seqObj "list" (Z'.map fun z => Value.ref z.1.1).toArray 0)) s1.heap.objs.size (Z'.map fun z => Value.ref z.1.1)).get? b = some o := fun b o e => by
    have q := k1 b o e
    have lt := Heap.lt_size q
    exact PySem.W.sortingHeap_old (Nat.ne_of_lt lt) (Heap.get?_push_of_some _ q)
  have e2 : PySem.W.EachIs (fun v b => ∃ as, Reads (PySem.W.sortingHeap (s1.heap.push (seqObj "list" (Z'.map fun z => Value.ref z.1.1).toArray 0)) s1.heap.objs.size (Z'.map fun z => Value.ref z.1.1)) v (D.py b) as) (Z'.map fun z => Value.ref z.1.1) (Z'.map (·.2)) :=
    each_zip (K := X.K) (F := F) Z' fun z hz => by
      obtain ⟨as, rr⟩ := RD.reads I z.2 _ _ (plAll_mem pl z.2 (memD _ (List.mem_map.mpr ⟨z, hz, rfl⟩))) (RD.mono sub _ (rdZ z hz)) rfl
      exact ⟨as, PyProof.Rows.Reads.keeps keep rr⟩
  refine wpAny_bind (wpAny_holding (list_sort_ok hoL e1 e2 ok' (by rw [List.length_map, sizeLine_eq]; omega) (fun b hb => ?_) fun out ho2 eo => ?_))
  · have d1 := py_depth b (plAll_mem pl b (memD b hb))
    have d2 := dpAll_mem b (memD b hb)
    have hin : X.A.in1.units ≤ X.A.units + 1 := by
      first | exact Nat.le_refl _ | exact Nat.le_succ _
    omega
  · obtain ⟨c, hc⟩ := sortedHeap_at (vs := Z'.map fun z => Value.ref z.1.1) (out := out.toArray) hoL
    refine wpAny_pure ⟨_, rfl, hQ _ s1.heap.objs.size out c (fun b u e => ?_) g1 o1 hz hc ?_⟩
    · have q := k1 b u e
      have lt := Heap.lt_size q
      show (sortedHeap (s1.heap.push (seqObj "list" (Z'.map fun z => Value.ref z.1.1).toArray 0)) s1.heap.objs.size (Z'.map fun z => Value.ref z.1.1) out.toArray).get? b = some u
      rw [sortedHeap_old (Nat.ne_of_lt lt) (by rw [size_push']; exact Nat.lt_succ_of_lt lt)]
      exact Heap.get?_push_of_some _ q
    · rw [sort_one_of pD ok fun d hd => (keyB_nk (hb d (dedD_sub hd))).elim fun k h => h.2.2.1] at eo
      exact eo
/-- sorted of a set: of texts, of tuples -/
def rSrtS (X : Cx) (g : G) : List V → Hp → VK → Prop := fun vs H Q =>
  (∃ (a : Addr) (l : List Str), vs = [V.ref a] ∧ H a = some (SetXO X.prog X.w a l) ∧ l.length ≤ 4000 ∧ ∀ p, H p = none → Q (.ref p) (L2.upd H p (.lst ((l.mergeSort leT).map V.str)))) ∨
  (∃ (a : Addr) (ks : List KA) (ds : List D) (F : Hp), vs = [V.ref a] ∧ Same F H ∧ H a = some (StO X.w a ks) ∧ RDn X.K F ks ds ∧ (∀ d ∈ ds, keyB d = true) ∧ ds.length < 64 ∧ plAll (dedD ds) = true ∧ dpAll (dedD ds) ≤ 40 ∧ SrtOk ((dedD ds).map D.py) ∧
    ∀ p xs, H p = none → RDs X.K F xs ((dedD ds).mergeSort (PySem.W.dataLe false D.py)) → Q (.ref p) (L2.upd H p (.lst xs)))
theorem cr_srtS {k : Nat} (hr : Room k X.A) : CallR X (.builtin "sorted") (rSrtS X g) := by
  intro pins s σ H vs us Q I r h
  have hun := hr.un
  rcases h with h | ⟨a, ks, ds, F, rfl, sub, ha, rd, hb, hl, pl, dp, ok, q⟩
  · exact cr_srtX hr pins s σ H vs us Q I r h
  · rw [Vals.ref1 r]
    refine sortedN I sub ha rd hb pl dp ok hr.hd (by omega) fun s' p out c kk hg ho hp hpo eo => ?_
    obtain ⟨xs, v1, v2⟩ := each_rd eo
    have hz : xs.length ≤ sizeLine := by
      have := dedD_len ds
      rw [RDs.length v2, List.length_mergeSort, sizeLine_eq]
      omega
    have new : ObjOk X.prog X.w (L2.upd H p (.lst xs)) s'.heap p (.lst xs) := ⟨hz, out, c, v1, hpo⟩
    exact ⟨.ref p, _, I.call' (ch := []) ho (Un.laid kk hp (I.hok.fresh hp)) (I.hok.laid kk hp new) (by rw [hg]; exact I.bare) (fun _ z => nomatch z), rfl, q p xs (I.hok.fresh hp) v2⟩
/-- the data of a set put together -/
def setOk (ds : List D) : Bool := ds.all keyB && decide (ds.length < 64)
theorem setOk_of {ds : List D} (h : setOk ds = true) : (∀ d ∈ ds, keyB d = true) ∧ ds.length < 64 := by
  obtain ⟨h1, h2⟩ := Bool.and_eq_true_iff.mp h
  exact ⟨List.all_eq_true.mp h1, of_decide_eq_true h2⟩
def srtSet (ds : List D) : Option (List D) := match strsOf ds with
  | some ts => if ts.length ≤ 4000 then some ((srtT ts).map D.str) else none
  | none => if setOk ds = true then srtR (dedD ds) else none
def semSrtSet : List D → Option (List D)
  | [.lst ds] => srtSet ds
  | [.tup ds] => srtSet ds
  | _ => none
theorem semSrtSet_of (ts : List Str) (h : ts.length ≤ 4000) : semSrtSet [.lst (ts.map D.str)] = some ((srtT ts).map D.str) := by
  show srtSet _ = _
  unfold srtSet
  rw [strsOf_strs]
  exact if_pos h
theorem srtSet_run {vs : List V} {ds ys : List D} {F H : Hp} {a : Addr} {Q : VK} {s0 : L2.St} {r : En} (R : Rel X.K g F H s0 r) (hs : SqL X.K H a vs ∨ SqT X.K H a vs) (h : RDs X.K F vs ds) (e : srtSet ds = some ys) (q : PO X.K g F s0 Q (.ow ys) r) : rSet X [V.ref a] H fun v H' => rSrtS X g [v] H' Q := by
  unfold srtSet at e
  split at e
  · next ts e1 =>
    split at e
    · next hl =>
      cases e
      have ev := strs_vs h e1
      subst ev
      refine .inl ⟨a, ts, rfl, hs, hl, fun b nb => .inl ⟨b, addT [] ts, rfl, upd_same, ?_, fun p np => ?_⟩⟩
      · have := addT_len ts []
        simp only [List.length_nil, Nat.zero_add] at this
        omega
      · exact PO.new (R.laid nb) (RDs.strs _) q p np
    · cases e
  · split at e
    · next hok =>
      obtain ⟨hb, hl⟩ := setOk_of hok
      obtain ⟨rfl, pl, dp, ok⟩ := srt_of e
      obtain ⟨ks, rfl, rd⟩ := RDs.rdn hb h
      have ln := RDn.length rd
      refine .inr ⟨a, ks, rfl, hs, by omega, RDn.keys R.sub rd, fun b nb => .inr ⟨b, ks, ds, F, rfl, (R.laid nb).sub, upd_same, rd, hb, hl, pl, dp, ok, fun p xs np hx => ?_⟩⟩
      exact PO.new (R.laid nb) hx q p np
    · cases e
theorem do_srtSet {k : Nat} {ps : List Opd} {p1 p2 p3 : Pos} (hc : X.calm = true) (hr : Room k X.A) (hm1 : X.mg "sorted" = none) (hm2 : X.mg "set" = none) (ha : DBs X g [e] ps) (hg1 : Gl X "sorted" := by rfl) (hg2 : Gl X "set" := by rfl)
    (he : starEach [e] X.env = (false, eval e X.env) :: starEach [] X.env := by rfl) (he2 : starEach [.Call (.Name "set" p2) [e] [] p3] X.env = (false, eval (.Call (.Name "set" p2) [e] [] p3) X.env) :: starEach [] X.env := by rfl) :
    DO X g (.Call (.Name "sorted" p1) [.Call (.Name "set" p2) [e] [] p3] [] pos) (opNO ps semSrtSet) := by
  refine PE.imp (pe_callB (cr_srtS (g := g) hr) hg1 hm1 (by decide +kernel) (pa_cons (pe_callTy (cr_set hr) hg2 hm2 (by decide +kernel) ha (he := he)) pa_nil he2) (he := he2)) fun s H Q h => ?_
  refine tBs_mono (g := g) (tO_opN h) fun xs H1 h => ?_
  obtain ⟨F, s0, r, ds, ys, R, hx, e, q⟩ := h
  show rSet X xs H1 fun v H' => rSrtS X g [v] H' Q
  unfold semSrtSet at e
  split at e
  · obtain ⟨v, rfl, h1⟩ := hx.one
    obtain ⟨a, vs, rfl, h2, h3⟩ := h1.lst R.sub
    exact srtSet_run R (.inl (.of h2)) h3 e q
  · obtain ⟨v, rfl, h1⟩ := hx.one
    obtain ⟨a, vs, rfl, h2, _, h3⟩ := h1.tup R.sub
    exact srtSet_run R (.inr h2) h3 e q
  · cases e
end
end DL

/-! Data layer, part 58: x = {.. for ..} of tuples, sorted(x). -/
namespace DL
open PySem L2 PyProof.Rows PySem.Froz
/-! a set's comprehension -/
section
variable {Y : Cx} {elt : Expr} {te : TE} {D : Addr}
end
theorem RDn.snoc {K : PySem.W.Frag} {F : Hp} {a : Addr} {k : NestedKey} {d : D} (h1 : RD K F (.ref a) d) (h2 : d.nk = some k ∧ k.depth ≤ 8) : ∀ {ds : List D} {L : List KA}, RDn K F L ds → RDn K F (L ++ [(a, k)]) (ds ++ [d])
  | [], _, h => by cases h; exact .cons h1 h2 .nil
  | e :: es, _, h => by
    cases h with
    | cons g1 g2 g3 => exact .cons g1 g2 (RDn.snoc h1 h2 g3)
section
variable {X : Cx} {g : G} {elt tg iter : Expr} {ifs : List Expr} {gs : List Comprehension} {scope : Scope} {own : List (PySem.Str × Nat)} {pos : Pos} {c : GDt} {cs : List GDt} {fe : En → Rs D} {x : Str} {px pos2 : Pos}
end
end DL

/-! Data layer, part 59: a name's list lent to an expression whose value holds nothing of it. -/
namespace DL
open PySem L2
def hideO (o : Option OV) : Option OV := match o with
  | some u => if u.own = true then none else some u
  | none => none
/-- e, with the list that slot i owns lent to it -/
def bwR (x : Rs D) (r : En) : Rs D := match x with
  | .ok d _ => if d.flt = true then .ok d r else .bad
  | _ => .bad
def bwD (i : Nat) (f : En → Rs D) : En → Rs D := fun r => match r[i]? with
  | some (some (.ow xs)) => bwR (f ((r.map hideO).set i (some (.sh (.lst xs))))) r
  | _ => .bad
/-- what a part is told of the whole: nobody changes anything -/
def G.part (g : G) (F H : Hp) : G := ⟨F, H, [], [], g.w, none, g.xc, []⟩
section
variable {X : Cx} {g : G} {e : Expr}
end
end DL

/-! Data layer, part 60: dict(zip(xs, ys)); d.get(k, x). -/
namespace DL
open PySem L2
section
variable {X : Cx} {g : G} {e e2 : Expr} {p p2 q pos : Pos} {ps : List Opd}
/-! ### d.get(k, x) -/
def D.isDic : D → Bool
  | .dic _ => true
  | _ => false
/-- no list -/
def D.nol : D → Bool
  | .lst _ => false
  | _ => true
def semGet : D → D → D → Option D
  | .dic ds, k, x => if x.nol = true then k.key.map fun k => (valD ds k).getD x else none
  | _, _, _ => none
def getD2 (p k x : Opd) : En → Rs D := fun r => (p.run r).bind fun z r1 => (ofO ((look r1 z).bind fun d => if d.isDic = true then some d else none) r1).bind fun _ r1 => (k.run r1).bind fun y r2 => (x.run r2).bind fun u r3 =>
  ofO ((look r3 z).bind fun d => (look r3 y).bind fun e => (look r3 u).bind fun c => semGet d e c) r3
end
end DL

/-! Data layer, part 61: {k: v for x in xs if ..}. -/
namespace DL
open PySem L2
section
variable {X : Cx} {g : G} {tg iter kx elt : Expr} {ifs : List Expr} {scope : Scope} {pos : Pos}
end
end DL

/-! Data layer, part 62: len(set(xs)), xs of tuples. -/
namespace DL
open PySem PySem.Spec PyProof L2
section
variable {X : Cx} {g : G} {e : Expr} {pos : Pos}
end
end DL

/-! Data layer, part 63: dicts with texts or numbers as keys that a name owns: x = {}, x = {k: v for ..}, x[e] = f, x[e], len(x), the dict handed out. -/
namespace DL
open PySem L2
section
variable {X : Cx} {g : G} {x : Str} {p pos px : Pos} {i : Nat} {e ei : Expr}
/-- x = {} -/
def newDk (i : Nat) : En → SRs := fun r => .nx (r.set i (some (.th (.dk []))))
/-- the dict of a slot -/
def OV.dk? : OV → Option (List (Key × D))
  | .th (.dk kvs) => some kvs
  | _ => none
def slDk (r : En) (i : Nat) : Option (List (Key × D)) := (r[i]?).bind fun o => o.bind OV.dk?
/-- x[e] = f -/
def putDk (i : Nat) (fi f : En → Rs D) : En → SRs := fun r => thenS (f r) fun d r1 => thenS (fill r1 i) fun _ r1 => thenS (fi r1) fun kd r2 =>
  thenS (ofO ((slDk r2 i).bind fun kvs => if kvs.length ≤ 1000000 then kd.key.map fun k => putD kvs k d else none) r2) fun kvs r2 => .nx (r2.set i (some (.th (.dk kvs))))
/-! ### read, counted, handed out -/
/-- x[e] -/
def getDk (i : Nat) (f : En → Rs D) : En → Rs D := fun r => (fill r i).bind fun _ r => (f r).bind fun kd r1 => ofO ((slDk r1 i).bind fun kvs => kd.key.bind fun k => valD kvs k) r1
/-- len(x) -/
def lenDk (i : Nat) : En → Rs D := fun r => ofO ((slDk r i).map fun kvs => .int (kvs.length : Nat)) r
end
section
variable {X : Cx} {g : G} {tg iter kx elt : Expr} {ifs : List Expr} {scope : Scope} {pos : Pos}
end
end DL

/-! Data layer, part 64: C(k = v, ..), all of __init__'s keyword-only parameters given, in their order. -/
namespace DL
open PySem L2
structure HasK (P : Program) (w : World) (K : PySem.W.Frag) (mg : Str → Option Value) (base : Heap) (k : Nat) (c : Str) (ks : List Str) (f : List D → FI) : Prop where
  ex : ∃ C fa fd ps, FnG P w K mg base (L2.CX P w) k fa fd ps (spI K c ks.length f) ∧ mg c = some (.ref C) ∧ ClsAt K c C ∧ Mk K C fa ∧ KBn K fd ps 1 ks (fun us ws => us ++ ws) (fun vs zs => vs ++ zs)
theorem PK.imp {X : Cx} {e : List Keyword} {t t' : TA} (h : PK X e t) (i : ∀ s H Q, t' s H Q → t s H Q) : PK X e t' := ⟨fun pos pins s σ H Q I q => h.run pos pins s σ H Q I (i σ H Q q)⟩
section
variable {X : Cx} {g : G} {CX : CXT} {k n : Nat} {f C : Addr} {fd : FuncData} {ps ks : List Str} {sp : Sp} {E : St → XK} {x c : Str} {p pos kpos : Pos} {e : Expr} {kws : List Keyword} {tk : TA} {nm : Option Str}
end
end DL

/-! Data layer, part 65: self.a, self.b = e, f. -/
namespace DL
open PySem L2
section
variable {X : Cx} {g : G} {a b o : Expr} {p p2 pos pos1 pos2 pt pt2 : Pos} {c f f1 f2 n : Str} {i kt k2 : Nat}
def putFs (i : Nat) (c f : Str) (d : D) (r : En) : Option En := match r[i]? with
  | some (some (OV.oi c' fs)) => if c' = c ∧ fs.length < 900 then some (r.set i (some (.oi c (putFd f d fs)))) else none
  | _ => none
def fld2S (i : Nat) (c f1 f2 : Str) (h1 h2 : En → Rs D) : En → SRs := fun r => thenS (h1 r) fun d1 r1 => thenS (h2 r1) fun d2 r2 => thenS (ofO ((putFs i c f1 d1 r2).bind fun r3 => putFs i c f2 d2 r3) r2) fun r4 _ => .nx r4
end
end DL

/-! Data layer, part 66: isinstance(e, C), C a class of the program whose instances have no classes below it. -/
namespace DL
open PySem L2
def dTys : List String := ["NoneType", "bool", "int", "str", "list", "tuple", "dict"]
structure IsoOk (K : PySem.W.Frag) (mg : Str → Option Value) (c : Str) : Prop where
  ex : ∃ C, mg c = some (.ref C) ∧ ClsAt K c C ∧ C8.InsC K C ∧ ∀ T ∈ dTys, PySem.W.kitOne K (.type T) (.ref C) = some false
def isoB (c : Str) : D → Option Bool
  | .scr _ => none
  | .obj c' _ => if c' = c then some true else none
  | _ => some false
def isoD (p : Opd) (c : Str) : En → Rs D := fun r => (p.run r).bind fun x r1 => ofO (((look r1 x).bind (isoB c)).map D.bl) r1
section
variable {X : Cx} {g : G} {e : Expr} {p : Opd} {pos : Pos}
end
end DL

/-! Data layer, part 67: min(xs) of a list of whole numbers; e is not True. -/
namespace DL
open PySem L2
section
variable {X : Cx} {g : G}
end
end DL

/-! Data layer, part 68: == of instances by their own __eq__, & by their own __and__. -/
namespace DL
open PySem L2
section
variable {X : Cx} {CX : CXT} {k : Nat} {f C : Addr} {fd : FuncData} {ps : List Str} {sp : Sp} {E : St → XK} {pos : Pos} {a b : Expr} {ta tb : TE}
/-- the type of what stands to the right does not come first -/
def TyN (X : Cx) (C : Addr) (y : V) (H : Hp) : Prop := ∃ t, TyX X.K H y t ∧ PySem.W.notFirst X.K C t = true
end
/-- an instance of c -/
def isC (c : Str) : D → Bool
  | .obj c' _ => decide (c' = c)
  | _ => false
/-- what may stand to the right of an own == -/
def eqArg (c : Str) : D → Bool
  | .obj c' _ => decide (c' = c)
  | .scr _ => false
  | _ => true
def opM (c : Str) (ok : D → Bool) (f : List D → FR) (fo fe : En → Rs D) : En → Rs OV := fun r => (fo r).bind fun x r1 => (fe r1).bind fun y r2 => if (isC c x && ok y) = true then frR (f [x, y]) r2 else .bad
structure EqOk (K : PySem.W.Frag) (c : Str) : Prop where
  ex : ∃ C, ClsAt K c C ∧ C8.InsC K C ∧ ∀ T ∈ dTys, PySem.W.subIn K (.type T) (.ref C) = some false
theorem EqOk.ty {X : Cx} {c : Str} {C : Addr} (h : EqOk X.K c) (hcl : ClsAt X.K c C) {F H : Hp} {y : V} {dy : D} (sub : Same F H) (hy : RD X.K F y dy) (ho : eqArg c dy = true) : TyN X C y H := by
  obtain ⟨C', h1, IC, hT⟩ := h.ex
  cases hcl.inj h1
  have tyB : ∀ T, T ∈ dTys → PySem.W.notFirst X.K C (.type T) = true := fun T hT2 => by
    unfold PySem.W.notFirst
    rw [hT T hT2]
    simp
  cases dy with
  | scr _ => cases ho
  | obj c' fl =>
    have ho := of_decide_eq_true ho
    subst ho
    cases hy with
    | obj k1 k2 k3 =>
      cases hcl.inj k1
      exact ⟨.ref C, .base (TyOf.ins (sub _ _ k2) IC.cl IC.ha IC.hn IC.htk IC.hm), by unfold PySem.W.notFirst; simp⟩
  | non => exact ⟨_, ty_of sub (.inl hy) ⟨fun _ => nofun, fun _ _ => nofun⟩, tyB _ (by show ("NoneType" : String) ∈ dTys; decide)⟩
  | bl b => exact ⟨_, ty_of sub (.inl hy) ⟨fun _ => nofun, fun _ _ => nofun⟩, tyB _ (by show ("bool" : String) ∈ dTys; decide)⟩
  | int b => exact ⟨_, ty_of sub (.inl hy) ⟨fun _ => nofun, fun _ _ => nofun⟩, tyB _ (by show ("int" : String) ∈ dTys; decide)⟩
  | str b => exact ⟨_, ty_of sub (.inl hy) ⟨fun _ => nofun, fun _ _ => nofun⟩, tyB _ (by show ("str" : String) ∈ dTys; decide)⟩
  | lst b => exact ⟨_, ty_of sub (.inl hy) ⟨fun _ => nofun, fun _ _ => nofun⟩, tyB _ (by show ("list" : String) ∈ dTys; decide)⟩
  | tup b => exact ⟨_, ty_of sub (.inl hy) ⟨fun _ => nofun, fun _ _ => nofun⟩, tyB _ (by show ("tuple" : String) ∈ dTys; decide)⟩
  | dic b => exact ⟨_, ty_of sub (.inl hy) ⟨fun _ => nofun, fun _ _ => nofun⟩, tyB _ (by show ("dict" : String) ∈ dTys; decide)⟩
section
variable {X : Cx} {g : G} {k : Nat} {c : Str} {pos : Pos} {a b : Expr} {fo fe : En → Rs D}
end
end DL

/-! Data layer, part 69: != of instances by their own __eq__. -/
namespace DL
open PySem L2
section
variable {prog : Program} {w : World} {A : Around} {E : Value → Shared → Prop} {s : Shared} {K : PySem.W.Frag} {x C f L : Addr} {ox : Obj} {od : Option Obj} {h₀ : Heap} {m : Str → Option Value} {b tb : Value}
end
section
variable {X : Cx} {CX : CXT} {k : Nat} {f C : Addr} {fd : FuncData} {ps : List Str} {sp : Sp} {E : St → XK} {pos : Pos} {a b : Expr} {ta tb : TE}
end
/-- not what f tells of the two -/
def neM (c : Str) (f : List D → Option OV) (fo fe : En → Rs D) : En → Rs D := fun r => (fo r).bind fun x r1 => (fe r1).bind fun y r2 => if (isC c x && eqArg c y) = true then (match f [x, y] with
  | some (.sh (.bl b)) => .ok (.bl (!b)) r2
  | _ => .bad) else .bad
structure NeOk (K : PySem.W.Frag) (c : Str) : Prop where
  ex : ∃ C, ClsAt K c C ∧ PySem.W.findIn K (.ref C) "__ne__" = some (some (.builtin "object.__ne__")) ∧ PySem.W.mroIn K C (.type "object") = some true
section
variable {X : Cx} {g : G} {k : Nat} {c : Str} {pos : Pos} {a b : Expr} {fo fe : En → Rs D}
end
end DL

/-! Data layer, part 70: == and != of dicts whose values are plain data, with both answers. -/
namespace DL
open PySem L2
section
variable {X : Cx} {pins : List (Addr × Obj)} {s : Shared} {H : Hp} {sg : L2.St} {g : G}
end
end DL

/-! Data layer, part 71: expressions that give a dict that nobody else has: dict(d), a call of a def that returns its own dict, a if c else b; x = e. -/
namespace DL
open PySem L2
def setK (i : Nat) (f : En → Rs (List (Key × D))) : En → SRs := fun r => thenS (f r) fun kvs r1 => .nx (r1.set i (some (.th (.dk kvs))))
section
variable {X : Cx} {g : G} {x : Str} {p pos : Pos} {i : Nat} {e a b c : Expr}
def ifK (t : En → Rs Bool) (f h : En → Rs (List (Key × D))) : En → Rs (List (Key × D)) := fun r => (t r).bind fun b r1 => if b = true then f r1 else h r1
/-- dict(d), d a dict -/
def cpK (f : En → Rs D) : En → Rs (List (Key × D)) := fun r => (f r).bind fun d r1 => match d with
  | .dic kvs => .ok kvs r1
  | _ => .bad
end
end DL

/-! Data layer, part 72: defs whose first parameter is a list by reference and that return their own dict; such a dict frozen. -/
namespace DL
open PySem L2
section
variable {X : Cx} {g : G} {x : Str} {p pos : Pos} {i : Nat} {e a b c : Expr} {st : Stmt} {sts : List Stmt}
/-- a new dict as a value: frozen -/
def frzK (f : En → Rs (List (Key × D))) : En → Rs D := fun r => (f r).bind fun kvs r1 => .ok (.dic kvs) r1
/-- a name's dict as a value: frozen in its place -/
def vDk (i : Nat) : En → Rs D := fun r => match r[i]? with
  | some (some (.sh d)) => .ok d r
  | some (some (.th (.dk kvs))) => .ok (.dic kvs) (r.set i (some (.sh (.dic kvs))))
  | _ => .bad
/-! ### bodies that end with: return x, the dict of slot i -/
def SPk (K : PySem.W.Frag) (g : G) (F : Hp) (E : Ends) (i : Nat) : SRs → Prop
  | .nx r' => (∃ kvs, r'[i]? = some (some (.th (.dk kvs)))) ∧ ∀ F' H' s' v, Same F F' → Rel K g F' H' s' r' → s'[i]? = some (some v) → E.rt v H'
  | _ => False
theorem SPk.mono {K : PySem.W.Frag} {F F' : Hp} {E : Ends} {y : SRs} (h : SPk K g F E i y) (e : Same F F') : SPk K g F' E i y := by
  cases y with
  | nx r => exact ⟨h.1, fun F2 H2 s2 v e2 R2 hv => h.2 F2 H2 s2 v (e.trans e2) R2 hv⟩
  | _ => exact h
end
/-! ### the promise -/
def spBD (K : PySem.W.Frag) (n : Nat) (f : List D → List D → Option (List (Key × D) × List D)) : Sp := fun vs H Q _ => ∃ F a bs vb ws ds kvs bs', vs = .ref a :: ws ∧ Same F H ∧ F a = none ∧ H a = some (.lst vb) ∧ RDs K F vb bs ∧ RDs K F ws ds ∧ ds.length = n ∧ f bs ds = some (kvs, bs') ∧
  ∀ F' H' v vb', Same F F' → Same F' H' → Fresh F F' H → (∀ b o, H b = some o → b ≠ a → H' b = some o) → F' a = none → H' a = some (.lst vb') → RDs K F' vb' bs' → (∃ c us, v = .ref c ∧ F' c = none ∧ H' c = some (.dK us) ∧ RDk K F' us kvs ∧ H c = none) → Q v H'
section
variable {P : Program} {w : World} {K : PySem.W.Frag} {mg : Str → Option Value} {base : Heap}
end
structure HasBD (P : Program) (w : World) (K : PySem.W.Frag) (mg : Str → Option Value) (base : Heap) (k : Nat) (x : Str) (n : Nat) (f : List D → List D → Option (List (Key × D) × List D)) : Prop where
  ex : ∃ fa fd ps, FnG P w K mg base CX0 k fa fd ps (spBD K n f) ∧ mg x = some (.ref fa) ∧ PySem.W.keepIn K (.ref fa) = true ∧ Binds K fd ps []
/-- f(bag, e, ..), the bag in slot j: a dict of its own -/
def callBD (n : Nat) (f : List D → List D → Option (List (Key × D) × List D)) (j : Nat) (fs : List (En → Rs D)) : En → Rs (List (Key × D)) := fun r => (fill r j).bind fun _ r => (evs fs r).bind fun ds r1 => if ds.length = n then
  (ofO (((lookV r1 j).bind OV.lst?).bind fun bs => f bs ds) r1).bind fun z r1 => .ok z.1 (r1.set j (some (.ow z.2))) else .bad
section
variable {X : Cx} {g : G} {k n : Nat} {x : Str} {p pos : Pos} {e : Expr} {es : List Expr}
end
end DL

/-! Data layer, part 73: xs.pop(i) as a value; d[k] of an owned dict with tuples as keys; x, y = {k: v}, e. -/
namespace DL
open PySem L2
section
variable {X : Cx} {g : G} {x y : Str} {p pos apos cpos px py pt pt2 pd : Pos} {e e2 ek ev : Expr} {kt k2 i j : Nat}
/-! ### pop -/
def popP (k : D) : List D → Option (D × List D) := fun xs => match k with
  | .int i => if 0 ≤ i ∧ i < 1000000 then (ixN xs.length i).bind fun j => (xs[j]?).map fun d => (d, xs.eraseIdx j) else none
  | _ => none
def popV (i : Nat) (f : En → Rs D) : En → Rs D := fun r => (fillW r i).bind fun _ r => (f r).bind fun d r1 => match r1[i]? with
  | some (some (.ow xs)) => match popP d xs with
    | some z => .ok z.1 (r1.set i (some (.ow z.2)))
    | none => .bad
  | _ => .bad
/-! ### d[k] -/
def odAt (kvs : List (D × D)) (k : NestedKey) : Option D := (kvs.find? fun p => decide (p.1.nk = some k)).map (·.2)
theorem RDm.at {K : PySem.W.Frag} {F : Hp} {k : NestedKey} {d : D} : ∀ {kvs : List (D × D)} {xs : List (NestedKey × Addr × V)}, RDm K F xs kvs → odAt kvs k = some d → ∃ x, (xs.find? fun x => decide (x.1 = k)) = some x ∧ RD K F x.2.2 d
  | [], _, _, h => by cases h
  | (kd, d') :: kvs, _, h, e => by
    cases h with
    | @cons k' a v xs _ _ _ h1 h2 h3 h4 =>
      by_cases hk : k' = k
      · have : kd.nk = some k := by rw [h2.1, hk]
        have e : (List.find? (fun p : D × D => decide (p.1.nk = some k)) ((kd, d') :: kvs)).map (·.2) = some d := e
        rw [List.find?_cons_of_pos (by simpa using this)] at e
        refine ⟨(k', a, v), List.find?_cons_of_pos (by simpa using hk), ?_⟩
        have e : d' = d := Option.some.inj e
        rw [← e]
        exact h3
      · have hn : ¬ kd.nk = some k := fun z => hk (by rw [h2.1] at z; exact Option.some.inj z)
        have e : (List.find? (fun p : D × D => decide (p.1.nk = some k)) ((kd, d') :: kvs)).map (·.2) = some d := e
        rw [List.find?_cons_of_neg (by simpa using hn)] at e
        obtain ⟨x, e1, e2⟩ := RDm.at h4 e
        exact ⟨x, by rw [List.find?_cons_of_neg (by simpa using hk)]; exact e1, e2⟩
def getOd (i : Nat) (f : En → Rs D) : En → Rs D := fun r => (fill r i).bind fun _ r => (f r).bind fun kd r1 => match r1[i]? with
  | some (some (.od kvs)) => ofO (kd.key8.bind fun k => odAt kvs k) r1
  | _ => .bad
/-! ### x, y = {k: v}, e -/
def parOd1 (i j : Nat) (fk fv : En → Rs D) (h : En → Rs OV) : En → SRs := fun r => thenS (fk r).noE fun kd r1 => thenS (fv r1).noE fun d r2 => thenS (ofO kd.key8 r2) fun _ r2 => thenS (h r2).noE fun o r3 => .nx ((r3.set i (some (.od [(kd, d)]))).set j (some o))
end
end DL

/-! Data layer, part 74: a set's table laid anew has a place for each. -/
namespace DL
open PySem L2
open PySem.SetTable
/-! ### the search for a place -/
/-! ### a table laid -/
end DL

/-! Data layer, part 75: a set of texts merged into another one. -/
namespace DL
open PySem L2 PyProof.Rows PySem.Froz
section
variable {P : Program} {w : World} {A : Around} {E : Value → Shared → Prop} {s : Shared} {a r : Addr} {l : List Str}
variable {b : Addr} {l2 : List Str}
end
end DL

/-! Data layer, part 76: the union of two sets of texts; sorted({..} | {..}). -/
namespace DL
open PySem L2 PyProof.Rows PySem.Froz
open Builtin.Frozenset in
section
variable {P : Program} {w : World} {A : Around} {E : Value → Shared → Prop} {s : Shared} {a b : Addr} {l l2 : List Str}
theorem SetX.typeIs {s : Shared} {a : Addr} {l : List Str} (R : SetX P w s.heap a l) : s.TypeIs (.ref a) "set" := by
  obtain ⟨Z, ho, _⟩ := R
  exact ⟨_, ho, rfl⟩
open Builtin Builtin.Frozenset in
open Builtin Builtin.Frozenset in
end
end DL

/-! Data layer, part 77: sorted({..} | {..}), texts. -/
namespace DL
open PySem L2 PySem.Froz PyProof.Rows
section
variable {X : Cx} {g : G} {elt tg iter a b : Expr} {ifs : List Expr} {gs : List Comprehension} {scope : Scope} {own : List (PySem.Str × Nat)} {pos : Pos} {c : GDt} {cs : List GDt} {fe : En → Rs D} {fa fb : En → Rs (List Str)}
/-- sorted(a | b), sets of texts -/
def orS (fa fb : En → Rs (List Str)) : En → Rs OV := fun r => (fa r).bind fun ts r1 => (fb r1).bind fun us r2 => ofO (if (addT [] ts).length ≤ 15 ∧ (addT [] us).length ≤ 15 then some (OV.ow ((srtT (ts ++ us)).map D.str)) else none) r2
end
end DL

/-! Data layer, part 78: a dict of the module whose values are any flat data. -/
namespace DL
open PySem L2
end DL

/-! Data layer, part 79: enumerate of a list or of a tuple. -/
namespace DL
open PySem PySem.Spec PyProof.Rows L2
section
variable {prog : Program} {w : World} {A : Around} {E : Value → Shared → Prop} {s : Shared}
end
/-! by data -/
section
variable {X : Cx} {g : G} {tg e a b : Expr} {pos p : Pos}
def D.asE : D → Option (List D)
  | .lst ds => some ds
  | .tup ds => some ds
  | _ => none
def enX (f : En → Rs D) : En → Rs (List D) := fun r => (f r).bind fun d r1 => ofO (d.asE.map (enumD 0)) r1
end
end DL

/-! Data layer, part 80: defs that are handed the error that is handled; isinstance and fields of it there. -/
namespace DL
open PySem L2
/-- what such a def promises -/
structure FnE (P : Program) (w : World) (K : PySem.W.Frag) (mg : Str → Option Value) (base : Heap) (k : Nat) (f : Addr) (fd : FuncData) (a : Str) (fe : Exn → Option D) : Prop where
  run : ∀ (A : Around) (outer : List Env) (s : Shared) (H : Hp) (args : Args) (u : Value) (Q : VK) (p : Addr × Obj) (cls : Value) (d : Option Addr) (F : Hp) (x : Exn) (o : D),
    L2H.RoomH k A → A.guards = some [] → L2H.PinOk outer H s p → Zc cls d p.2 → (∃ vs, p.2.data = .fields vs) → Env0 P w K mg base A outer s H → BindsTo s fd args [(a, u)] → RelV (.ref p.1) u → Same F H → RX K F cls d x → fe x = some o →
    (∀ F' H' v, Same F F' → Same F' H' → Fresh F F' H → Same H H' → RD K F' v o → Q v H') → codeAny (model P w) A (.call (.ref f) args) (CR CX0 outer P w H s Q fun _ _ _ => False) s
section
variable {P : Program} {w : World} {K : PySem.W.Frag} {mg : Str → Option Value} {base : Heap}
end
structure HasEx (P : Program) (w : World) (K : PySem.W.Frag) (mg : Str → Option Value) (base : Heap) (k : Nat) (x : Str) (fe : Exn → Option D) : Prop where
  ex : ∃ fa fd a, FnE P w K mg base k fa fd a fe ∧ mg x = some (.ref fa) ∧ PySem.W.keepIn K (.ref fa) = true ∧ Binds K fd [a] []
/-! ### the error in slot i, pinned -/
section
variable {Y : Cx} {g' : G} {a : Addr} {oe : Obj} {cls : Value} {d : Option Addr} {n : Str} {np p : Pos} {i : Nat}
/-! ### the call in an except suite -/
end
end DL

/-! Data layer, part 81: a lambda handed to a def that calls it in a try; tables of code objects. -/
namespace DL
open PySem PySem.Spec PyProof.Rows L2
section
variable {X : Cx} {pins : List (Addr × Obj)} {σ : L2.St} {H : Hp} {s : Shared}
end
/-! ### the relation behind it -/
section
variable {K : PySem.W.Frag} {g : G} {F H : Hp} {s : L2.St} {r : En} {P : Addr} {q : Str}
theorem Rel.tab {ps qs : Array Value} (R : Rel K g F H s r) (hm : (P, q) ∈ g.T) (hu : ∀ p ∈ g.T, p.1 = P → p.2 = q) (hX : g.X = []) (hH : H P = some (.tbl ps)) (ht : TriplesOk qs.toList) (hc : ∀ (pos : Pos) (cv : Value), codeAmong pos qs.toList = some cv → ∃ c, cv = .ref c ∧ F c = some (LamX.CodeO c q)) :
    Rel K g F (L2.upd H P (.tbl qs)) s r := by
  obtain ⟨hF, h0, hB, _⟩ := R.tb _ hm
  have hF : F P = none := hF
  refine ⟨fun b u e => ?_, R.f0, R.fnew, fun b u e hb ht' => ?_, fun i u e => ?_, R.own, R.dist, R.pin, R.len, fun p hp => ?_, fun p hp => by rw [hX] at hp; cases hp⟩
  · rw [upd_ne fun z => by rw [z, hF] at e; cases e]; exact R.sub b u e
  · rw [upd_ne fun z => ht' _ hm z.symm]; exact R.keep b u e hb ht'
  · obtain ⟨v, h1, h2⟩ := R.slot i u e
    refine ⟨v, h1, ?_⟩
    have ne : ∀ {a : Addr} {o : HO}, H a = some o → (∀ ps, o ≠ .tbl ps) → a ≠ P := fun {a o} e n z => by
      rw [z, hH] at e
      exact n _ (Option.some.inj e).symm
    cases u with
    | sh d => exact h2
    | ow xs =>
      obtain ⟨a, vs, e1, e2, e3, e4⟩ := h2
      exact ⟨a, vs, e1, e2, by rw [upd_ne (ne e3 fun _ z => nomatch z)]; exact e3, e4⟩
    | od xs =>
      obtain ⟨a, vs, e1, e2, e3, e4⟩ := h2
      exact ⟨a, vs, e1, e2, by rw [upd_ne (ne e3 fun _ z => nomatch z)]; exact e3, e4⟩
    | oi c xs =>
      obtain ⟨a, vs, e1, e2, e3, e4⟩ := h2
      exact ⟨a, vs, e1, e2, by rw [upd_ne (ne e3 fun _ z => nomatch z)]; exact e3, e4⟩
    | th t =>
      obtain ⟨a, o, e1, e2, e3, e4⟩ := h2
      refine ⟨a, o, e1, e2, ?_, e4⟩
      cases t with
      | st ds =>
        obtain ⟨L, rfl, _⟩ := e4
        rw [upd_ne (ne e3 fun _ z => nomatch z)]; exact e3
      | dk kvs =>
        obtain ⟨vs, rfl, _⟩ := e4
        rw [upd_ne (ne e3 fun _ z => nomatch z)]; exact e3
    | exc c => exact h2
  · obtain ⟨h1, h2, h3, ps', h4, h5, h6⟩ := R.tb p hp
    refine ⟨h1, h2, h3, ?_⟩
    by_cases hp1 : p.1 = P
    · rw [hp1, hu p hp hp1]
      exact ⟨qs, upd_same, ht, hc⟩
    · exact ⟨ps', by rw [upd_ne hp1]; exact h4, h5, h6⟩
end
/-! ### the def that hears -/
/-- the body of the def that hears -/
abbrev hearB (a n e y : Str) (j : Nat) (p1 p2 p3 p4 p5 p6 p7 p8 p9 p10 p11 p12 p13 : Pos) (k1 : Nat) : List Stmt :=
  [.Try [.Return (some (.Tuple [.Constant (.str "told") j p1, .Call (.Name a p2) [] [] p3] k1 p4)) p5] [.ExceptHandler (some (.Name e p6)) (some n) [.Return (some (.Call (.Name y p7) [.Name n p8] [] p9)) p10] p11] [] [] p12]
end DL

/-! Data layer, part 82: heard(lambda: e) by data. -/
namespace DL
open PySem PySem.Spec PyProof.Rows L2
section
variable {X : Cx} {pins : List (Addr × Obj)} {σ : L2.St} {H : Hp} {s : Shared}
end
/-- the def that hears, by its text -/
structure HasHd (P : Program) (w : World) (K : PySem.W.Frag) (mg : Str → Option Value) (base : Heap) (k : Nat) (x : Str) (ct : Str → Option Bool) (fe : Exn → Option D) : Prop where
  ex : ∃ (st : Stmt) (fa : Addr) (fd : FuncData) (a n e y : Str) (j k1 : Nat) (p1 p2 p3 p4 p5 p6 p7 p8 p9 p10 p11 p12 p13 : Pos) (CS : Addr),
    Fun K x x st fa fd ∧ FnScope [a, n] [a] (defScope st) ∧ defBody st = hearB a n e y j p1 p2 p3 p4 p5 p6 p7 p8 p9 p10 p11 p12 p13 k1 ∧ mg x = some (.ref fa) ∧ PySem.W.keepIn K (.ref fa) = true ∧ Binds K fd [a] [] ∧
    (defScope st).names.lookup a = some .local ∧ (defScope st).names.lookup n = some .local ∧ (defScope st).names.lookup e = some .globalImplicit ∧ (defScope st).names.lookup y = some .globalImplicit ∧
    ((a == ("__debug__" : Str)) = false ∧ (a == ("__classdict__" : Str)) = false ∧ (n == ("__debug__" : Str)) = false ∧ (n == ("__classdict__" : Str)) = false ∧ (e == ("__debug__" : Str)) = false ∧ (y == ("__debug__" : Str)) = false) ∧
    mg e = some (.ref CS) ∧ (∀ m b C, ct m = some b → ClsAt K m C → PySem.W.exmOne K (.ref C) (.ref CS) = some b) ∧ HasEx P w K mg base k y fe
section
variable {X : Cx} {g : G} {k : Nat} {x : Str} {ct : Str → Option Bool} {fe : Exn → Option D} {c P : Addr} {params : Arguments} {body : Expr} {scope : Scope} {p lpos pos : Pos} {f : En → Rs D}
end
end DL

/-! Data layer, part 83: the law's own call where the law makes lambdas; the end. -/
namespace DL
open PySem PySem.Spec PyProof.Rows L2
section
variable {P : Program} {w : World} {K : PySem.W.Frag} {mg : Str → Option Value} {base : Heap} {CX : CXT}
end
end DL

/-! Data layer, part 84: xs.count(e); units in hot frames; g(e) of the error that is handled as a def's value. -/
namespace DL
open PySem PySem.Spec PyProof.Rows L2
theorem HasEx.mono {P : Program} {w : World} {K : PySem.W.Frag} {mg : Str → Option Value} {base : Heap} {j k : Nat} {x : Str} {fe : Exn → Option D} (h : HasEx P w K mg base j x fe) (hj : j ≤ k) : HasEx P w K mg base k x fe := by
  obtain ⟨fa, fd, a, F, h1, h2, h3⟩ := h.ex
  exact ⟨fa, fd, a, ⟨fun A outer s H args u Q p cls d Fz xx o hr => F.run A outer s H args u Q p cls d Fz xx o (hr.mono hj)⟩, h1, h2, h3⟩
section
variable {X : Cx} {g : G}
end
end DL

/-! Data layer, part 85: T.get(k, x), T a dict of the module with text keys. -/
namespace DL
open PySem PySem.Spec PyProof.Rows L2
structure TabG (K : PySem.W.Frag) (w : World) (d : Addr) (t : List (Str × D)) : Prop where
  low : (d == sysModules) = false
  at_ : ∃ es n, K.lookup d = some ⟨.type "dict", none, .dict es n, #[]⟩ ∧ PySem.W.KeysLit w.params es.toList
  val : ∀ x : Str, (∃ z v u, t.lookup x = some z ∧ PySem.W.nsIn K d x = some (some u) ∧ RelV v u ∧ ∀ F : Hp, RD K F v z) ∨ (t.lookup x = none ∧ PySem.W.nsIn K d x = some none)
section
variable {X : Cx} {g : G} {e f : Expr} {np apos cpos : Pos} {ty tx : TE}
/-- T.get(k, x) -/
def tabGetD (t : List (Str × D)) (k x : Opd) : En → Rs D := fun r => (k.run r).bind fun y r1 => (x.run r1).bind fun u r2 =>
  ofO ((look r2 y).bind fun e => (look r2 u).bind fun c => match e, c with
    | .str z, .int n => some ((t.lookup z).getD (.int n))
    | _, _ => none) r2
end
end DL

/-! Data layer, part 86: x += k, x and k integers; list(zip(xs, ys)). -/
namespace DL
open PySem PySem.Spec PyProof.Rows L2
/-- name += k -/
def augN (i : Nat) (y : Int) : En → SRs := fun r => match r[i]? with
  | some (some (.sh (.int z))) => .nx (r.set i (some (.sh (.int (z + y)))))
  | _ => .bad
section
variable {X : Cx} {g : G} {pos p1 p2 : Pos} {x : Str}
end
/-! ### list(zip(xs, ys)), at the model's level -/
structure ZlG (xs ys : Array Value) (lo : Addr) (h : Heap) (as : List Addr) : Prop where
  rise : as.Pairwise (· < ·)
  above : ∀ a ∈ as, lo < a
  pairs : ∀ (j : Nat) (a : Addr), as[j]? = some a → ∃ x y, xs[j]? = some x ∧ ys[j]? = some y ∧ h.get? a = some { cls := .type "tuple", data := .seq #[x, y] }
theorem ZlG.there {xs ys : Array Value} {lo : Addr} {h : Heap} {as : List Addr} (g : ZlG xs ys lo h as) {a : Addr} (ha : a ∈ as) : a < h.objs.size := by
  obtain ⟨j, hj⟩ := List.mem_iff_getElem?.mp ha
  obtain ⟨_, _, _, _, e⟩ := g.pairs j a hj
  exact Heap.lt_size e
theorem ZlG.low {xs ys : Array Value} {lo lo' : Addr} {h : Heap} {as : List Addr} (g : ZlG xs ys lo h as) (hl : lo' ≤ lo) : ZlG xs ys lo' h as := ⟨g.rise, fun a ha => Nat.lt_of_le_of_lt hl (g.above a ha), g.pairs⟩
structure ZlSt (h : Heap) (z TI TO i1 i2 l1 l2 S : Addr) (xs ys : Array Value) (i : Nat) : Prop where
  ti : IsPair h TI (.ref i1) (.ref i2)
  it1 : h.IsListIter i1 l1 i
  it2 : h.IsListIter i2 l2 i
  ls1 : h.IsList l1 xs
  ls2 : h.IsList l2 ys
  st : (IsZip h z TI TO .none ∧ ∃ a b, IsPair h TO a b) ∨ ∃ T f oT, IsZipHeld h z TI TO T f ∧ h.get? T = some oT ∧ T ≠ z ∧ T ≠ i1 ∧ T ≠ i2 ∧ T ≠ S
theorem ZlSt.keep {h h' : Heap} {z TI TO i1 i2 l1 l2 S : Addr} {xs ys : Array Value} {i : Nat} (t : ZlSt h z TI TO i1 i2 l1 l2 S xs ys i) (n : S ∉ [z, TI, TO, i1, i2, l1, l2]) (hk : ∀ b o, b ≠ S → h.get? b = some o → h'.get? b = some o) : ZlSt h' z TI TO i1 i2 l1 l2 S xs ys i := by
  simp only [List.mem_cons, List.not_mem_nil, or_false, not_or] at n
  obtain ⟨dz, dTI, dTO, di1, di2, dl1, dl2⟩ := n
  refine ⟨hk _ _ (Ne.symm dTI) t.ti, t.it1.at fun o e => hk _ o (Ne.symm di1) e, t.it2.at fun o e => hk _ o (Ne.symm di2) e, t.ls1.at fun o e => hk _ o (Ne.symm dl1) e, t.ls2.at fun o e => hk _ o (Ne.symm dl2) e, ?_⟩
  rcases t.st with ⟨hz, a, b, hTO⟩ | ⟨T, f, oT, hz, hT, r1, r2, r3, r4⟩
  · exact .inl ⟨hk _ _ (Ne.symm dz) hz, a, b, hk _ _ (Ne.symm dTO) hTO⟩
  · exact .inr ⟨T, f, oT, hk _ _ (Ne.symm dz) hz, hk _ _ r4 hT, r1, r2, r3, r4⟩
section
variable {prog : Program} {w : World} {A : Around} {E : Value → Shared → Prop} {s : Shared} {z TI TO i1 i2 l1 l2 S : Addr} {xs ys : Array Value}
end
section
variable {prog : Program} {w : World} {A : Around} {s : Shared} {R : Result → Shared → Prop} {z TI TO i1 i2 l1 l2 : Addr} {xs ys : Array Value}
end
section
variable {prog : Program} {w : World} {A : Around} {E : Value → Shared → Prop} {s : Shared} {z TI TO i1 i2 l1 l2 : Addr} {xs ys : Array Value}
end
end DL

/-! Data layer, part 87: list(zip(xs, ys)) by data. -/
namespace DL
open PySem PySem.Spec PyProof.Rows L2
section
variable {X : Cx} {g : G}
section
variable {e e2 : Expr} {p p2 q pos : Pos} {ps : List Opd}
end
end
end DL

/-! Data layer, part 88: texts by <=. -/
namespace DL
open PySem PySem.Spec PyProof.Rows L2
section
variable {X : Cx} {g : G}
end
end DL

/-! Data layer, part 89: a tuple taken once or not at all: (e, ..) * k, k = 0 or 1. -/
namespace L2
open PySem PySem.Spec PyProof.Rows
section
variable {X : Cx}
end
end L2
namespace DL
open PySem PySem.Spec PyProof.Rows L2
section
variable {X : Cx} {g : G}
end
end DL

/-! Data layer, part 90: isinstance(e, T), e perhaps an instance of an own class. -/
namespace DL
open PySem L2
structure NiOk (K : PySem.W.Frag) (c : Str) : Prop where
  ex : ∃ C, ClsAt K c C ∧ C8.InsC K C ∧ ∀ T ∈ tyNames, PySem.W.mroIn K C (.type T) = some false
section
variable {X : Cx} {g : G} {e : Expr} {p : Opd} {pos : Pos}
end
end DL

/-! Data layer, part 91: bodies whose last statements change a dict that was frozen in them: behind it flat values alone are left. -/
namespace DL
open PySem L2
/- no dict in it -/
/-! ### statements behind which not all that was frozen need be there -/
def SPz (K : PySem.W.Frag) (g : G) (E : Ends) : SRs → Prop
  | .nx r' => ∀ F' H' s', Rel K g F' H' s' r' → E.nx s' H'
  | .rt o r' => ∀ F' H' s' v, Rel K g F' H' s' r' → RV K g F' H' s' r' v o → E.rt v H'
  | .bk r' => ∀ F' H' s', Rel K g F' H' s' r' → E.bk s' H'
  | .ct r' => ∀ F' H' s', Rel K g F' H' s' r' → E.ct s' H'
  | .bad => False
  | .ex x r' => exW K g x r'
theorem SPz.post {K : PySem.W.Frag} {g : G} {E : Ends} {x : SRs} (F : Hp) (h : SPz K g E x) : SPost K g F E x := by
  cases x with
  | nx r => exact fun F' H' s' _ R => h F' H' s' R
  | rt o r => exact fun F' H' s' v _ R => h F' H' s' v R
  | bk r => exact fun F' H' s' _ R => h F' H' s' R
  | ct r => exact fun F' H' s' _ R => h F' H' s' R
  | bad => exact h
  | ex x r => exact h
section
variable {X : Cx} {g : G} {c : Expr} {x : Str} {p apos cpos pos : Pos} {st : Stmt} {sts sa sb : List Stmt}
/-- flat values alone -/
def keepF : Option OV → Option OV
  | some (.sh d) => if d.flt = true then some (.sh d) else none
  | _ => none
end
section
variable {P : Program} {w : World} {K : PySem.W.Frag} {mg : Str → Option Value} {base : Heap}
end
end DL

/-! Data layer, part 92: {k: v, ..} as a dict of nobody's; defs with the bag that end with return {..}. -/
namespace L2
open PySem PySem.Spec PyProof.Rows
end L2
namespace DL
open PySem L2
section
variable {X : Cx} {g : G} {pos : Pos} {e : Expr} {st : Stmt} {sts : List Stmt}
/-! ### bodies that end with: return e, e a dict of nobody's -/
end
section
variable {P : Program} {w : World} {K : PySem.W.Frag} {mg : Str → Option Value} {base : Heap}
end
end DL

/-! Data layer, part 93: xs.extend(t), t a tuple. -/
namespace PySem.AutoSeq1
open PySem PySem.Spec
end PySem.AutoSeq1
namespace L2
open PySem PySem.Spec PyProof.Rows
end L2
namespace DL
open PySem L2
section
variable {X : Cx} {g : G} {e : Expr} {pos apos cpos p : Pos} {x : Str}
def extFT (d : D) : List D → Option (List D) := fun xs => match d with
  | .lst ys => if xs.length + ys.length ≤ 1000000 then some (xs ++ ys) else none
  | .tup ys => if xs.length + ys.length ≤ 1000000 then some (xs ++ ys) else none
  | _ => none
def extST (i : Nat) (f : En → Rs D) : En → SRs := fun r => thenS (fillW r i) fun _ r => thenS (f r) fun d r1 => chgS i (extFT d) r1
end
end DL

/-! Data layer, part 94: a def that returns a list out of a dict of its own: the list is told apart from what was passed by what is in it. -/
namespace DL
open PySem L2
/- tuples of flat values -/
mutual
def D.tfl : D → Bool
  | .tup xs => tflAll xs
  | .non => true
  | .bl _ => true
  | .int _ => true
  | .str _ => true
  | _ => false
def tflAll : List D → Bool
  | [] => true
  | d :: ds => d.tfl && tflAll ds
end
/-- what a heap's readings are alike in -/
structure Sep (K : PySem.W.Frag) (H : Hp) : Prop where
  inj : ∀ a xs ys, SqT K H a xs → SqT K H a ys → xs = ys
  off : ∀ a xs ys, H a = some (.lst xs) → SqT K H a ys → False
section
variable {w : World} {K : PySem.W.Frag} {F H : Hp}
open Classical in
end
section
variable {P : Program} {w : World} {K : PySem.W.Frag} {mg : Str → Option Value} {base : Heap}
end
end DL

/-! Data layer, part 95: the table of a def's code, from what is written down of it. -/
namespace DL
open PySem L2
end DL

/-! Data layer, part 96: defs that are given a list for good and change it. -/
namespace DL
open PySem L2
section
variable {X : Cx} {g : G} {x y : Str} {a : Expr} {pos p0 p1 p2 py p6 p7 p8 p10 apos cpos bpos : Pos}
end
/-! ### f(x), x the caller's own list, given away -/
def spC (K : PySem.W.Frag) (f : List D → Option D) : Sp := fun vs H Q _ => ∃ F a vb bs d, vs = [.ref a] ∧ Same F H ∧ F a = none ∧ H a = some (.lst vb) ∧ RDs K F vb bs ∧ f bs = some d ∧ d.flt = true ∧
  ∀ H' v, (∀ b o, H b = some o → b ≠ a → H' b = some o) → RD K F v d → Q v H'
section
variable {P : Program} {w : World} {K : PySem.W.Frag} {mg : Str → Option Value} {base : Heap}
end
structure HasC (P : Program) (w : World) (K : PySem.W.Frag) (mg : Str → Option Value) (base : Heap) (k : Nat) (x : Str) (f : List D → Option D) : Prop where
  ex : ∃ fa fd ps, FnG P w K mg base CX0 k fa fd ps (spC K f) ∧ mg x = some (.ref fa) ∧ PySem.W.keepIn K (.ref fa) = true ∧ Binds K fd ps []
section
variable {X : Cx} {g : G} {k : Nat} {x : Str} {p pos : Pos}
end
end DL

/-! Data layer, part 97: raise C(), C an error class of the program's own without __init__. -/
namespace DL
open PySem L2 PyProof.Rows
/-- the error class c over ValueError, without an __init__ of its own -/
structure HasE0 (K : PySem.W.Frag) (mg : Str → Option Value) (c : Str) : Prop where
  ex : ∃ C, mg c = some (.ref C) ∧ ClsAt K c C ∧ PySem.W.excIn K C [.type "ValueError", .type "Exception", .type "BaseException", .type "object"] "ValueError.__new__" = true ∧ PySem.W.keepIn K (.ref C) = true ∧ PySem.W.subIn K (.ref C) (.type "BaseException") = some true ∧ PySem.W.typeIn K (.ref C) = some (.type "type")
section
variable {X : Cx} {g : G} {p pos pos2 : Pos} {c : Str}
end
end DL

/-! Data layer, part 98: the lists within a thing, by their addresses; a def that collects them. -/
namespace DL
open PySem L2
def D.isFl : D → Bool
  | .non | .bl _ | .int _ | .str _ => true
  | _ => false
mutual
/-- v is read as d; the lists within it, outermost first -/
inductive LR (K : PySem.W.Frag) (F : Hp) : V → D → List Addr → Prop
  | flat {v : V} {d : D} : d.isFl = true → RD K F v d → LR K F v d []
  | lst {a : Addr} {xs : List V} {ds : List D} {ls : List (List Addr)} : F a = some (.lst xs) → LRs K F xs ds ls → LR K F (.ref a) (.lst ds) (a :: ls.flatten)
  | tup {a : Addr} {xs : List V} {ds : List D} {ls : List (List Addr)} : SqT K F a xs → LRs K F xs ds ls → LR K F (.ref a) (.tup ds) ls.flatten
inductive LRs (K : PySem.W.Frag) (F : Hp) : List V → List D → List (List Addr) → Prop
  | nil : LRs K F [] [] []
  | cons {v : V} {vs : List V} {d : D} {ds : List D} {l : List Addr} {ls : List (List Addr)} : LR K F v d l → LRs K F vs ds ls → LRs K F (v :: vs) (d :: ds) (l :: ls)
end
section
variable {K : PySem.W.Frag} {F F' : Hp}
mutual
theorem LR.rd : ∀ {v : V} {d : D} {l : List Addr}, LR K F v d l → RD K F v d
  | _, _, _, .flat _ h => h
  | _, _, _, .lst h1 h2 => .lst h1 (LRs.rd h2)
  | _, _, _, .tup h1 h2 => .tup h1 (LRs.rd h2)
theorem LRs.rd : ∀ {v : List V} {d : List D} {l : List (List Addr)}, LRs K F v d l → RDs K F v d
  | _, _, _, .nil => .nil
  | _, _, _, .cons h1 h2 => .cons (LR.rd h1) (LRs.rd h2)
end
mutual
theorem LR.mono (e : Same F F') : ∀ {v : V} {d : D} {l : List Addr}, LR K F v d l → LR K F' v d l
  | _, d, _, .flat h1 h => .flat h1 (RD.mono e d h)
  | _, _, _, .lst h1 h2 => .lst (e _ _ h1) (LRs.mono e h2)
  | _, _, _, .tup h1 h2 => .tup (same_sqT e h1) (LRs.mono e h2)
theorem LRs.mono (e : Same F F') : ∀ {v : List V} {d : List D} {l : List (List Addr)}, LRs K F v d l → LRs K F' v d l
  | _, _, _, .nil => .nil
  | _, _, _, .cons h1 h2 => .cons (LR.mono e h1) (LRs.mono e h2)
end
theorem LRs.get : ∀ {vs : List V} {ds : List D} {ls : List (List Addr)} {i : Nat} {x : V}, LRs K F vs ds ls → vs[i]? = some x → ∃ d l, ds[i]? = some d ∧ ls[i]? = some l ∧ LR K F x d l
  | _, _, _, _, _, .nil, e => by cases e
  | _, _, _, 0, _, .cons h1 _, e => by cases e; exact ⟨_, _, rfl, rfl, h1⟩
  | _, _, _, i + 1, _, .cons _ h2, e => LRs.get (i := i) h2 e
theorem LRs.len : ∀ {vs : List V} {ds : List D} {ls : List (List Addr)}, LRs K F vs ds ls → vs.length = ls.length
  | _, _, _, .nil => rfl
  | _, _, _, .cons _ h => by rw [List.length_cons, List.length_cons, LRs.len h]
end
mutual
theorem LR.mem' {K : PySem.W.Frag} {F : Hp} : ∀ {v : V} {d : D} {l : List Addr}, LR K F v d l → ∀ c ∈ l, ∃ xs ds ls, F c = some (.lst xs) ∧ LRs K F xs ds ls ∧ ∀ b ∈ ls.flatten, b ∈ l
  | _, _, _, .flat _ _, c, hc => nomatch hc
  | _, _, _, .lst h1 h2, c, hc => by
    rcases List.mem_cons.mp hc with rfl | hc
    · exact ⟨_, _, _, h1, h2, fun b hb => List.mem_cons_of_mem _ hb⟩
    · obtain ⟨xs, ds, ls, e1, e2, e3⟩ := LRs.mem' h2 c hc
      exact ⟨xs, ds, ls, e1, e2, fun b hb => List.mem_cons_of_mem _ (e3 b hb)⟩
  | _, _, _, .tup h1 h2, c, hc => LRs.mem' h2 c hc
theorem LRs.mem' {K : PySem.W.Frag} {F : Hp} : ∀ {v : List V} {d : List D} {l : List (List Addr)}, LRs K F v d l → ∀ c ∈ l.flatten, ∃ xs ds ls, F c = some (.lst xs) ∧ LRs K F xs ds ls ∧ ∀ b ∈ ls.flatten, b ∈ l.flatten
  | _, _, _, .nil, c, hc => nomatch hc
  | _, _, _, .cons h1 h2, c, hc => by
    rw [List.flatten_cons] at hc ⊢
    rcases List.mem_append.mp hc with hc | hc
    · obtain ⟨xs, ds, ls, e1, e2, e3⟩ := LR.mem' h1 c hc
      exact ⟨xs, ds, ls, e1, e2, fun b hb => List.mem_append_left _ (e3 b hb)⟩
    · obtain ⟨xs, ds, ls, e1, e2, e3⟩ := LRs.mem' h2 c hc
      exact ⟨xs, ds, ls, e1, e2, fun b hb => List.mem_append_right _ (e3 b hb)⟩
end
/-! ### tests of the first name's datum -/
section
variable {X : Cx} {e : Expr} {f : En → Rs Bool} {n : Nat}
end
/-! ### the lists within x -/
/-- f(x): a new list of the lists within x -/
def spLs (K : PySem.W.Frag) (n : Nat) : Sp := fun vs H Q _ => ∃ F v d l, vs = [v] ∧ Same F H ∧ LR K F v d l ∧ d.dp < n ∧ l.length ≤ 1000 ∧ ∀ H' p, Same H H' → H p = none → H' p = some (.lst (l.map V.ref)) → Q (.ref p) H'
section
variable {P : Program} {w : World} {K : PySem.W.Frag} {mg : Str → Option Value} {base : Heap}
end
structure HasLs (P : Program) (w : World) (K : PySem.W.Frag) (mg : Str → Option Value) (base : Heap) (k : Nat) (x : Str) (n : Nat) : Prop where
  ex : ∃ fa fd ps, FnG P w K mg base CX0 k fa fd ps (spLs K n) ∧ mg x = some (.ref fa) ∧ PySem.W.keepIn K (.ref fa) = true ∧ Binds K fd ps []
end DL

/-! Data layer, part 99: values whose lists are new and stand once; defs that give such values; heard of them. -/
namespace DL
open PySem PySem.Spec PyProof.Rows L2
/-- the lists within v stand once, and none of them was frozen in F -/
def Tr (K : PySem.W.Frag) (F F' : Hp) (v : V) (d : D) : Prop := ∃ l, LR K F' v d l ∧ l.Nodup ∧ ∀ c ∈ l, F c = none
section
variable {K : PySem.W.Frag} {F F' F1 F2 : Hp} {v : V} {d : D}
mutual
theorem tfl_LR : ∀ {d : D} {v : V}, d.tfl = true → RD K F v d → LR K F v d []
  | .non, _, _, h => .flat rfl h
  | .bl _, _, _, h => .flat rfl h
  | .int _, _, _, h => .flat rfl h
  | .str _, _, _, h => .flat rfl h
  | .tup ds, _, t, .tup h1 h2 => by
    obtain ⟨ls, e1, e2⟩ := tflAll_LR t h2
    rw [← e2]
    exact .tup h1 e1
  | .lst _, _, t, _ => by cases t
  | .dic _, _, t, _ => by cases t
  | .scr _, _, t, _ => by cases t
  | .obj _ _, _, t, _ => by cases t
theorem tflAll_LR : ∀ {ds : List D} {vs : List V}, tflAll ds = true → RDs K F vs ds → ∃ ls, LRs K F vs ds ls ∧ ls.flatten = []
  | [], _, _, .nil => ⟨[], .nil, rfl⟩
  | d :: ds, _, t, .cons h1 h2 => by
    have t : (d.tfl && tflAll ds) = true := t
    rw [Bool.and_eq_true] at t
    obtain ⟨ls, e1, e2⟩ := tflAll_LR t.2 h2
    exact ⟨[] :: ls, .cons (tfl_LR t.1 h1) e1, by rw [List.flatten_cons, e2]; rfl⟩
end
theorem Tr.flat (t : d.tfl = true) (h : RD K F' v d) : Tr K F F' v d := ⟨[], tfl_LR t h, List.nodup_nil, fun c hc => nomatch hc⟩
theorem Tr.less (h : Tr K F1 F' v d) (s : Same F F1) : Tr K F F' v d := by
  obtain ⟨l, h1, h2, h3⟩ := h
  refine ⟨l, h1, h2, fun c hc => ?_⟩
  cases z : F c with
  | none => rfl
  | some o => have := h3 c hc; rw [s _ _ z] at this; cases this
theorem Tr.mono (h : Tr K F F' v d) (s : Same F' F2) : Tr K F F2 v d := by
  obtain ⟨l, h1, h2, h3⟩ := h
  exact ⟨l, h1.mono s, h2, h3⟩
theorem Tr.told {x : Str} {p : Addr} (h : Tr K F1 F' v d) (s : Same F F1) (sp : Same F' F2) (hp : SqT K F2 p [.str x, v]) : Tr K F F2 (.ref p) (.tup [.str x, d]) := by
  obtain ⟨l, h1, h2, h3⟩ := (h.less s).mono sp
  refine ⟨[[], l].flatten, .tup hp (.cons (.flat rfl (.str x)) (.cons h1 .nil)), by simpa using h2, fun c hc => h3 c (by simpa using hc)⟩
end
def PDt (K : PySem.W.Frag) (g : G) (F : Hp) (s : L2.St) (Q : VK) (d : D) (r' : En) : Prop := ∀ F0 F' H' v, Same F F0 → Same F0 F' → Rel K g F0 H' s r' → Rel K g F' H' s r' → RD K F' v d → Tr K F0 F' v d → Q v H'
theorem Rel.keepF {K : PySem.W.Frag} {g : G} {F1 H1 H' : Hp} {s : L2.St} {r1 : En} (R1 : Rel K g F1 H1 s r1) (s3 : Same H1 H') : Rel K g F1 H' s r1 :=
  R1.after (Same.refl _) (R1.sub.trans s3) (fun b o e e0 => by rw [e0] at e; cases e) s3
/-! ### defs that may raise and give such a value -/
def QXt (K : PySem.W.Frag) (F H : Hp) (Q : VK) (E : XK) : FR → Prop
  | .ok (.sh d) => ∀ F' H' v, Same F F' → Same F' H' → Fresh F F' H → Same H H' → RD K F' v d → Tr K F F' v d → Q v H'
  | .ex x => ∀ F' H' cls d, Same F F' → Same F' H' → Fresh F F' H → Same H H' → RX K F' cls d x → E cls d H'
  | _ => False
def spXt (K : PySem.W.Frag) (n : Nat) (f : List D → FR) : Sp := fun vs H Q E => ∃ F ds, Same F H ∧ RDs K F vs ds ∧ ds.length = n ∧ QXt K F H Q E (f ds)
structure HasXt (P : Program) (w : World) (K : PySem.W.Frag) (mg : Str → Option Value) (base : Heap) (k : Nat) (x : Str) (n : Nat) (f : List D → FR) : Prop where
  ex : ∃ fa fd ps, FnG P w K mg base (L2.CX P w) k fa fd ps (spXt K n f) ∧ mg x = some (.ref fa) ∧ PySem.W.keepIn K (.ref fa) = true ∧ Binds K fd ps []
def frT (z : FR) (r : En) : Rs D := match z with
  | .ok (.sh d) => .ok d r
  | .ex x => .ex x r
  | _ => .bad
theorem QXt.of {K : PySem.W.Frag} {g : G} {F F1 H1 : Hp} {s : L2.St} {r1 : En} {Q : VK} {z : FR} (R1 : Rel K g F1 H1 s r1) (sm : Same F F1) (q : post K g (PDt K g F s Q) (frT z r1)) : QXt K F1 H1 Q (WG g s) z := by
  cases z with
  | ok o =>
    cases o with
    | sh d => exact fun F' H' v s1 s2 fr s3 hv ht => q F1 F' H' v sm s1 (R1.keepF s3) (R1.after s1 s2 fr s3) hv ht
    | _ => exact (show False from q)
  | ex x =>
    intro F' H' cls d s1 s2 fr s3 hx
    have q : exW K g x r1 := q
    unfold exW at q
    unfold WG
    revert q
    cases g.W with
    | none => exact fun q => q
    | some W => exact fun q => q F' H' s cls d (R1.after s1 s2 fr s3) hx
  | bad => exact (show False from q)
section
variable {X : Cx} {g : G} {k n : Nat} {x : Str} {p pos : Pos} {e : Expr} {es : List Expr}
end
/-! ### heard -/
section
variable {X : Cx} {g : G} {k : Nat} {x : Str} {ct : Str → Option Bool} {fe : Exn → Option D} {c P : Addr} {params : Arguments} {body : Expr} {scope : Scope} {p lpos pos : Pos} {f : En → Rs D}
end
end DL

/-! Data layer, part 100: a name whose value's lists are new and stand once, kept apart from all else. -/
namespace DL
open PySem L2
/-- slot i's value is read in F, all else in F0 -/
structure RelT (K : PySem.W.Frag) (g : G) (i : Nat) (F0 F H : Hp) (s : St) (r : En) (v : V) (d : D) : Prop where
  R0 : Rel K g F0 H s (r.set i none)
  sF : Same F0 F
  sH : Same F H
  at_ : s[i]? = some (some v)
  tr : Tr K F0 F v d
  own : ∀ (j : Nat) (o : OV) (a : Addr), (r.set i none)[j]? = some (some o) → o.own = true → s[j]? = some (some (.ref a)) → F a = none
  bb : ∀ p ∈ g.B, F p.2 = none
  tt : ∀ p ∈ g.T, F p.1 = none
  xx : ∀ p ∈ g.X, F p.1 = none
  fn : ∀ b u, F b = some u → F0 b = none → g.H0 b = none
/-- with all of F kept -/
def G.reb (g : G) (F0 F : Hp) : G := { g with F0 := F0, H0 := fun b => match F b with | some o => some o | none => g.H0 b }
section
variable {K : PySem.W.Frag} {g : G} {i : Nat} {F0 F H F0' H' : Hp} {s : St} {r r1 : En} {v : V} {d : D}
theorem reb_some {b : Addr} {o : HO} (e : F b = some o) : (g.reb F0 F).H0 b = some o := by
  show (match F b with | some o => some o | none => g.H0 b) = _
  rw [e]
theorem reb_none {b : Addr} (e : F b = none) : (g.reb F0 F).H0 b = g.H0 b := by
  show (match F b with | some o => some o | none => g.H0 b) = _
  rw [e]
theorem RelT.base (T : RelT K g i F0 F H s r v d) : Rel K (g.reb F0 F) F0 H s (r.set i none) := by
  have R := T.R0
  refine ⟨R.sub, Same.refl _, fun b o e z => ?_, fun b o e hb ht => ?_, R.slot, fun j o a e eo ea => ?_, R.dist, R.pin, R.len, fun p hp => ?_, R.ext⟩
  · have z : F0 b = none := z
    rw [z] at e; cases e
  · cases z : F b with
    | some u =>
      rw [reb_some z] at e
      cases e
      exact T.sH _ _ z
    | none =>
      rw [reb_none z] at e
      exact R.keep b o e hb ht
  · rw [reb_none (T.own j o a e eo ea)]
    exact R.own j o a e eo ea
  · obtain ⟨t1, t2, t3, t4⟩ := R.tb p hp
    exact ⟨t1, by rw [reb_none (T.tt p hp)]; exact t2, t3, t4⟩
/-- behind what was done without slot i -/
theorem RelT.back (T : RelT K g i F0 F H s r v d) (R1 : Rel K (g.reb F0 F) F0' H' s r1) (hr : r1[i]? = some none ∨ r1[i]? = none) (sm : Same F0 F0') : ∃ F', RelT K g i F0' F' H' s r1 v d ∧ (∀ b, F0' b = none → F' b = F b) ∧ Same F F' := by
  have R := T.R0
  have er : r1.set i none = r1 := by
    refine List.ext_getElem? fun j => ?_
    by_cases hj : i = j
    · subst hj
      rcases hr with e | e
      · rw [List.getElem?_set_self (List.getElem?_eq_some_iff.mp e).1, e]
      · rw [List.getElem?_eq_none (by rw [List.length_set]; exact List.getElem?_eq_none_iff.mp e), e]
    · rw [List.getElem?_set_ne hj]
  have kH : ∀ b o, F b = some o → H' b = some o := fun b o e => R1.keep b o (reb_some e) (fun p hp z => by have := T.bb p hp; rw [z, e] at this; cases this) fun p hp z => by have := T.tt p hp; rw [z, e] at this; cases this
  have R2 : Rel K g F0' H' s r1 := by
    refine ⟨R1.sub, R.f0.trans sm, fun b o e z => ?_, fun b o e hb ht => ?_, R1.slot, fun j o a e eo ea => ?_, R1.dist, R1.pin, R1.len, fun p hp => ?_, R1.ext⟩
    · cases z0 : F0 b with
      | some u => exact R.fnew b u z0 z
      | none =>
        have h := R1.fnew b o e z0
        cases zF : F b with
        | some u => rw [reb_some zF] at h; cases h
        | none => rw [reb_none zF] at h; exact h
    · cases z : F b with
      | some u =>
        have h1 := T.sH _ _ z
        rw [R.keep b o e hb ht] at h1
        cases h1
        exact kH b o z
      | none => exact R1.keep b o (by rw [reb_none z]; exact e) hb ht
    · rcases R1.own j o a e eo ea with h | h
      · cases z : F a with
        | some u => rw [reb_some z] at h; cases h
        | none => rw [reb_none z] at h; exact .inl h
      · exact .inr h
    · obtain ⟨t1, _, t3, t4⟩ := R1.tb p hp
      exact ⟨t1, (R.tb p hp).2.1, t3, t4⟩
  have ow0 : ∀ (j : Nat) (o : OV) (a : Addr), r1[j]? = some (some o) → o.own = true → s[j]? = some (some (.ref a)) → F0' a = none := fun j o a e eo ea => by
    obtain ⟨v2, w1, w2⟩ := R1.slot j o e
    rw [ea] at w1
    cases w1
    cases o with
    | sh _ => cases eo
    | ow _ => obtain ⟨b, _, e1, e2, _⟩ := w2; cases e1; exact e2
    | od _ => obtain ⟨b, _, e1, e2, _⟩ := w2; cases e1; exact e2
    | oi _ _ => obtain ⟨b, _, e1, e2, _⟩ := w2; cases e1; exact e2
    | th _ => obtain ⟨b, _, e1, e2, _⟩ := w2; cases e1; exact e2
    | exc _ => cases eo
  have uni : ∃ F' : Hp, Same F0' F' ∧ Same F F' ∧ Same F' H' ∧ ∀ b, F0' b = none → F' b = F b := by
    refine ⟨fun b => match F0' b with | some o => some o | none => F b, fun b o e => ?_, fun b o e => ?_, fun b o e => ?_, fun b e1 => ?_⟩
    · show (match F0' b with | some o => some o | none => F b) = _
      rw [e]
    · show (match F0' b with | some o => some o | none => F b) = _
      cases z : F0' b with
      | none => exact e
      | some u =>
        have h1 := R1.sub _ _ z
        rw [kH b o e] at h1
        exact h1.symm
    · have e : (match F0' b with | some o => some o | none => F b) = some o := e
      cases z : F0' b with
      | some u => rw [z] at e; cases e; exact R1.sub _ _ z
      | none => rw [z] at e; exact kH b o e
    · show (match F0' b with | some o => some o | none => F b) = _
      rw [e1]
  obtain ⟨F', u1, u2, u3, u4⟩ := uni
  refine ⟨F', ⟨by rw [er]; exact R2, u1, u3, T.at_, ?_, fun j o a e eo ea => ?_, fun p hp => ?_, fun p hp => (u4 _ (R1.tb p hp).1).trans (T.tt p hp), fun p hp => (u4 _ (R1.ext p hp).2.1).trans (T.xx p hp), fun b u e z => ?_⟩, u4, u2⟩
  · obtain ⟨l, h1, h2, h3⟩ := T.tr
    refine ⟨l, h1.mono u2, h2, fun c hc => ?_⟩
    obtain ⟨xs, _, _, e, _⟩ := LR.mem' h1 c hc
    cases z : F0' c with
    | none => rfl
    | some u =>
      have h := R1.fnew c u z (h3 c hc)
      rw [reb_some e] at h
      cases h
  · rw [er] at e
    refine (u4 a (ow0 j o a e eo ea)).trans ?_
    rcases R1.own j o a e eo ea with h | h
    · cases z : F a with
      | none => rfl
      | some u => rw [reb_some z] at h; cases h
    · exact T.bb _ h
  · obtain ⟨p1, o, p2, p3⟩ := R1.pin p hp
    exact (u4 _ (ow0 _ o _ p2 p3 p1)).trans (T.bb p hp)
  · rw [u4 b z] at e
    refine T.fn b u e ?_
    cases z0 : F0 b with
    | none => rfl
    | some w => rw [sm _ _ z0] at z; cases z
/-- the lists of slot i's value changed -/
theorem RelT.gone (T : RelT K g i F0 F H s r v d) (hk : ∀ b o, H b = some o → (∀ xs, F b ≠ some (.lst xs)) → H' b = some o) (h0 : ∀ b xs, F0 b = some (.lst xs) → H' b = some (.lst xs)) : Rel K g F0 H' s (r.set i none) := by
  have R := T.R0
  have off : ∀ {b : Addr}, F b = none → ∀ o, H b = some o → H' b = some o := fun {b} z o e => hk b o e fun xs h => by rw [z] at h; cases h
  have sub : Same F0 H' := fun b o e => by
    by_cases h : ∃ xs, o = .lst xs
    · obtain ⟨xs, rfl⟩ := h
      exact h0 b xs e
    · exact hk b o (R.sub _ _ e) fun xs z => h ⟨xs, by rw [T.sF _ _ e] at z; exact Option.some.inj z⟩
  refine ⟨sub, R.f0, R.fnew, fun b o e hb ht => ?_, fun j u e => ?_, R.own, R.dist, R.pin, R.len, R.tb.go (fun _ _ e => e) (fun p hp => (R.tb p hp).1) fun p hp ps z => off (T.tt p hp) _ z, fun p hp => ?_⟩
  · have hH := R.keep b o e hb ht
    by_cases h : ∃ xs, F b = some (.lst xs)
    · obtain ⟨xs, h⟩ := h
      cases z : F0 b with
      | some u =>
        have h2 := T.sF _ _ z
        rw [h] at h2
        cases h2
        have := T.sH _ _ h
        rw [hH] at this
        cases this
        exact h0 b xs z
      | none =>
        have := T.fn b _ h z
        rw [e] at this
        cases this
    · exact hk b o hH fun xs z => h ⟨xs, z⟩
  · obtain ⟨v2, w1, w2⟩ := R.slot j u e
    refine ⟨v2, w1, ?_⟩
    have ofo : ∀ {b : Addr} {o : HO}, u.own = true → v2 = .ref b → H b = some o → H' b = some o := fun {b o} uo ev hbo => off (T.own j u b e uo (by rw [w1, ev])) _ hbo
    cases u with
    | sh d => exact w2
    | ow xs => obtain ⟨b, ws, e1, e2, e3, e4⟩ := w2; exact ⟨b, ws, e1, e2, ofo rfl e1 e3, e4⟩
    | od xs => obtain ⟨b, ws, e1, e2, e3, e4⟩ := w2; exact ⟨b, ws, e1, e2, ofo rfl e1 e3, e4⟩
    | oi c xs => obtain ⟨b, ws, e1, e2, e3, e4⟩ := w2; exact ⟨b, ws, e1, e2, ofo rfl e1 e3, e4⟩
    | th xs => obtain ⟨b, ws, e1, e2, e3, e4⟩ := w2; exact ⟨b, ws, e1, e2, ofo rfl e1 e3, e4⟩
    | exc c => exact w2
  · obtain ⟨x1, x2, x3⟩ := R.ext p hp
    exact ⟨off (T.xx p hp) _ x1, x2, x3⟩
end
end DL

/-! Data layer, part 101: such a name given, kept through calls that change nothing and through tests. -/
namespace DL
open PySem L2
section
variable {K : PySem.W.Frag} {g : G} {i : Nat} {F0 F H H' : Hp} {s : St} {r : En} {v : V} {d : D}
theorem RelT.mk' (R0 : Rel K g F0 H s r) (R : Rel K g F H s r) (sF : Same F0 F) (ht : Tr K F0 F v d) (hi : i < s.length) (hb : ∀ p ∈ g.B, p.1 ≠ i) : RelT K g i F0 F H (s.set i (some v)) (r.set i none) v d := by
  have fw : ∀ {F : Hp}, Rel K g F H s r → Rel K g F H (s.set i (some v)) (r.set i none) := fun R => R.forget (vs := [i]) (fun p hp z => hb p hp (List.mem_singleton.mp z)) (List.length_set ..) fun j hj => List.getElem?_set_ne fun z => hj (List.mem_singleton.mpr z.symm)
  have ee : (r.set i none).set i none = r.set i none := List.set_set ..
  have R2 := fw R
  have ow : ∀ (j : Nat) (o : OV) (a : Addr), (r.set i none)[j]? = some (some o) → o.own = true → (s.set i (some v))[j]? = some (some (.ref a)) → F a = none := fun j o a e eo ea => by
    obtain ⟨v2, w1, w2⟩ := R2.slot j o e
    rw [ea] at w1
    cases w1
    cases o with
    | sh _ => cases eo
    | ow _ => obtain ⟨b, _, e1, e2, _⟩ := w2; cases e1; exact e2
    | od _ => obtain ⟨b, _, e1, e2, _⟩ := w2; cases e1; exact e2
    | oi _ _ => obtain ⟨b, _, e1, e2, _⟩ := w2; cases e1; exact e2
    | th _ => obtain ⟨b, _, e1, e2, _⟩ := w2; cases e1; exact e2
    | exc _ => cases eo
  refine ⟨by rw [ee]; exact fw R0, sF, R.sub, List.getElem?_set_self hi, ht, fun j o a e eo ea => ow j o a (by rw [ee] at e; exact e) eo ea, fun p hp => ?_, fun p hp => (R2.tb p hp).1, fun p hp => (R2.ext p hp).2.1, fun b u e z => R.fnew b u e ?_⟩
  · obtain ⟨p1, o, p2, p3⟩ := R2.pin p hp
    exact ow _ o _ p2 p3 p1
  · cases z0 : g.F0 b with
    | none => rfl
    | some w => rw [R0.f0 _ _ z0] at z; cases z
theorem RelT.keep (T : RelT K g i F0 F H s r v d) (k : Same H H') : RelT K g i F0 F H' s r v d :=
  ⟨T.R0.keepF k, T.sF, T.sH.trans k, T.at_, T.tr, T.own, T.bb, T.tt, T.xx, T.fn⟩
/-- of g alone what a rule may ask -/
structure Lk (g g' : G) : Prop where
  B : g'.B = g.B
  w : g'.w = g.w
  W : g'.W = g.W
  xc : g'.xc = g.xc
  T : g'.T = g.T
  X : g'.X = g.X
end
end DL

/-! Data layer, part 102: a list of new lists is made beside all else. -/
namespace DL
open PySem L2
section
variable {K : PySem.W.Frag} {g : G} {i j : Nat} {F0 F F' H H' : Hp} {s : St} {r : En} {v w : V} {d : D} {p c : Addr}
/-- another name gets a value -/
theorem RelT.put {o : OV} (T : RelT K g i F0 F H s r v d) (hj : j ≠ i) (hb : ∀ p ∈ g.B, p.1 ≠ j) (hv : RV K g F0 H s (r.set i none) w o) (hF : o.own = true → ∀ a, w = .ref a → F a = none) : RelT K g i F0 F H (s.set j (some w)) (r.set j (some o)) v d := by
  have ee : (r.set j (some o)).set i none = (r.set i none).set j (some o) := List.set_comm _ _ hj
  refine ⟨by rw [ee]; exact T.R0.set hb hv, T.sF, T.sH, by rw [List.getElem?_set_ne hj]; exact T.at_, T.tr, fun k u a e eo ea => ?_, T.bb, T.tt, T.xx, T.fn⟩
  rw [ee] at e
  by_cases hk : j = k
  · subst hk
    have hlt : j < (r.set i none).length := by
      have := (List.getElem?_eq_some_iff.mp e).1
      rwa [List.length_set] at this
    rw [List.getElem?_set_self hlt] at e
    cases e
    rw [List.getElem?_set_self (by rw [← T.R0.len]; exact hlt)] at ea
    cases ea
    exact hF eo a rfl
  · rw [List.getElem?_set_ne hk] at e ea
    exact T.own k u a e eo ea
/-- x = [] -/
theorem RelT.new (R : Rel K g F0 H s r) (np : H p = none) (hi : i < s.length) (hb : ∀ p ∈ g.B, p.1 ≠ i) : RelT K g i F0 (L2.upd F0 p (.lst [])) (L2.upd H p (.lst [])) (s.set i (some (.ref p))) (r.set i none) (.ref p) (.lst []) :=
  RelT.mk' (R.laid np) (R.alloc np) (same_upd (R.ff np)) ⟨[p], .lst upd_same .nil, by simp, fun c hc => by rw [List.mem_singleton.mp hc]; exact R.ff np⟩ hi hb
mutual
theorem LR.off (k : ∀ b o, F b = some o → b ≠ p → F' b = some o) {zs : List V} (hp : F p = some (.lst zs)) : ∀ {v : V} {d : D} {l : List Addr}, LR K F v d l → p ∉ l → LR K F' v d l
  | _, .non, _, .flat h h2, _ => by cases h2; exact .flat h .non
  | _, .bl _, _, .flat h h2, _ => by cases h2; exact .flat h (.bl _)
  | _, .int _, _, .flat h h2, _ => by cases h2; exact .flat h (.int _)
  | _, .str _, _, .flat h h2, _ => by cases h2; exact .flat h (.str _)
  | _, .lst _, _, .flat h _, _ => by cases h
  | _, .tup _, _, .flat h _, _ => by cases h
  | _, .dic _, _, .flat h _, _ => by cases h
  | _, .scr _, _, .flat h _, _ => by cases h
  | _, .obj _ _, _, .flat h _, _ => by cases h
  | _, _, _, .lst h1 h2, n => .lst (k _ _ h1 fun z => n (by rw [z]; exact List.mem_cons_self)) (LRs.off k hp h2 fun z => n (List.mem_cons_of_mem _ z))
  | _, _, _, .tup h1 h2, n => .tup (by
    rcases h1 with (h1 | ⟨o, h1⟩) | h1
    · exact .inl (.inl (k _ _ h1 fun z => by rw [z, hp] at h1; cases h1))
    · exact .inl (.inr ⟨o, k _ _ h1 fun z => by rw [z, hp] at h1; cases h1⟩)
    · exact .inr h1) (LRs.off k hp h2 n)
theorem LRs.off (k : ∀ b o, F b = some o → b ≠ p → F' b = some o) {zs : List V} (hp : F p = some (.lst zs)) : ∀ {v : List V} {d : List D} {l : List (List Addr)}, LRs K F v d l → p ∉ l.flatten → LRs K F' v d l
  | _, _, _, .nil, _ => .nil
  | _, _, _, .cons h1 h2, n => by
    rw [List.flatten_cons, List.mem_append] at n
    exact .cons (LR.off k hp h1 fun z => n (.inl z)) (LRs.off k hp h2 fun z => n (.inr z))
end
theorem LRs.app : ∀ {vs ws : List V} {ds es : List D} {ls ms : List (List Addr)}, LRs K F vs ds ls → LRs K F ws es ms → LRs K F (vs ++ ws) (ds ++ es) (ls ++ ms)
  | _, _, _, _, _, _, .nil, h => h
  | _, _, _, _, _, _, .cons h1 h2, h => .cons h1 (LRs.app h2 h)
/-- x.append(y), y another name's own list of flat things -/
theorem RelT.app {ds es : List D} (T : RelT K g i F0 F H s r (.ref p) (.lst ds)) (hj : (r.set i none)[j]? = some (some (.ow es))) (ht : tflAll es = true) (hb : ∀ p ∈ g.B, p.1 ≠ j) : ∃ vs c, H p = some (.lst vs) ∧ vs.length = ds.length ∧ s[j]? = some (some (.ref c)) ∧
    ∃ F', RelT K g i F0 F' (L2.upd H p (.lst (vs ++ [.ref c]))) s (r.set j none) (.ref p) (.lst (ds ++ [.lst es])) := by
  have R := T.R0
  obtain ⟨l, h1, nd, nf⟩ := T.tr
  cases h1 with
  | flat z _ => cases z
  | @lst _ vs _ ls hp hL =>
    obtain ⟨v2, w1, c, ws, rfl, c1, c2, c3⟩ := R.slot j _ hj
    have fc : F c = none := T.own j _ c hj rfl w1
    have hcp : c ≠ p := fun z => by rw [z, hp] at fc; cases fc
    have f0p : F0 p = none := nf p List.mem_cons_self
    have hc0 : g.H0 c = none := (R.own j _ c hj rfl w1).resolve_right fun z => hb _ z rfl
    have Hp : H p = some (.lst vs) := T.sH _ _ hp
    refine ⟨vs, c, Hp, hL.rd.length, w1, L2.upd (L2.upd F c (.lst ws)) p (.lst (vs ++ [.ref c])), ?_⟩
    have R1 : Rel K g F0 (L2.upd H p (.lst (vs ++ [.ref c]))) s (r.set i none) := T.gone (fun b o e hn => by
      rw [upd_ne fun z => hn vs (by rw [z]; exact hp)]; exact e) fun b xs e => by
      rw [upd_ne fun z => by rw [z, f0p] at e; cases e]
      exact R.sub _ _ e
    have ee : (r.set j none).set i none = (r.set i none).set j none := by
      by_cases h : j = i
      · subst h; rfl
      · exact List.set_comm _ _ h
    have R2 : Rel K g F0 (L2.upd H p (.lst (vs ++ [.ref c]))) s ((r.set i none).set j none) := R1.forget (vs := [j]) (fun p hp z => hb p hp (List.mem_singleton.mp z)) rfl fun _ _ => rfl
    have other : ∀ (k : Nat) (o : OV) (a : Addr), ((r.set i none).set j none)[k]? = some (some o) → o.own = true → s[k]? = some (some (.ref a)) → a ≠ p ∧ a ≠ c ∧ F a = none := fun k o a e eo ea => by
      have hk : j ≠ k := fun z => by
        subst z
        rw [List.getElem?_set_self (List.getElem?_eq_some_iff.mp hj).1] at e
        cases e
      rw [List.getElem?_set_ne hk] at e
      have fa := T.own k o a e eo ea
      exact ⟨fun z => (by rw [z, hp] at fa; cases fa), fun z => R.dist j k _ o c hk hj rfl e eo w1 (by rw [ea, z]), fa⟩
    have no2 : ∀ {b : Addr}, b ≠ p → b ≠ c → F b = none → L2.upd (L2.upd F c (.lst ws)) p (.lst (vs ++ [.ref c])) b = none := fun {b} z1 z2 z => by
      rw [upd_ne z1, upd_ne z2]; exact z
    have sF' : Same F0 (L2.upd (L2.upd F c (.lst ws)) p (.lst (vs ++ [.ref c]))) := fun b o e => by
      have z1 : b ≠ p := fun z => by rw [z, f0p] at e; cases e
      have z2 : b ≠ c := fun z => by rw [z, c1] at e; cases e
      rw [upd_ne z1, upd_ne z2]
      exact T.sF _ _ e
    have hpl : p ∉ ls.flatten := (List.nodup_cons.mp nd).1
    refine ⟨by rw [ee]; exact R2, sF', fun b o e => ?_, T.at_, ?_, fun k o a e eo ea => ?_, fun q hq => ?_, fun q hq => ?_, fun q hq => ?_, fun b u e z => ?_⟩
    · by_cases h1 : b = p
      · subst h1; rw [upd_same] at e ⊢; exact e
      · rw [upd_ne h1] at e ⊢
        by_cases h2 : b = c
        · subst h2; rw [upd_same] at e; rw [← e]; exact c2
        · rw [upd_ne h2] at e; exact T.sH _ _ e
    · obtain ⟨ms, m1, m2⟩ := tflAll_LR ht c3
      have L1 : LRs K (L2.upd (L2.upd F c (.lst ws)) p (.lst (vs ++ [.ref c]))) vs ds ls := hL.off (p := p) (fun b o e h => by
        have z2 : b ≠ c := fun z => by rw [z, fc] at e; cases e
        rw [upd_ne h, upd_ne z2]; exact e) hp hpl
      have L2' : LR K (L2.upd (L2.upd F c (.lst ws)) p (.lst (vs ++ [.ref c]))) (.ref c) (.lst es) (c :: ms.flatten) := .lst (by rw [upd_ne hcp, upd_same]) (m1.mono sF')
      rw [m2] at L2'
      have L3 := L1.app (.cons L2' .nil)
      refine ⟨_, .lst upd_same L3, ?_, fun b hb => ?_⟩
      · have cn : c ∉ p :: ls.flatten := fun z => by
          rcases List.mem_cons.mp z with z | z
          · exact hcp z
          · obtain ⟨xs, _, _, e, _⟩ := LRs.mem' hL c z
            rw [fc] at e; cases e
        rw [List.flatten_append]
        simp only [List.flatten_cons, List.flatten_nil, List.append_nil]
        rw [← List.cons_append]
        refine List.nodup_append.mpr ⟨nd, by simp, fun a ha b hb z => ?_⟩
        rw [List.mem_singleton.mp hb] at z
        exact cn (z ▸ ha)
      · rw [List.flatten_append] at hb
        simp only [List.flatten_cons, List.flatten_nil, List.append_nil] at hb
        rcases List.mem_cons.mp hb with rfl | hb
        · exact f0p
        · rcases List.mem_append.mp hb with hb | hb
          · exact nf b (List.mem_cons_of_mem _ hb)
          · rw [List.mem_singleton.mp hb]; exact c1
    · rw [ee] at e
      obtain ⟨z1, z2, z3⟩ := other k o a e eo ea
      exact no2 z1 z2 z3
    · obtain ⟨p1, o, p2, p3⟩ := R2.pin q hq
      obtain ⟨z1, z2, z3⟩ := other _ o _ p2 p3 p1
      exact no2 z1 z2 z3
    · have ft := T.tt q hq
      obtain ⟨_, t2, _⟩ := R.tb q hq
      exact no2 (fun z => by rw [z, hp] at ft; cases ft) (fun z => t2 (by rw [z]; exact hc0)) ft
    · have fx := T.xx q hq
      obtain ⟨_, _, x3⟩ := R.ext q hq
      exact no2 (fun z => by rw [z, hp] at fx; cases fx) (fun z => x3 j _ hj rfl (by rw [w1, z])) fx
    · by_cases h1 : b = p
      · subst h1; exact T.fn b _ hp z
      · rw [upd_ne h1] at e
        by_cases h2 : b = c
        · subst h2; exact hc0
        · rw [upd_ne h2] at e; exact T.fn b u e z
end
end DL

/-! Data layer, part 103: what else is done beside such a name. -/
namespace DL
open PySem L2
section
variable {X : Cx} {g : G} {i : Nat} {e : Expr}
end
end DL

/-! Data layer, part 104: rows of a def in which slot i's value is kept apart (its lists are new, each once). -/
namespace DL
open PySem L2
def TPost (K : PySem.W.Frag) (g : G) (i : Nat) (F0 : Hp) (E : Ends) : SRs → Prop
  | .nx r' => ∀ F0' F' H' s' v d, Same F0 F0' → RelT K g i F0' F' H' s' r' v d → r'[i]? = some (some (.sh d)) → E.nx s' H'
  | .ct r' => ∀ F0' F' H' s' v d, Same F0 F0' → RelT K g i F0' F' H' s' r' v d → r'[i]? = some (some (.sh d)) → E.ct s' H'
  | .bk r' => ∀ F0' F' H' s' v d, Same F0 F0' → RelT K g i F0' F' H' s' r' v d → r'[i]? = some (some (.sh d)) → E.bk s' H'
  | .rt (.sh b) r' => ∀ F0' F' H' s' w, Same F0 F0' → Same F0' F' → Rel K g F0' H' s' (r'.set i none) → Same F' H' → (∀ c u, F' c = some u → F0' c = none → g.H0 c = none) → RD K F' w b → Tr K F0' F' w b → E.rt w H'
  | .ex x r' => ∀ F0' H' s' cls dd, Same F0 F0' → Rel K g F0' H' s' (r'.set i none) → RX K F0' cls dd x → ∃ W, g.W = some W ∧ W cls dd s' H'
  | _ => False
theorem TPost.mono {K : PySem.W.Frag} {g : G} {i : Nat} {F0 F0' : Hp} {E : Ends} {x : SRs} (h : TPost K g i F0 E x) (e : Same F0 F0') : TPost K g i F0' E x := by
  cases x with
  | nx r => exact fun A B C D v d a => h A B C D v d (e.trans a)
  | ct r => exact fun A B C D v d a => h A B C D v d (e.trans a)
  | bk r => exact fun A B C D v d a => h A B C D v d (e.trans a)
  | rt o r =>
    cases o with
    | sh b => exact fun A B C D w a => h A B C D w (e.trans a)
    | _ => exact h
  | ex x r => exact fun A B C cls dd a => h A B C cls dd (e.trans a)
  | bad => exact h
theorem RelT.env {K : PySem.W.Frag} {g : G} {i : Nat} {F0 F H : Hp} {s : St} {r r' : En} {v : V} {d : D} (T : RelT K g i F0 F H s r v d) (e : r'.set i none = r.set i none) : RelT K g i F0 F H s r' v d :=
  ⟨by rw [e]; exact T.R0, T.sF, T.sH, T.at_, T.tr, fun j o a h => T.own j o a (by rw [← e]; exact h), T.bb, T.tt, T.xx, T.fn⟩
section
variable {X : Cx} {g : G} {i j : Nat} {st : Stmt} {sts rest : List Stmt} {c e : Expr} {pos : Pos}
end
end DL

/-! Data layer, part 105: for beside such a name; x.append(y). -/
namespace DL
open PySem L2
section
variable {X : Cx} {g : G} {i j : Nat} {tg iter : Expr} {body : List Stmt} {pos : Pos}
/-- a target that stores what is shared alone, not in slot i -/
structure TgOk (i : Nat) (ks : List Nat) (h : D → En → Option En) : Prop where
  ni : i ∉ ks
  own : ∀ d r r', h d r = some r' → ∀ k o, r'[k]? = some (some o) → o.own = true → r[k]? = some (some o) ∧ k ∉ ks
  emp : ∀ d r r', h d r = some r' → r'[i]? = r[i]?
end
end DL

/-! Data layer, part 106: x.append(y), raise, return x; how such a name begins. -/
namespace DL
open PySem L2
section
variable {X : Cx} {g : G} {i j : Nat} {st : Stmt} {rest : List Stmt}
end
end DL

/-! Data layer, part 107: calls with such a name among the arguments. -/
namespace DL
open PySem L2
section
variable {X : Cx} {g : G} {i j : Nat} {e : Expr} {es : List Expr}
end
end DL

/-! Data layer, part 108: if f(.., x, ..); a def that makes such a value. -/
namespace DL
open PySem L2
section
variable {X : Cx} {g : G} {i n : Nat} {c : Expr} {sa sb : List Stmt} {pos : Pos}
end
section
variable {P : Program} {w : World} {K : PySem.W.Frag} {mg : Str → Option Value} {base : Heap}
end
end DL

/-! Data layer, part 109: what a call beside such a name froze; a value of flat things among it. -/
namespace DL
open PySem L2
end DL

/-! Data layer, part 110: return (e, x); x = f(..) as a beginning. -/
namespace DL
open PySem L2
section
variable {X : Cx} {g : G} {i : Nat} {st : Stmt} {rest : List Stmt}
end
section
variable {P : Program} {w : World} {K : PySem.W.Frag} {mg : Str → Option Value} {base : Heap}
end
end DL

/-! Data layer, part 19: plain lemmas about dicts. -/
namespace DL
open PySem L2
theorem semAt_lst (xs : List D) (i : Int) : semAt (.lst xs) (.int i) = atI xs i := rfl
theorem semAt_tup (xs : List D) (i : Int) : semAt (.tup xs) (.int i) = atI xs i := rfl
theorem semAt_str (x : Str) (i : Int) : semAt (.str x) (.int i) = if x.length ≤ 1000000 then (atI x.cps.toList i).map fun c => .str ⟨#[c]⟩ else none := rfl
theorem semAt_dic (ds : List (Key × D)) (y : D) : semAt (.dic ds) y = y.key.bind fun k => valD ds k := rfl
end DL

/-! Tools, part 2: plain data can be shown. -/
namespace DL
open PySem L2
mutual
theorem pl_rp : ∀ d : D, d.pl = true → d.six = true → d.rp = true
  | .non, _, _ => rfl
  | .bl _, _, _ => rfl
  | .int i, _, h => h
  | .str x, h, _ => h
  | .lst xs, h, k => plAll_rp xs h k
  | .tup xs, h, k => plAll_rp xs h k
  | .dic _, h, _ => by cases h
  | .scr _, h, _ => by cases h
theorem plAll_rp : ∀ ds : List D, plAll ds = true → sixAll ds = true → rpAll ds = true
  | [], _, _ => rfl
  | d :: ds, h, k => by
    have h : (d.pl && plAll ds) = true := h
    have k : (d.six && sixAll ds) = true := k
    obtain ⟨h1, h2⟩ := Bool.and_eq_true_iff.mp h
    obtain ⟨k1, k2⟩ := Bool.and_eq_true_iff.mp k
    show (d.rp && rpAll ds) = true
    rw [pl_rp d h1 k1, plAll_rp ds h2 k2]; rfl
end
mutual
theorem pl_dq : ∀ d : D, d.pl = true → d.dq = d.dp
  | .non, _ => rfl
  | .bl _, _ => rfl
  | .int i, _ => rfl
  | .str x, h => rfl
  | .lst xs, h => by show dqAll xs + 1 = dpAll xs + 1; rw [plAll_dq xs h]
  | .tup xs, h => by show dqAll xs + 1 = dpAll xs + 1; rw [plAll_dq xs h]
  | .dic _, h => by cases h
  | .scr _, h => by cases h
theorem plAll_dq : ∀ ds : List D, plAll ds = true → dqAll ds = dpAll ds
  | [], _ => rfl
  | d :: ds, h => by
    have h : (d.pl && plAll ds) = true := h
    obtain ⟨h1, h2⟩ := Bool.and_eq_true_iff.mp h
    show max d.dq (dqAll ds) = max d.dp (dpAll ds)
    rw [pl_dq d h1, plAll_dq ds h2]
end
mutual
theorem pl_wq : ∀ d : D, d.pl = true → d.wq = d.wt
  | .non, _ => rfl
  | .bl _, _ => rfl
  | .int i, _ => rfl
  | .str x, h => rfl
  | .lst xs, h => by show wqAll xs + 3 = wtAll xs + 3; rw [plAll_wq xs h]
  | .tup xs, h => by show wqAll xs + 3 = wtAll xs + 3; rw [plAll_wq xs h]
  | .dic _, h => by cases h
  | .scr _, h => by cases h
theorem plAll_wq : ∀ ds : List D, plAll ds = true → wqAll ds = wtAll ds
  | [], _ => rfl
  | d :: ds, h => by
    have h : (d.pl && plAll ds) = true := h
    obtain ⟨h1, h2⟩ := Bool.and_eq_true_iff.mp h
    show d.wq + 2 + wqAll ds = d.wt + 2 + wtAll ds
    rw [pl_wq d h1, plAll_wq ds h2]
end
end DL

/-! Tools, part 3: slices by natural numbers, lists. -/
namespace DL
open PySem L2
theorem cut_to {α : Type} (xs : List α) {n : Nat} (h : n ≤ xs.length) : cutL xs none (some (n : Int)) = xs.take n := by
  unfold cutL
  rw [HT.sIx_none, show HT.sIx xs.length xs.length (some (n : Int)) = min n xs.length from HT.sIx_nat _ _ n, Nat.min_eq_left h]
  rfl
end DL

/-! Tools, part 4: comprehensions with two fors, dicts that can be shown. -/
namespace DL
open PySem L2
theorem wipeE_in {r : En} {i : Nat} : ∀ {vs : List Nat}, i ∈ vs → (wipeE r vs)[i]? = if i < r.length then some none else none
  | [], h => by cases h
  | v :: vs, h => by
    unfold wipeE
    by_cases hv : v = i
    · subst hv
      by_cases hl : v < (wipeE r vs).length
      · rw [List.getElem?_set_self hl, if_pos (by rw [wipeE_len] at hl; exact hl)]
      · rw [List.getElem?_eq_none (by simpa using hl), if_neg (by rw [wipeE_len] at hl; exact hl)]
    · rw [List.getElem?_set_ne hv]
      exact wipeE_in ((List.mem_cons.mp h).resolve_left fun z => hv z.symm)
theorem wipeE_sub {r : En} {vs vs1 : List Nat} (h : ∀ i ∈ vs1, i ∈ vs) : wipeE (wipeE r vs1) vs = wipeE r vs := by
  refine List.ext_getElem? fun i => ?_
  by_cases hi : i ∈ vs
  · rw [wipeE_in hi, wipeE_in hi, wipeE_len]
  · rw [wipeE_keep hi, wipeE_keep hi, wipeE_keep fun z => hi (h i z)]
/-- the inner walk, that changes nothing but its own names -/
theorem lcS_mp {α : Type} {vs : List Nat} {h : D → En → Option En} {t : En → Rs Bool} {elt : En → Rs D} (r2 : En) (enc : α → D) (p : α → Bool) (q : α → D) (hw2 : wipeE r2 vs = r2) : ∀ (xs : List α) (r0 : En), wipeE r0 vs = r2 →
    (∀ x ∈ xs, ∃ ra, h (enc x) r2 = some ra ∧ pok (fun b rb => b = p x ∧ wipeE rb vs = r2 ∧ (p x = true → pok (fun y rc => y = q x ∧ wipeE rc vs = r2) (elt rb))) (t ra)) →
    ∃ r9, lcS vs h t elt (xs.map enc) r0 = .ok ((xs.filter p).map q) r9 ∧ wipeE r9 vs = r2
  | [], r0, e0, _ => ⟨r0, rfl, e0⟩
  | x :: xs, r0, e0, he => by
    obtain ⟨ra, e1, e2⟩ := he x (List.mem_cons_self ..)
    obtain ⟨b, rb, e3, rfl, e4, e5⟩ := post_ex e2
    have ih := lcS_mp r2 enc p q hw2 xs r2 hw2 fun y hy => he y (List.mem_cons_of_mem _ hy)
    rw [List.map_cons]
    unfold lcS
    rw [e0, e1]
    simp only [e3, Rs.bind]
    cases hp : p x with
    | false =>
      rw [List.filter_cons_of_neg (by simp [hp])]
      simp only [Bool.false_eq_true, if_false, e4]
      exact ih
    | true =>
      obtain ⟨y, rc, e6, rfl, e7⟩ := post_ex (e5 hp)
      rw [List.filter_cons_of_pos hp]
      simp only [if_true, e6, e7, List.map_cons]
      obtain ⟨r9, e8, e9⟩ := ih
      exact ⟨r9, by rw [e8], e9⟩
/-- a comprehension with two fors that changes nothing but its own names -/
theorem lc2D_mp {α β : Type} {it it1 : En → Rs (List D)} {vs vs1 : List Nat} {h h1 : D → En → Option En} {t t1 : En → Rs Bool} {elt : En → Rs D} {r r1 : En} (r2 : En) (xs : List α) (enc : α → D) (p : α → Bool) (ys : α → List β) (enc1 : α → β → D) (p1 : α → β → Bool) (q : α → β → D) (mid : α → En)
    (hv : ∀ i ∈ vs1, i ∈ vs) (hi : it r = .ok (xs.map enc) r1) (hw : wipeE r1 vs = r2) (hw2 : wipeE r2 vs = r2)
    (hl : (xs.flatMap fun x => if p x then ((ys x).filter (p1 x)).map (q x) else []).length ≤ 1000000)
    (he : ∀ x ∈ xs, ∃ ra, h (enc x) r2 = some ra ∧ pok (fun b rb => b = p x ∧ wipeE rb vs = r2 ∧ (p x = true → pok (fun ds rc => ds = (ys x).map (enc1 x) ∧ wipeE rc vs1 = mid x ∧ wipeE (mid x) vs1 = mid x ∧ wipeE (mid x) vs = r2) (it1 rb))) (t ra))
    (he1 : ∀ x ∈ xs, p x = true → ∀ y ∈ ys x, ∃ ra, h1 (enc1 x y) (mid x) = some ra ∧ pok (fun b rb => b = p1 x y ∧ wipeE rb vs1 = mid x ∧ (p1 x y = true → pok (fun z rc => z = q x y ∧ wipeE rc vs1 = mid x) (elt rb))) (t1 ra)) :
    lc2D it vs h t it1 vs1 h1 t1 elt r = .ok (.ow (xs.flatMap fun x => if p x then ((ys x).filter (p1 x)).map (q x) else [])) r2 := by
  have go : ∀ zs : List α, (∀ x ∈ zs, x ∈ xs) → ∀ r0, wipeE r0 vs = r2 → ∃ r9, lc2S vs h t it1 vs1 h1 t1 elt (zs.map enc) r0 = .ok (zs.flatMap fun x => if p x then ((ys x).filter (p1 x)).map (q x) else []) r9 ∧ wipeE r9 vs = r2 := by
    intro zs
    induction zs with
    | nil => exact fun _ r0 e0 => ⟨r0, rfl, e0⟩
    | cons z zs ih =>
      intro hm r0 e0
      obtain ⟨ra, e1, e2⟩ := he z (hm z (List.mem_cons_self ..))
      obtain ⟨b, rb, e3, rfl, e4, e5⟩ := post_ex e2
      have ih' := ih fun x hx => hm x (List.mem_cons_of_mem _ hx)
      rw [List.map_cons]
      unfold lc2S
      rw [e0, e1]
      simp only [e3, Rs.bind]
      rw [List.flatMap_cons]
      cases hp : p z with
      | false =>
        simp only [Bool.false_eq_true, if_false, e4, List.nil_append]
        exact ih' r2 hw2
      | true =>
        obtain ⟨ds, rc, e6, rfl, e7, e8, e9⟩ := post_ex (e5 hp)
        obtain ⟨rd, f1, f2⟩ := lcS_mp (mid z) (enc1 z) (p1 z) (q z) e8 (ys z) rc e7 (he1 z (hm z (List.mem_cons_self ..)) hp)
        have f3 : wipeE rd vs = r2 := by rw [← wipeE_sub hv, f2, e9]
        simp only [if_true, e6, f1, f3]
        obtain ⟨r9, g1, g2⟩ := ih' r2 hw2
        exact ⟨r9, by rw [g1], g2⟩
  obtain ⟨r9, e7, e8⟩ := go xs (fun _ h => h) r1 hw
  unfold lc2D
  rw [hi]
  simp only [Rs.bind, Rs.noE, e7, hl, if_true, e8]
/-- the same without tests -/
theorem lc2D_mp1 {α β : Type} {it it1 : En → Rs (List D)} {vs vs1 : List Nat} {h h1 : D → En → Option En} {elt : En → Rs D} {r r1 : En} (r2 : En) (xs : List α) (enc : α → D) (ys : α → List β) (enc1 : α → β → D) (q : α → β → D) (mid : α → En)
    (hv : ∀ i ∈ vs1, i ∈ vs) (hi : it r = .ok (xs.map enc) r1) (hw : wipeE r1 vs = r2) (hw2 : wipeE r2 vs = r2) (hl : (xs.flatMap fun x => (ys x).map (q x)).length ≤ 1000000)
    (he : ∀ x ∈ xs, ∃ ra, h (enc x) r2 = some ra ∧ wipeE ra vs = r2 ∧ pok (fun ds rc => ds = (ys x).map (enc1 x) ∧ wipeE rc vs1 = mid x ∧ wipeE (mid x) vs1 = mid x ∧ wipeE (mid x) vs = r2) (it1 ra))
    (he1 : ∀ x ∈ xs, ∀ y ∈ ys x, ∃ ra, h1 (enc1 x y) (mid x) = some ra ∧ wipeE ra vs1 = mid x ∧ pok (fun z rc => z = q x y ∧ wipeE rc vs1 = mid x) (elt ra)) :
    lc2D it vs h yesT it1 vs1 h1 yesT elt r = .ok (.ow (xs.flatMap fun x => (ys x).map (q x))) r2 := by
  have e : (xs.flatMap fun x => if (fun _ => true) x = true then ((ys x).filter ((fun _ _ => true) x)).map (q x) else []) = xs.flatMap fun x => (ys x).map (q x) := by
    congr 1
    funext x
    rw [if_pos rfl, List.filter_eq_self.mpr fun _ _ => rfl]
  have := lc2D_mp (it := it) (it1 := it1) (vs := vs) (vs1 := vs1) (h := h) (h1 := h1) (t := yesT) (t1 := yesT) (elt := elt) (r := r) (r1 := r1) r2 xs enc (fun _ => true) ys enc1 (fun _ _ => true) q mid hv hi hw hw2 (by rw [e]; exact hl) (fun x hx => by
    obtain ⟨ra, a1, a2, a3⟩ := he x hx
    exact ⟨ra, a1, rfl, a2, fun _ => a3⟩) (fun x hx _ y hy => by
    obtain ⟨ra, a1, a2, a3⟩ := he1 x hx y hy
    exact ⟨ra, a1, rfl, a2, fun _ => a3⟩)
  rw [e] at this
  exact this
/-! ### dicts -/
end DL

/-! plain tools, part 5: stepping through ifs, returns, whiles. -/
namespace DL
open PySem L2
theorem ifS_no {t : En → Rs Bool} {f h : En → SRs} {r r1 : En} (e : t r = .ok false r1) : ifS t f h r = h r1 := by unfold ifS; rw [e]; rfl
theorem ifS_yes {t : En → Rs Bool} {f h : En → SRs} {r r1 : En} (e : t r = .ok true r1) : ifS t f h r = f r1 := by unfold ifS; rw [e]; rfl
theorem seqIf_no {t : En → Rs Bool} {f h : En → SRs} {r r1 : En} (e : t r = .ok false r1) : seqS (ifS t f nxS) h r = h r1 := seqS_nx (ifS_no (h := nxS) e)
theorem rtS_d {f : En → Rs D} {r r1 : En} {d : D} (e : f r = .ok d r1) : rtS (shD f) r = .rt (.sh d) r1 := by unfold rtS shD; rw [e]; rfl
theorem setS_d {i : Nat} {f : En → Rs D} {r r1 : En} {d : D} (e : f r = .ok d r1) : setS i (shD f) r = .nx (r1.set i (some (.sh d))) := by unfold setS shD; rw [e]; rfl
theorem frz_o {f : En → Rs OV} {r r1 : En} {o : OV} (e : f r = .ok o r1) : frzD f r = .ok o.d r1 := by unfold frzD; rw [e]; rfl
theorem semMul_ints (i j : Int) (h : -18446744073709551616 < i ∧ i < 18446744073709551616) : semMul (.int i) (.int j) = some (.int (i * j)) := by
  show (if (-18446744073709551616 < i ∧ i < 18446744073709551616) then some (D.int (i * j)) else none) = _
  rw [if_pos h]
/-! operations put together -/
theorem ex_run {f : En → Rs D} {r r1 : En} {d : D} (e : f r = .ok d r1) : (Opd.ex f).run r = .ok (.inl d) r1 := by
  show (f r).map Sum.inl = _
  rw [e]
  rfl
theorem op2_of {p q : Opd} {sem : D → D → Option D} {r r1 r2 : En} {a b : Sum D Nat} {x y z : D} (h1 : p.run r = .ok a r1) (h2 : q.run r1 = .ok b r2) (h3 : look r2 a = some x) (h4 : look r2 b = some y) (h5 : sem x y = some z) : op2 p q sem r = .ok z r2 := by
  unfold op2
  simp only [h1, h2, Rs.bind, h3, h4, Option.bind_some, h5, ofO]
theorem opN1_of {p : Opd} {sem : List D → Option D} {r r1 : En} {a : Sum D Nat} {x z : D} (h1 : p.run r = .ok a r1) (h3 : look r1 a = some x) (h5 : sem [x] = some z) : opN [p] sem r = .ok z r1 := by
  unfold opN
  simp only [runs, looks, h1, Rs.bind, h3, Option.bind_some, Option.map_some, h5, ofO]
theorem opNO1_of {p : Opd} {sem : List D → Option (List D)} {r r1 : En} {a : Sum D Nat} {x : D} {z : List D} (h1 : p.run r = .ok a r1) (h3 : look r1 a = some x) (h5 : sem [x] = some z) : opNO [p] sem r = .ok (.ow z) r1 := by
  unfold opNO
  simp only [runs, looks, h1, Rs.bind, h3, Option.bind_some, Option.map_some, h5, ofO]
theorem sl_to {p : Opd} {f : En → Rs D} {sem : D → Option Int → Option Int → Option D} {r r1 r2 : En} {a : Sum D Nat} {x z : D} {u : Int} (h1 : p.run r = .ok a r1) (h2 : f r1 = .ok (.int u) r2) (h3 : look r2 a = some x) (h5 : sem x none (some u) = some z) : slD p poN (poS f) sem r = .ok z r2 := by
  unfold slD
  simp only [h1, h2, Rs.bind, Rs.map, poN, poS, D.asI, h3, Option.bind_some, Option.map_some, h5, ofO]
theorem sumO_of {p : Opd} {r r1 : En} {a : Sum D Nat} {x : D} {z : List D} (h1 : p.run r = .ok a r1) (h3 : look r1 a = some x) (h5 : semSumL x = some z) : sumO p r = .ok (.ow z) r1 := by
  unfold sumO
  simp only [h1, Rs.bind, h3, Option.bind_some, Option.map_some, h5, ofO]
end DL

/-! plain tools, part 6: sorted texts, comprehensions with two clauses. -/
namespace DL
open PySem L2
end DL

/-! plain tools, part 7: calls put together. -/
namespace DL
open PySem L2
end DL

/-! plain tools, part 8: errors, instances. -/
namespace DL
open PySem L2
section
variable {ct : Str → Option Bool} {i : Nat} {fb fs : En → SRs} {r r1 r2 : En} {x : Exn} {o : OV}
end
end DL

/-! plain tools, part 9: running by what is wanted of the end. -/
namespace DL
open PySem L2
/-- the expression ends well, with Q, or in an error, with E -/
def wE {α : Type} (f : En → Rs α) (r : En) (Q : α → En → Prop) (E : Exn → En → Prop) : Prop := match f r with
  | .ok a r1 => Q a r1
  | .ex x r1 => E x r1
  | .bad => False
def wS (f : En → SRs) (r : En) (Q : SRs → Prop) : Prop := Q (f r)
/-- no error -/
def nE : Exn → En → Prop := fun _ _ => False
section
variable {α β : Type} {r r1 : En} {Q : α → En → Prop} {E : Exn → En → Prop} {S : SRs → Prop}
theorem wE_ok {f : En → Rs α} {a : α} (e : f r = .ok a r1) (q : Q a r1) : wE f r Q E := by unfold wE; rw [e]; exact q
theorem wE_get {f : En → Rs α} (h : wE f r Q nE) : ∃ a r1, f r = .ok a r1 ∧ Q a r1 := by
  unfold wE at h
  revert h
  cases e : f r with
  | ok a r1 => exact fun h => ⟨a, r1, rfl, h⟩
  | ex x r1 => exact fun h => h.elim
  | bad => exact fun h => h.elim
theorem wE_mono {f : En → Rs α} {Q' : α → En → Prop} {E' : Exn → En → Prop} (h : wE f r Q E) (i : ∀ a r1, Q a r1 → Q' a r1) (j : ∀ x r1, E x r1 → E' x r1) : wE f r Q' E' := by
  unfold wE at *
  cases e : f r with
  | ok a r1 => rw [e] at h; exact i _ _ h
  | ex x r1 => rw [e] at h; exact j _ _ h
  | bad => rw [e] at h; exact h
/-! the parts' rules; the ones of bind's make -/
theorem wE_bind {f : En → Rs β} {k : β → En → Rs α} {g : En → Rs α} (hg : g r = (f r).bind k) (h : wE f r (fun b r1 => wE (k b) r1 Q E) E) : wE g r Q E := by
  unfold wE at *
  rw [hg]
  cases e : f r with
  | ok a r1 => rw [e] at h; exact h
  | ex x r1 => rw [e] at h; exact h
  | bad => rw [e] at h; exact h
theorem wE_map {f : En → Rs β} {k : β → α} {g : En → Rs α} (hg : g r = (f r).map k) (h : wE f r (fun b r1 => Q (k b) r1) E) : wE g r Q E := by
  unfold wE at *
  rw [hg]
  cases e : f r with
  | ok a r1 => rw [e] at h; exact h
  | ex x r1 => rw [e] at h; exact h
  | bad => rw [e] at h; exact h
theorem wE_ofO {o : Option α} {a : α} (e : o = some a) (q : Q a r) : wE (fun r => ofO o r) r Q E := by subst e; exact q
end
section
variable {r : En} {Q : D → En → Prop} {E : Exn → En → Prop}
theorem w_con {d : D} (q : Q d r) : wE (cD d) r Q E := q
theorem w_var {i : Nat} {d : D} (e : r[i]? = some (some (.sh d))) (q : Q d r) : wE (vD i) r Q E := by unfold wE vD; rw [e]; exact q
theorem w_varO {i : Nat} {xs : List D} (e : r[i]? = some (some (.ow xs))) (q : ∀ r1, r.set i (some (.sh (.lst xs))) = r1 → Q (.lst xs) r1) : wE (vD i) r Q E := by unfold wE vD; rw [e]; exact q _ rfl
theorem w_frz {f : En → Rs OV} (h : wE f r (fun o r1 => ∀ d, o.d = d → Q d r1) E) : wE (frzD f) r Q E := wE_map rfl (wE_mono h (fun _ _ h => h _ rfl) fun _ _ h => h)
theorem w_sh {f : En → Rs D} {Q : OV → En → Prop} (h : wE f r (fun d r1 => Q (.sh d) r1) E) : wE (shD f) r Q E := wE_map rfl h
theorem w_mv {i : Nat} {d : D} {Q : OV → En → Prop} (e : r[i]? = some (some (.sh d))) (q : Q (.sh d) r) : wE (mvD i) r Q E := by unfold wE mvD lookV; rw [e]; exact q
theorem w_mvO {i : Nat} {xs : List D} {Q : OV → En → Prop} (e : r[i]? = some (some (.ow xs))) (q : ∀ r1, r.set i none = r1 → Q (.ow xs) r1) : wE (mvD i) r Q E := by unfold wE mvD lookV; rw [e]; exact q _ rfl
end
/-! operands -/
section
variable {r : En} {E : Exn → En → Prop}
theorem w_oex {f : En → Rs D} {Q : Sum D Nat → En → Prop} (h : wE f r (fun d r1 => Q (.inl d) r1) E) : wE (Opd.ex f).run r Q E := wE_map (g := (Opd.ex f).run) rfl h
theorem w_ova {i : Nat} {o : OV} {Q : Sum D Nat → En → Prop} (e : r[i]? = some (some o)) (q : Q (.inr i) r) : wE (Opd.va i).run r Q E := by
  refine wE_ok (r1 := r) (a := .inr i) ?_ q
  show (fill r i).bind (fun _ r => Rs.ok (Sum.inr i) r) = _
  unfold fill
  rw [e]
  rfl
theorem lk_l {d : D} : look r (.inl d) = some d := rfl
theorem lk_sh {i : Nat} {d : D} (e : r[i]? = some (some (.sh d))) : look r (.inr i) = some d := by show (lookV r i).map OV.d = _; unfold lookV; rw [e]; rfl
theorem lk_ow {i : Nat} {xs : List D} (e : r[i]? = some (some (.ow xs))) : look r (.inr i) = some (.lst xs) := by show (lookV r i).map OV.d = _; unfold lookV; rw [e]; rfl
variable {Q : D → En → Prop}
/-- what an operation gives: to be shown, and what follows -/
def Gi {β : Type} (o : Option β) (k : β → Prop) : Prop := ∃ z, o = some z ∧ k z
theorem Gi.of {β : Type} {o : Option β} {k : β → Prop} {z : β} (e : o = some z) (q : k z) : Gi o k := ⟨z, e, q⟩
theorem gi_l {d : D} {k : D → Prop} (q : k d) : Gi (look r (.inl d)) k := ⟨d, rfl, q⟩
theorem w_op1 {p : Opd} {sem : D → Option D} (h : wE p.run r (fun a r1 => Gi (look r1 a) fun x => Gi (sem x) fun z => Q z r1) E) : wE (op1 p sem) r Q E :=
  wE_bind rfl (wE_mono h (fun a r1 ⟨x, e1, z, e2, q⟩ => wE_ok (r1 := r1) (a := z) (by simp only [e1, Option.bind_some, e2, ofO]) q) fun _ _ h => h)
theorem w_op2 {p u : Opd} {sem : D → D → Option D} (h : wE p.run r (fun a r1 => wE u.run r1 (fun b r2 => Gi (look r2 a) fun x => Gi (look r2 b) fun y => Gi (sem x y) fun z => Q z r2) E) E) : wE (op2 p u sem) r Q E :=
  wE_bind rfl (wE_mono h (fun a r1 h => wE_bind rfl (wE_mono h (fun b r2 ⟨x, e1, y, e2, z, e3, q⟩ => wE_ok (r1 := r2) (a := z) (by simp only [e1, e2, Option.bind_some, e3, ofO]) q) fun _ _ h => h)) fun _ _ h => h)
theorem w_op2O {p u : Opd} {sem : D → D → Option (List D)} {Q : OV → En → Prop} (h : wE p.run r (fun a r1 => wE u.run r1 (fun b r2 => Gi (look r2 a) fun x => Gi (look r2 b) fun y => Gi (sem x y) fun z => Q (.ow z) r2) E) E) : wE (op2O p u sem) r Q E :=
  wE_bind rfl (wE_mono h (fun a r1 h => wE_bind rfl (wE_mono h (fun b r2 ⟨x, e1, y, e2, z, e3, q⟩ => wE_ok (r1 := r2) (a := .ow z) (by simp only [e1, e2, Option.bind_some, e3, Option.map_some, ofO]) q) fun _ _ h => h)) fun _ _ h => h)
/-! lists of operands -/
theorem w_rnil {Q : List (Sum D Nat) → En → Prop} (q : Q [] r) : wE (runs []) r Q E := q
theorem w_rcons {p : Opd} {ps : List Opd} {Q : List (Sum D Nat) → En → Prop} (h : wE p.run r (fun a r1 => wE (runs ps) r1 (fun as r2 => Q (a :: as) r2) E) E) : wE (runs (p :: ps)) r Q E :=
  wE_bind (g := runs (p :: ps)) (k := fun x r1 => (runs ps r1).bind fun xs r2 => .ok (x :: xs) r2) rfl (wE_mono h (fun a r1 h => wE_bind (k := fun xs r2 => Rs.ok (a :: xs) r2) rfl (wE_mono h (fun as r2 q => q) fun _ _ h => h)) fun _ _ h => h)
theorem lks_nil : looks r [] = some [] := rfl
theorem lks_cons {a : Sum D Nat} {as : List (Sum D Nat)} {x : D} {xs : List D} (h : look r a = some x) (h2 : looks r as = some xs) : looks r (a :: as) = some (x :: xs) := by
  show ((look r a).bind fun d => (looks r as).map fun ds => d :: ds) = _
  rw [h, h2]
  rfl
theorem w_opN {ps : List Opd} {sem : List D → Option D} (h : wE (runs ps) r (fun as r1 => Gi (looks r1 as) fun xs => Gi (sem xs) fun z => Q z r1) E) : wE (opN ps sem) r Q E :=
  wE_bind rfl (wE_mono h (fun a r1 ⟨x, e1, z, e2, q⟩ => wE_ok (r1 := r1) (a := z) (by simp only [e1, Option.bind_some, e2, ofO]) q) fun _ _ h => h)
theorem w_opNO {ps : List Opd} {sem : List D → Option (List D)} {Q : OV → En → Prop} (h : wE (runs ps) r (fun as r1 => Gi (looks r1 as) fun xs => Gi (sem xs) fun z => Q (.ow z) r1) E) : wE (opNO ps sem) r Q E :=
  wE_bind rfl (wE_mono h (fun a r1 ⟨x, e1, z, e2, q⟩ => wE_ok (r1 := r1) (a := .ow z) (by simp only [e1, Option.bind_some, e2, Option.map_some, ofO]) q) fun _ _ h => h)
/-- neither an instance nor the script -/
def _root_.DL.D.isk : D → Bool
  | .scr _ => false
  | .obj _ _ => false
  | _ => true
theorem w_isi {p : Opd} {Ts : List String} (h : wE p.run r (fun a r1 => Gi (look r1 a) fun x => x.isk = true ∧ Q (.bl (x.isi Ts)) r1) E) : wE (isiD p Ts) r Q E :=
  wE_bind rfl (wE_mono h (fun a r1 ⟨x, e1, h2, q⟩ => wE_ok (r1 := r1) (a := .bl (x.isi Ts)) (by
    rw [e1]
    cases x with
    | scr _ => exact absurd h2 Bool.false_ne_true
    | obj _ _ => exact absurd h2 Bool.false_ne_true
    | _ => rfl) q) fun _ _ h => h)
theorem w_m1 {p u : Opd} {sem : D → D → Option D} (h : wE p.run r (fun a r1 => ∃ y, look r1 a = some (.str y) ∧ wE u.run r1 (fun b r2 => Gi (look r2 b) fun d => Gi (sem (.str y) d) fun z => Q z r2) E) E) : wE (m1D p u sem) r Q E :=
  wE_bind rfl (wE_mono h (fun a r1 ⟨y, e1, h⟩ => by
    have : wE (fun r => (u.run r).bind fun z r2 => ofO ((look r2 z).bind fun d => sem (.str y) d) r2) r1 Q E := wE_bind rfl (wE_mono h (fun b r2 ⟨x, e2, z, e3, q⟩ => wE_ok (r1 := r2) (a := z) (by simp only [e2, Option.bind_some, e3, ofO]) q) fun _ _ h => h)
    unfold wE at this ⊢
    simp only [e1]
    exact this) fun _ _ h => h)
/-! lists of expressions -/
theorem w_enil {Q : List D → En → Prop} (q : Q [] r) : wE (evs []) r Q E := q
theorem w_econs {f : En → Rs D} {fs : List (En → Rs D)} {Q : List D → En → Prop} (h : wE f r (fun a r1 => wE (evs fs) r1 (fun as r2 => Q (a :: as) r2) E) E) : wE (evs (f :: fs)) r Q E :=
  wE_bind (g := evs (f :: fs)) (k := fun x r1 => (evs fs r1).bind fun xs r2 => .ok (x :: xs) r2) rfl (wE_mono h (fun a r1 h => wE_bind (k := fun xs r2 => Rs.ok (a :: xs) r2) rfl (wE_mono h (fun as r2 q => q) fun _ _ h => h)) fun _ _ h => h)
theorem w_tup {fs : List (En → Rs D)} (h : wE (evs fs) r (fun ds r1 => ds.length ≤ 1000 ∧ Q (.tup ds) r1) E) : wE (tupD fs) r Q E :=
  wE_bind rfl (wE_mono h (fun ds r1 ⟨hl, q⟩ => wE_ok (r1 := r1) (a := .tup ds) (by rw [if_pos hl]) q) fun _ _ h => h)
theorem w_lst {fs : List (En → Rs D)} {Q : OV → En → Prop} (h : wE (evs fs) r (fun ds r1 => ds.length ≤ 1000 ∧ Q (.ow ds) r1) E) : wE (lstD fs) r Q E :=
  wE_bind rfl (wE_mono h (fun ds r1 ⟨hl, q⟩ => wE_ok (r1 := r1) (a := .ow ds) (by rw [if_pos hl]) q) fun _ _ h => h)
theorem w_znil {Q : List D → En → Prop} (q : Q [] r) : wE nlZ r Q E := q
theorem w_zcons {f : En → Rs D} {fs : En → Rs (List D)} {Q : List D → En → Prop} (h : wE f r (fun a r1 => wE fs r1 (fun as r2 => Q (a :: as) r2) E) E) : wE (cnZ f fs) r Q E :=
  wE_bind (k := fun x r1 => (fs r1).bind fun xs r2 => .ok (x :: xs) r2) rfl (wE_mono h (fun a r1 h => wE_bind (k := fun xs r2 => Rs.ok (a :: xs) r2) rfl (wE_mono h (fun as r2 q => q) fun _ _ h => h)) fun _ _ h => h)
theorem w_zst {f : En → Rs D} {fs : En → Rs (List D)} {Q : List D → En → Prop} (h : wE f r (fun a r1 => Gi a.sq fun xs => wE fs r1 (fun as r2 => Q (xs ++ as) r2) E) E) : wE (stZ f fs) r Q E :=
  wE_bind (k := fun d r1 => (ofO d.sq r1).bind fun xs r1 => (fs r1).bind fun ds r2 => .ok (xs ++ ds) r2) rfl (wE_mono h (fun a r1 ⟨xs, e, h⟩ => wE_bind (f := fun r => ofO a.sq r) (k := fun xs r1 => (fs r1).bind fun ds r2 => .ok (xs ++ ds) r2) rfl (wE_ofO e (wE_bind (k := fun ds r2 => Rs.ok (xs ++ ds) r2) rfl (wE_mono h (fun as r2 q => q) fun _ _ h => h)))) fun _ _ h => h)
theorem w_lstZ {fs : En → Rs (List D)} {Q : OV → En → Prop} (h : wE fs r (fun ds r1 => ds.length ≤ 1000 ∧ Q (.ow ds) r1) E) : wE (lstZ fs) r Q E :=
  wE_bind rfl (wE_mono h (fun ds r1 ⟨hl, q⟩ => wE_ok (r1 := r1) (a := .ow ds) (by rw [if_pos hl]) q) fun _ _ h => h)
theorem w_tupZ {fs : En → Rs (List D)} (h : wE fs r (fun ds r1 => ds.length ≤ 1000 ∧ Q (.tup ds) r1) E) : wE (tupZ fs) r Q E :=
  wE_bind rfl (wE_mono h (fun ds r1 ⟨hl, q⟩ => wE_ok (r1 := r1) (a := .tup ds) (by rw [if_pos hl]) q) fun _ _ h => h)
/-! slices -/
theorem w_poN {Q : Option Int → En → Prop} (q : Q none r) : wE poN r Q E := q
theorem w_poS {f : En → Rs D} {Q : Option Int → En → Prop} (h : wE f r (fun d r1 => Gi d.asI fun i => Q (some i) r1) E) : wE (poS f) r Q E :=
  wE_bind rfl (wE_mono h (fun d r1 ⟨i, e, q⟩ => wE_ok (r1 := r1) (a := some i) (by rw [e]; rfl) q) fun _ _ h => h)
theorem w_sl {p : Opd} {lo hi : En → Rs (Option Int)} {sem : D → Option Int → Option Int → Option D} (h : wE p.run r (fun a r1 => wE lo r1 (fun l r2 => wE hi r2 (fun h r3 => Gi (look r3 a) fun x => Gi (sem x l h) fun z => Q z r3) E) E) E) : wE (slD p lo hi sem) r Q E :=
  wE_bind rfl (wE_mono h (fun a r1 h => wE_bind rfl (wE_mono h (fun l r2 h => wE_bind rfl (wE_mono h (fun u r3 ⟨x, e1, z, e2, q⟩ => wE_ok (r1 := r3) (a := z) (by simp only [e1, Option.bind_some, e2, ofO]) q) fun _ _ h => h)) fun _ _ h => h)) fun _ _ h => h)
end
end DL

/-! plain tools, part 10: running by what is wanted of the end: tests, calls, statements. -/
namespace DL
open PySem L2
section
variable {r : En} {E : Exn → En → Prop}
/-! tests -/
theorem w_yes {Q : Bool → En → Prop} (q : Q true r) : wE yesT r Q E := q
theorem w_toB {f : En → Rs D} {Q : Bool → En → Prop} (h : wE f r (fun d r1 => Gi d.asB fun b => Q b r1) E) : wE (toB f) r Q E :=
  wE_bind rfl (wE_mono h (fun d r1 ⟨i, e, q⟩ => wE_ok (r1 := r1) (a := i) (by rw [e]; rfl) q) fun _ _ h => h)
theorem w_toT {p : Opd} {Q : Bool → En → Prop} (h : wE p.run r (fun a r1 => Gi (look r1 a) fun x => Gi x.tru fun b => Q b r1) E) : wE (toT p) r Q E :=
  wE_bind rfl (wE_mono h (fun a r1 ⟨x, e1, z, e2, q⟩ => wE_ok (r1 := r1) (a := z) (by simp only [e1, Option.bind_some, e2, ofO]) q) fun _ _ h => h)
theorem w_notT {f : En → Rs Bool} {Q : Bool → En → Prop} (h : wE f r (fun b r1 => Q (!b) r1) E) : wE (notT f) r Q E := wE_map rfl h
theorem w_notD {f : En → Rs D} {Q : D → En → Prop} (h : wE f r (fun d r1 => Gi d.asB fun b => Q (.bl (!b)) r1) E) : wE (notD f) r Q E :=
  wE_bind rfl (wE_mono h (fun d r1 ⟨i, e, q⟩ => wE_ok (r1 := r1) (a := .bl (!i)) (by rw [e]; rfl) q) fun _ _ h => h)
theorem w_notV {p : Opd} {Q : D → En → Prop} (h : wE (toT p) r (fun b r1 => Q (.bl (!b)) r1) E) : wE (notV p) r Q E := wE_map rfl h
/-- a choice by a truth -/
def Ch (b : Bool) (P P' : Prop) : Prop := if b = true then P else P'
theorem Ch.t {P P' : Prop} (h : P) : Ch true P P' := h
theorem Ch.f {P P' : Prop} (h : P') : Ch false P P' := h
theorem Ch.ty {b : Bool} {P P' : Prop} (e : b = true) (h : P) : Ch b P P' := by subst e; exact h
theorem Ch.fy {b : Bool} {P P' : Prop} (e : b = false) (h : P') : Ch b P P' := by subst e; exact h
theorem Ch.dt {p : Prop} [Decidable p] {P P' : Prop} (e : p) (h : P) : Ch (decide p) P P' := Ch.ty (decide_eq_true e) h
theorem Ch.df {p : Prop} [Decidable p] {P P' : Prop} (e : ¬ p) (h : P') : Ch (decide p) P P' := Ch.fy (decide_eq_false e) h
theorem Ch.nt {b : Bool} {P P' : Prop} (h : Ch b P' P) : Ch (!b) P P' := by cases b <;> exact h
theorem Ch.by {b : Bool} {P P' : Prop} (h1 : b = true → P) (h2 : b = false → P') : Ch b P P' := by
  cases b with
  | true => exact h1 rfl
  | false => exact h2 rfl
theorem w_andT {f h : En → Rs Bool} {Q : Bool → En → Prop} (q : wE f r (fun b r1 => Ch b (wE h r1 Q E) (Q false r1)) E) : wE (andT f h) r Q E :=
  wE_bind rfl (wE_mono q (fun b r1 q => by cases b <;> exact q) fun _ _ h => h)
theorem w_orT {f h : En → Rs Bool} {Q : Bool → En → Prop} (q : wE f r (fun b r1 => Ch b (Q true r1) (wE h r1 Q E)) E) : wE (orT f h) r Q E :=
  wE_bind rfl (wE_mono q (fun b r1 q => by cases b <;> exact q) fun _ _ h => h)
theorem w_andD {f h : En → Rs D} {Q : D → En → Prop} (q : wE f r (fun d r1 => Gi d.asB fun b => Ch b (wE h r1 Q E) (Q (.bl false) r1)) E) : wE (andD f h) r Q E :=
  wE_bind rfl (wE_mono q (fun d r1 ⟨b, e, q⟩ => by
    unfold wE at *
    rw [e]
    cases b <;> exact q) fun _ _ h => h)
theorem w_orD {f h : En → Rs D} {Q : D → En → Prop} (q : wE f r (fun d r1 => Gi d.asB fun b => Ch b (Q (.bl true) r1) (wE h r1 Q E)) E) : wE (orD f h) r Q E :=
  wE_bind rfl (wE_mono q (fun d r1 ⟨b, e, q⟩ => by
    unfold wE at *
    rw [e]
    cases b <;> exact q) fun _ _ h => h)
theorem w_andV {f h : En → Rs D} {Q : D → En → Prop} (q : wE f r (fun d r1 => Gi d.tru fun b => Ch b (wE h r1 Q E) (Q d r1)) E) : wE (andV f h) r Q E :=
  wE_bind rfl (wE_mono q (fun d r1 ⟨b, e, q⟩ => by
    unfold wE at *
    rw [e]
    cases b <;> exact q) fun _ _ h => h)
theorem w_orV {f h : En → Rs D} {Q : D → En → Prop} (q : wE f r (fun d r1 => Gi d.tru fun b => Ch b (Q d r1) (wE h r1 Q E)) E) : wE (orV f h) r Q E :=
  wE_bind rfl (wE_mono q (fun d r1 ⟨b, e, q⟩ => by
    unfold wE at *
    rw [e]
    cases b <;> exact q) fun _ _ h => h)
theorem w_if {α : Type} {c : En → Rs Bool} {f h : En → Rs α} {Q : α → En → Prop} (q : wE c r (fun b r1 => Ch b (wE f r1 Q E) (wE h r1 Q E)) E) : wE (ifD c f h) r Q E :=
  wE_bind rfl (wE_mono q (fun b r1 q => by cases b <;> exact q) fun _ _ h => h)
theorem w_chain {p u v : Opd} {sem sem' : D → D → Option D} {Q : D → En → Prop} (h : wE p.run r (fun a r1 => wE u.run r1 (fun b r2 => Gi (look r2 a) fun x => Gi (look r2 b) fun y => Gi (sem x y) fun z => Gi z.asB fun k => Ch k (wE v.run r2 (fun c r3 => Gi (look r3 b) fun y => Gi (look r3 c) fun z => Gi (sem' y z) fun w => Q w r3) E) (Q (.bl false) r2)) E) E) : wE (chD p u v sem sem') r Q E :=
  wE_bind rfl (wE_mono h (fun a r1 h => wE_bind rfl (wE_mono h (fun b r2 ⟨x, e1, y, e2, z, e3, k, e4, q⟩ => by
    have hb : ofO (((look r2 a).bind fun dx => (look r2 b).bind fun dy => sem dx dy).bind D.asB) r2 = .ok k r2 := by simp only [e1, e2, e3, e4, Option.bind_some, ofO]
    refine wE_bind (f := fun r2 => ofO (((look r2 a).bind fun dx => (look r2 b).bind fun dy => sem dx dy).bind D.asB) r2) rfl (wE_ok hb ?_)
    cases k with
    | false => exact q
    | true => exact wE_bind (f := v.run) rfl (wE_mono q (fun c r3 ⟨y', f1, z', f2, w, f3, q⟩ => wE_ok (r1 := r3) (a := w) (by simp only [f1, f2, Option.bind_some, f3, ofO]) q) fun _ _ h => h)) fun _ _ h => h)) fun _ _ h => h)
/-! calls -/
theorem w_call {n : Nat} {f : List D → Option OV} {fs : List (En → Rs D)} {Q : OV → En → Prop} (h : wE (evs fs) r (fun ds r1 => ds.length = n ∧ Gi (f ds) fun o => Q o r1) E) : wE (callP n f fs) r Q E :=
  wE_bind rfl (wE_mono h (fun ds r1 ⟨hl, o, e, q⟩ => wE_ok (r1 := r1) (a := o) (by rw [if_pos hl, e]; rfl) q) fun _ _ h => h)
theorem w_callL {n : Nat} {f : List D → Option OV} {ps : List Opd} {Q : OV → En → Prop} (h : wE (runs ps) r (fun as r1 => Gi (looks r1 as) fun ds => ds.length = n ∧ Gi (f ds) fun o => o.flt = true ∧ Q o r1) E) : wE (callL n f ps) r Q E :=
  wE_bind rfl (wE_mono h (fun a r1 ⟨x, e1, hn, o, e2, hf, q⟩ => wE_ok (r1 := r1) (a := o) (by simp only [e1, Option.bind_some, hn, if_true, e2, hf, ofO]) q) fun _ _ h => h)
/-- what a def gives that changes its first list -/
def Gb (o : Option (OV × List D)) (k : OV → List D → Prop) : Prop := ∃ a b, o = some (a, b) ∧ k a b
theorem Gb.of {o : Option (OV × List D)} {k : OV → List D → Prop} {a : OV} {b : List D} (e : o = some (a, b)) (q : k a b) : Gb o k := ⟨a, b, e, q⟩
theorem w_callB {n j : Nat} {f : List D → List D → Option (OV × List D)} {fs : List (En → Rs D)} {Q : OV → En → Prop} (hj : ∃ o, r[j]? = some (some o)) (h : wE (evs fs) r (fun ds r1 => ds.length = n ∧ ∃ bs, r1[j]? = some (some (.ow bs)) ∧ Gb (f bs ds) fun o b' => ∀ r2, r1.set j (some (.ow b')) = r2 → Q o r2) E) : wE (callB n f j fs) r Q E := by
  obtain ⟨o, hj⟩ := hj
  have hf : fill r j = .ok () r := by unfold fill; rw [hj]
  refine wE_bind (f := fun r => fill r j) rfl (wE_ok hf ?_)
  refine wE_bind rfl (wE_mono h (fun ds r1 ⟨hl, bs, e1, o, b', e2, q⟩ => wE_ok (r1 := r1.set j (some (.ow b'))) (a := o) ?_ (q _ rfl)) fun _ _ h => h)
  have : (lookV r1 j).bind OV.lst? = some bs := by unfold lookV; rw [e1]; rfl
  rw [if_pos hl, this]
  simp only [Option.bind_some, e2, ofO, Rs.bind]
/-- what a def gives that may raise -/
def Gx (z : FR) (k : OV → Prop) (e : Exn → Prop) : Prop := match z with
  | .ok o => k o
  | .ex x => e x
  | .bad => False
theorem Gx.o {z : FR} {k : OV → Prop} {e : Exn → Prop} {o : OV} (h : z = .ok o) (q : k o) : Gx z k e := by subst h; exact q
theorem Gx.x {z : FR} {k : OV → Prop} {e : Exn → Prop} {x : Exn} (h : z = .ex x) (q : e x) : Gx z k e := by subst h; exact q
theorem wE_fr {z : FR} {Q : OV → En → Prop} (h : Gx z (fun o => Q o r) (fun x => E x r)) : wE (frR z) r Q E := by cases z <;> exact h
theorem w_callX {n : Nat} {f : List D → FR} {fs : List (En → Rs D)} {Q : OV → En → Prop} (h : wE (evs fs) r (fun ds r1 => ds.length = n ∧ Gx (f ds) (fun o => Q o r1) (fun x => E x r1)) E) : wE (callX n f fs) r Q E :=
  wE_bind rfl (wE_mono h (fun ds r1 ⟨hl, q⟩ => by
    show wE (fun r1 => if ds.length = n then frR (f ds) r1 else .bad) r1 Q E
    simp only [if_pos hl]
    exact wE_fr q) fun _ _ h => h)
/-- what __init__ gives -/
def Gy (z : FI) (k : List (Str × D) → Prop) (e : Exn → Prop) : Prop := match z with
  | .ok o => k o
  | .ex x => e x
  | .bad => False
theorem Gy.o {z : FI} {k : List (Str × D) → Prop} {e : Exn → Prop} {o : List (Str × D)} (h : z = .ok o) (q : k o) : Gy z k e := by subst h; exact q
theorem Gy.x {z : FI} {k : List (Str × D) → Prop} {e : Exn → Prop} {x : Exn} (h : z = .ex x) (q : e x) : Gy z k e := by subst h; exact q
theorem wE_fi {c : Str} {z : FI} {Q : OV → En → Prop} (h : Gy z (fun fl => Q (.sh (.obj c fl)) r) (fun x => E x r)) : wE (fiR c z) r Q E := by cases z <;> exact h
theorem w_make {c : Str} {n : Nat} {f : List D → FI} {fs : List (En → Rs D)} {Q : OV → En → Prop} (h : wE (evs fs) r (fun ds r1 => ds.length = n ∧ Gy (f ds) (fun fl => Q (.sh (.obj c fl)) r1) (fun x => E x r1)) E) : wE (makeD c n f fs) r Q E :=
  wE_bind rfl (wE_mono h (fun ds r1 ⟨hl, q⟩ => by
    show wE (fun r1 => if ds.length = n then fiR c (f ds) r1 else .bad) r1 Q E
    simp only [if_pos hl]
    exact wE_fi q) fun _ _ h => h)
theorem w_meth {c m : Str} {n : Nat} {f : List D → FR} {fo : En → Rs D} {fs : List (En → Rs D)} {Q : OV → En → Prop} (h : wE fo r (fun x r1 => objOk c m x = true ∧ wE (evs fs) r1 (fun ds r2 => ds.length + 1 = n ∧ Gx (f (x :: ds)) (fun o => Q o r2) (fun x => E x r2)) E) E) : wE (methX c m n f fo fs) r Q E :=
  wE_bind rfl (wE_mono h (fun x r1 ⟨hk, h⟩ => by
    show wE (fun r1 => if objOk c m x = true then (evs fs r1).bind fun ds r2 => if ds.length + 1 = n then frR (f (x :: ds)) r2 else .bad else .bad) r1 Q E
    simp only [if_pos hk]
    exact wE_bind rfl (wE_mono h (fun ds r2 ⟨hl, q⟩ => by
      show wE (fun r1 => if ds.length + 1 = n then frR (f (x :: ds)) r1 else .bad) r2 Q E
      simp only [if_pos hl]
      exact wE_fr q) fun _ _ h => h)) fun _ _ h => h)
theorem Gx_P {f : List D → Option OV} {ds : List D} {k : OV → Prop} {e : Exn → Prop} (h : Gi (f ds) k) : Gx ((fun ds => toFR (f ds)) ds) k e := by
  obtain ⟨o, h1, h2⟩ := h
  show Gx (toFR (f ds)) k e
  rw [h1]
  exact h2
theorem w_lenM {c : Str} {f : List D → Option OV} {fo : En → Rs D} {Q : D → En → Prop} (h : wE fo r (fun x r1 => Gi (lenF c f x) fun z => Q z r1) E) : wE (lenM c f fo) r Q E :=
  wE_bind rfl (wE_mono h (fun d r1 ⟨i, e, q⟩ => wE_ok (r1 := r1) (a := i) (by rw [e]; rfl) q) fun _ _ h => h)
/-! the error at hand -/
theorem w_isx {i : Nat} {t : Str → Option Bool} {x : Exn} {b : Bool} {Q : D → En → Prop} (e : r[i]? = some (some (.exc x))) (h : t x.c = some b) (q : Q (.bl b) r) : wE (isxD i t) r Q E := by
  unfold wE isxD
  rw [e]
  simp only [h, Option.map_some, ofO]
  exact q
theorem w_xf {i : Nat} {f : Str} {cs : List Str} {x : Exn} {d : D} {Q : D → En → Prop} (e : r[i]? = some (some (.exc x))) (h : x.c ∈ cs) (h2 : x.fs.lookup f = some d) (q : Q d r) : wE (xfD' i f cs) r Q E := by
  unfold wE xfD'
  rw [e]
  simp only [h, if_true, h2, ofO]
  exact q
theorem w_fldO {i : Nat} {c f : Str} {fl : List (Str × D)} {d : D} {Q : D → En → Prop} (e : r[i]? = some (some (.oi c fl))) (h2 : fl.lookup f = some d) (q : Q d r) : wE (fldO i c f) r Q E := by
  unfold wE fldO
  rw [e]
  simp only [if_true, h2, ofO]
  exact q
end
/-! statements -/
section
variable {r : En} {Q : SRs → Prop}
/-- the statements that follow -/
def Th (g : En → SRs) (Q : SRs → Prop) (x : SRs) : Prop := match x with
  | .nx r1 => wS g r1 Q
  | y => Q y
theorem Th.n {g : En → SRs} {r1 : En} (h : wS g r1 Q) : Th g Q (.nx r1) := h
theorem Th.t {g : En → SRs} {r1 : En} {o : OV} (h : Q (.rt o r1)) : Th g Q (.rt o r1) := h
theorem Th.x {g : En → SRs} {r1 : En} {x : Exn} (h : Q (.ex x r1)) : Th g Q (.ex x r1) := h
theorem Th.b {g : En → SRs} {r1 : En} (h : Q (.bk r1)) : Th g Q (.bk r1) := h
theorem Th.c {g : En → SRs} {r1 : En} (h : Q (.ct r1)) : Th g Q (.ct r1) := h
theorem s_seq {f g : En → SRs} (h : wS f r (Th g Q)) : wS (seqS f g) r Q := by
  unfold wS seqS at *
  cases e : f r <;> (rw [e] at h; exact h)
theorem s_nx (h : Q (.nx r)) : wS nxS r Q := h
theorem s_bk (h : Q (.bk r)) : wS bkS r Q := h
theorem s_ct (h : Q (.ct r)) : wS ctS r Q := h
theorem wS_then {α : Type} {f : En → Rs α} {k : α → En → SRs} {g : En → SRs} (hg : g r = thenS (f r) k) (h : wE f r (fun a r1 => wS (k a) r1 Q) (fun x r1 => Q (.ex x r1))) : wS g r Q := by
  unfold wS wE at *
  rw [hg]
  cases e : f r with
  | ok a r1 => rw [e] at h; exact h
  | ex x r1 => rw [e] at h; exact h
  | bad => rw [e] at h; exact h.elim
theorem s_rt {f : En → Rs OV} (h : wE f r (fun o r1 => Q (.rt o r1)) (fun x r1 => Q (.ex x r1))) : wS (rtS f) r Q := wS_then rfl h
theorem s_rtN (h : Q (.rt (.sh .non) r)) : wS rtN r Q := h
theorem s_ex {f : En → Rs D} (h : wE f r (fun o r1 => Q (.nx r1)) (fun x r1 => Q (.ex x r1))) : wS (exS f) r Q := wS_then rfl h
theorem s_set {i : Nat} {f : En → Rs OV} (h : wE f r (fun o r1 => ∀ r2, r1.set i (some o) = r2 → Q (.nx r2)) (fun x r1 => Q (.ex x r1))) : wS (setS i f) r Q := wS_then rfl (wE_mono h (fun o r1 h => h _ rfl) fun _ _ h => h)
theorem s_if {c : En → Rs Bool} {f g : En → SRs} (h : wE c r (fun b r1 => Ch b (wS f r1 Q) (wS g r1 Q)) (fun x r1 => Q (.ex x r1))) : wS (ifS c f g) r Q := wS_then rfl (wE_mono h (fun b r1 h => by cases b <;> exact h) fun _ _ h => h)
theorem s_raise {c f : Str} {fe : En → Rs D} (h : wE fe r (fun d r1 => Q (.ex ⟨c, [(f, d)]⟩ r1)) (fun x r1 => Q (.ex x r1))) : wS (raiseS c f fe) r Q := wS_then rfl h
theorem s_fld {i : Nat} {c f : Str} {fe : En → Rs D} (h : wE fe r (fun d r1 => ∃ fl, r1[i]? = some (some (.oi c fl)) ∧ fl.length < 900 ∧ ∀ r2, r1.set i (some (.oi c (putFd f d fl))) = r2 → Q (.nx r2)) (fun x r1 => Q (.ex x r1))) : wS (fldS i c f fe) r Q :=
  wS_then rfl (wE_mono h (fun d r1 ⟨fl, e, hl, h⟩ => by
    unfold wS
    simp only [e, true_and, if_pos hl]
    exact h _ rfl) fun _ _ h => h)
theorem s_par2 {i j : Nat} {f : En → Rs D} {g : En → Rs OV} (h : wE f r (fun d r1 => wE g r1 (fun o r2 => ∀ r3, (r2.set i (some (.sh d))).set j (some o) = r3 → Q (.nx r3)) (fun x r1 => Q (.ex x r1))) (fun x r1 => Q (.ex x r1))) : wS (par2 i j f g) r Q :=
  wS_then rfl (wE_mono h (fun d r1 h => wS_then rfl (wE_mono h (fun o r2 h => h _ rfl) fun _ _ h => h)) fun _ _ h => h)
theorem s_par3 {i j l : Nat} {f f2 : En → Rs D} {g : En → Rs OV} (h : wE f r (fun d r1 => wE f2 r1 (fun d2 r2 => wE g r2 (fun o r3 => ∀ r4, ((r3.set i (some (.sh d))).set j (some (.sh d2))).set l (some o) = r4 → Q (.nx r4)) (fun x r1 => Q (.ex x r1))) (fun x r1 => Q (.ex x r1))) (fun x r1 => Q (.ex x r1))) : wS (par3 i j l f f2 g) r Q :=
  wS_then rfl (wE_mono h (fun d r1 h => wS_then rfl (wE_mono h (fun o r2 h => wS_then rfl (wE_mono h (fun o r2 h => h _ rfl) fun _ _ h => h)) fun _ _ h => h)) fun _ _ h => h)
theorem wE_noE {α : Type} {f : En → Rs α} {Q : α → En → Prop} {E : Exn → En → Prop} (h : wE f r Q nE) : wE (fun r => (f r).noE) r Q E := by
  obtain ⟨a, r1, e, q⟩ := wE_get h
  exact wE_ok (r1 := r1) (a := a) (by rw [e]; rfl) q
theorem s_par2o {i j : Nat} {f g : En → Rs OV} (h : wE f r (fun d r1 => wE g r1 (fun o r2 => ∀ r3, (r2.set i (some d)).set j (some o) = r3 → Q (.nx r3)) nE) (fun x r1 => Q (.ex x r1))) : wS (par2o i j f g) r Q :=
  wS_then rfl (wE_mono h (fun d r1 h => wS_then (f := fun r => (g r).noE) rfl (wE_noE (wE_mono h (fun o r2 h => h _ rfl) fun _ _ h => h))) fun _ _ h => h)
theorem s_asg {f : En → Rs D} {h : D → En → Option En} (q : wE f r (fun d r1 => Gi (h d r1) fun r2 => ∀ r3, r2 = r3 → Q (.nx r3)) (fun x r1 => Q (.ex x r1))) : wS (asgS f h) r Q :=
  wS_then rfl (wE_mono q (fun d r1 ⟨r2, e, q⟩ => by unfold wS; simp only [e]; exact q _ rfl) fun _ _ h => h)
theorem wS_chg {i : Nat} {f : List D → Option (List D)} {xs : List D} (e : r[i]? = some (some (.ow xs))) (h : Gi (f xs) fun ys => ∀ r2, r.set i (some (.ow ys)) = r2 → Q (.nx r2)) : wS (chgS i f) r Q := by
  obtain ⟨ys, e2, h⟩ := h
  have : (lookV r i).bind OV.lst? = some xs := by unfold lookV; rw [e]; rfl
  unfold wS chgS
  simp only [this, e2]
  exact h _ rfl
theorem fillW_ok {i : Nat} {xs : List D} (e : r[i]? = some (some (.ow xs))) : fillW r i = .ok () r := by unfold fillW lookV; rw [e]
theorem s_app {i : Nat} {f : En → Rs D} (h0 : ∃ xs, r[i]? = some (some (.ow xs))) (h : wE f r (fun d r1 => ∃ xs, r1[i]? = some (some (.ow xs)) ∧ xs.length ≤ 1000000 ∧ ∀ r2, r1.set i (some (.ow (xs ++ [d]))) = r2 → Q (.nx r2)) (fun x r1 => Q (.ex x r1))) : wS (appS i f) r Q := by
  obtain ⟨xs, h0⟩ := h0
  refine wS_then (f := fun r => fillW r i) rfl (wE_ok (fillW_ok h0) (wS_then rfl (wE_mono h (fun d r1 ⟨xs, e, hl, q⟩ => wS_chg e ⟨xs ++ [d], by unfold appF; rw [if_pos hl], q⟩) fun _ _ h => h)))
theorem s_ext {i : Nat} {f : En → Rs D} (h0 : ∃ xs, r[i]? = some (some (.ow xs))) (h : wE f r (fun d r1 => ∃ xs, r1[i]? = some (some (.ow xs)) ∧ Gi (extF d xs) fun ys => ∀ r2, r1.set i (some (.ow ys)) = r2 → Q (.nx r2)) (fun x r1 => Q (.ex x r1))) : wS (extS i f) r Q := by
  obtain ⟨xs, h0⟩ := h0
  refine wS_then (f := fun r => fillW r i) rfl (wE_ok (fillW_ok h0) (wS_then rfl (wE_mono h (fun d r1 ⟨xs, e, q⟩ => wS_chg e q) fun _ _ h => h)))
theorem s_pop {i : Nat} {f : En → Rs D} (h0 : ∃ xs, r[i]? = some (some (.ow xs))) (h : wE f r (fun d r1 => ∃ xs, r1[i]? = some (some (.ow xs)) ∧ Gi (popF d xs) fun ys => ∀ r2, r1.set i (some (.ow ys)) = r2 → Q (.nx r2)) (fun x r1 => Q (.ex x r1))) : wS (popS i f) r Q := by
  obtain ⟨xs, h0⟩ := h0
  refine wS_then (f := fun r => fillW r i) rfl (wE_ok (fillW_ok h0) (wS_then rfl (wE_mono h (fun d r1 ⟨xs, e, q⟩ => wS_chg e q) fun _ _ h => h)))
theorem s_ins {i : Nat} {f g : En → Rs D} (h0 : ∃ xs, r[i]? = some (some (.ow xs))) (h : wE f r (fun k r1 => wE g r1 (fun d r2 => ∃ xs, r2[i]? = some (some (.ow xs)) ∧ Gi (insF k d xs) fun ys => ∀ r3, r2.set i (some (.ow ys)) = r3 → Q (.nx r3)) (fun x r1 => Q (.ex x r1))) (fun x r1 => Q (.ex x r1))) : wS (insS i f g) r Q := by
  obtain ⟨xs, h0⟩ := h0
  refine wS_then (f := fun r => fillW r i) rfl (wE_ok (fillW_ok h0) (wS_then rfl (wE_mono h (fun k r1 h => wS_then rfl (wE_mono h (fun d r2 ⟨xs, e, q⟩ => wS_chg e q) fun _ _ h => h)) fun _ _ h => h)))
theorem s_put {i : Nat} {fi f : En → Rs D} (h : wE f r (fun d r1 => (∃ xs, r1[i]? = some (some (.ow xs))) ∧ wE fi r1 (fun k r2 => ∃ xs, r2[i]? = some (some (.ow xs)) ∧ Gi (DL.putF k d xs) fun ys => ∀ r3, r2.set i (some (.ow ys)) = r3 → Q (.nx r3)) (fun x r1 => Q (.ex x r1))) (fun x r1 => Q (.ex x r1))) : wS (putS i fi f) r Q := by
  refine wS_then rfl (wE_mono h (fun d r1 ⟨⟨xs, h0⟩, h⟩ => wS_then (f := fun r => fillW r i) rfl (wE_ok (fillW_ok h0) (wS_then rfl (wE_mono h (fun k r2 ⟨xs, e, q⟩ => wS_chg e q) fun _ _ h => h)))) fun _ _ h => h)
/-! loops -/
/-- behind a turn -/
def Tn (I : En → Prop) (Q : SRs → Prop) (x : SRs) : Prop := match x with
  | .nx r => I r
  | .ct r => I r
  | .bk r => Q (.nx r)
  | y => Q y
theorem Tn.n {I : En → Prop} {r1 : En} (h : I r1) : Tn I Q (.nx r1) := h
theorem Tn.t {I : En → Prop} {r1 : En} {o : OV} (h : Q (.rt o r1)) : Tn I Q (.rt o r1) := h
theorem s_for {it : En → Rs (List D)} {h : D → En → Option En} {body : En → SRs} (q : wE it r (fun ds r1 => wS (forS h body ds) r1 Q) (fun x r1 => Q (.ex x r1))) : wS (forD it h body) r Q := wS_then rfl q
/-! a turn that may not matter for a list of known things -/
/-- behind an except clause's suite -/
def Hq (i : Nat) (Q : SRs → Prop) (y : SRs) : Prop := match y with
  | .nx r3 => noX (r3.set i none) = true ∧ ∀ r4, r3.set i none = r4 → Q (.nx r4)
  | .rt o r3 => noX (r3.set i none) = true ∧ ∀ r4, r3.set i none = r4 → Q (.rt o r4)
  | .bk r3 => noX (r3.set i none) = true ∧ ∀ r4, r3.set i none = r4 → Q (.bk r4)
  | .ct r3 => noX (r3.set i none) = true ∧ ∀ r4, r3.set i none = r4 → Q (.ct r4)
  | _ => False
theorem Hq.n {i : Nat} {r3 : En} (h1 : noX (r3.set i none) = true) (h2 : ∀ r4, r3.set i none = r4 → Q (.nx r4)) : Hq i Q (.nx r3) := ⟨h1, h2⟩
theorem Hq.t {i : Nat} {o : OV} {r3 : En} (h1 : noX (r3.set i none) = true) (h2 : ∀ r4, r3.set i none = r4 → Q (.rt o r4)) : Hq i Q (.rt o r3) := ⟨h1, h2⟩
/-- behind what is tried -/
def Tq (ct : Str → Option Bool) (i : Nat) (fs : En → SRs) (Q : SRs → Prop) (x : SRs) : Prop := match x with
  | .ex x r1 => Gi (ct x.c) fun b => Ch b (∀ r2, r1.set i (some (.exc x)) = r2 → wS fs r2 (Hq i Q)) (Q (.ex x r1))
  | y => Q y
theorem Tq.n {ct : Str → Option Bool} {i : Nat} {fs : En → SRs} {r1 : En} (h : Q (.nx r1)) : Tq ct i fs Q (.nx r1) := h
theorem Tq.t {ct : Str → Option Bool} {i : Nat} {fs : En → SRs} {r1 : En} {o : OV} (h : Q (.rt o r1)) : Tq ct i fs Q (.rt o r1) := h
theorem s_try {ct : Str → Option Bool} {i : Nat} {fb fs : En → SRs} (h : wS fb r (Tq ct i fs Q)) : wS (tryS ct i fb fs) r Q := by
  unfold wS tryS at *
  revert h
  cases fb r with
  | ex x r1 =>
    rintro ⟨b, e, h⟩
    simp only [e]
    cases b with
    | false => exact h
    | true =>
      have h : Hq i Q (fs (r1.set i (some (.exc x)))) := h _ rfl
      simp only
      revert h
      cases fs (r1.set i (some (.exc x))) with
      | nx r3 => exact fun ⟨h1, h2⟩ => by simp only [h1, if_true]; exact h2 _ rfl
      | rt o r3 => exact fun ⟨h1, h2⟩ => by simp only [h1, if_true]; exact h2 _ rfl
      | bk r3 => exact fun ⟨h1, h2⟩ => by simp only [h1, if_true]; exact h2 _ rfl
      | ct r3 => exact fun ⟨h1, h2⟩ => by simp only [h1, if_true]; exact h2 _ rfl
      | ex x r3 => exact fun h => h.elim
      | bad => exact fun h => h.elim
  | nx r1 => exact fun h => h
  | rt o r1 => exact fun h => h
  | bk r1 => exact fun h => h
  | ct r1 => exact fun h => h
  | bad => exact fun h => h
end
/-! defs -/
theorem fnP_w {n : Nat} {m : En → SRs} {ds : List D} {o : OV} (h : ∀ r, startE n (ds.map OV.sh) = r → wS m r (fun x => match x with | .nx _ => o = .sh .non | .rt o' _ => o' = o | _ => False)) : fnP n m ds = some o := by
  unfold fnP
  have h := h _ rfl
  unfold wS at h
  revert h
  cases m (startE n (ds.map OV.sh)) with
  | nx r => exact fun h => by rw [h]
  | rt o' r => exact fun h => by rw [h]
  | _ => exact fun h => h.elim
/-! comprehensions and what is walked -/
section
variable {r : En} {E : Exn → En → Prop}
theorem w_itA {f : En → Rs D} {Q : List D → En → Prop} (h : wE f r (fun d r1 => Gi d.items fun ds => Q ds r1) E) : wE (itA f) r Q E :=
  wE_bind rfl (wE_mono h (fun d r1 ⟨i, e, q⟩ => wE_ok (r1 := r1) (a := i) (by rw [e]; rfl) q) fun _ _ h => h)
theorem w_enD {f : En → Rs D} {Q : List D → En → Prop} (h : wE f r (fun d r1 => Gi d.asL fun ds => Q (enumD 0 ds) r1) E) : wE (enD f) r Q E :=
  wE_bind rfl (wE_mono h (fun d r1 ⟨i, e, q⟩ => wE_ok (r1 := r1) (a := enumD 0 i) (by rw [e]; rfl) q) fun _ _ h => h)
theorem w_zpD {f g : En → Rs D} {Q : List D → En → Prop} (h : wE f r (fun d r1 => wE g r1 (fun e r2 => Gi (zip2 d e) fun ds => Q ds r2) E) E) : wE (zpD f g) r Q E :=
  wE_bind rfl (wE_mono h (fun d r1 h => wE_bind rfl (wE_mono h (fun d' r1 ⟨i, e, q⟩ => wE_ok (r1 := r1) (a := i) (by rw [e]; rfl) q) fun _ _ h => h)) fun _ _ h => h)
theorem w_rg1 {f : En → Rs D} {Q : List D → En → Prop} (h : wE f r (fun d r1 => ∃ i : Int, d = .int i ∧ (-1000000 ≤ i ∧ i ≤ 1000000) ∧ Q (rangeD 0 i.toNat) r1) E) : wE (rg1 f) r Q E :=
  wE_bind rfl (wE_mono h (fun d r1 ⟨i, e, hb, q⟩ => wE_ok (r1 := r1) (a := rangeD 0 i.toNat) (by subst e; show (if -1000000 ≤ i ∧ i ≤ 1000000 then _ else _) = _; rw [if_pos hb]) q) fun _ _ h => h)
theorem w_vaD {f : En → Rs D} {Q : List D → En → Prop} (h : wE f r (fun d r1 => Gi d.vals fun ds => Q ds r1) E) : wE (vaD f) r Q E :=
  wE_bind rfl (wE_mono h (fun d r1 ⟨i, e, q⟩ => wE_ok (r1 := r1) (a := i) (by rw [e]; rfl) q) fun _ _ h => h)
theorem w_its {f : En → Rs D} {Q : OV → En → Prop} (h : wE f r (fun d r1 => Gi d.itms fun ds => Q (.ow ds) r1) E) : wE (itsO f) r Q E :=
  wE_bind rfl (wE_mono h (fun d r1 ⟨i, e, q⟩ => wE_ok (r1 := r1) (a := .ow i) (by rw [e]; rfl) q) fun _ _ h => h)
end
end DL

/-! plain tools, part 11: running comprehensions with several clauses. -/
namespace DL
open PySem L2
section
variable {ok : List D → D → Bool} {fe : En → Rs D} {B : Nat} {r : En} {R : En → Prop}
end
section
variable {r : En} {Q : OV → En → Prop} {E : Exn → En → Prop} {cs : List GDt} {fe : En → Rs D}
/-! two clauses -/
end
section
variable {r : En} {E : Exn → En → Prop}
/-! more operations -/
theorem w_sum {p : Opd} {Q : OV → En → Prop} (h : wE p.run r (fun a r1 => Gi (look r1 a) fun x => Gi (semSumL x) fun z => Q (.ow z) r1) E) : wE (sumO p) r Q E :=
  wE_bind rfl (wE_mono h (fun a r1 ⟨x, e1, z, e2, q⟩ => wE_ok (r1 := r1) (a := .ow z) (by simp only [e1, Option.bind_some, e2, Option.map_some, ofO]) q) fun _ _ h => h)
theorem w_pnil {Q : List (Key × D) → En → Prop} (q : Q [] r) : wE (evPs []) r Q E := q
theorem w_pcons {f g : En → Rs D} {fs : List ((En → Rs D) × (En → Rs D))} {Q : List (Key × D) → En → Prop} (h : wE f r (fun k r1 => wE g r1 (fun d r2 => Gi k.key fun k => wE (evPs fs) r2 (fun kds r3 => Q ((k, d) :: kds) r3) E) E) E) : wE (evPs ((f, g) :: fs)) r Q E :=
  wE_bind (g := evPs ((f, g) :: fs)) (k := fun k r1 => (g r1).bind fun d r2 => (ofO k.key r2).bind fun k r2 => (evPs fs r2).bind fun kds r3 => .ok ((k, d) :: kds) r3) rfl (wE_mono h (fun k r1 h =>
    wE_bind (f := g) (k := fun d r2 => (ofO k.key r2).bind fun k r2 => (evPs fs r2).bind fun kds r3 => .ok ((k, d) :: kds) r3) rfl (wE_mono h (fun d r2 ⟨k', e, h⟩ =>
      wE_bind (f := fun r2 => ofO k.key r2) (k := fun k r2 => (evPs fs r2).bind fun kds r3 => .ok ((k, d) :: kds) r3) rfl (wE_ofO e (wE_bind (f := evPs fs) (k := fun kds r3 => .ok ((k', d) :: kds) r3) rfl (wE_mono h (fun kds r3 h => h) fun _ _ h => h)))) fun _ _ h => h)) fun _ _ h => h)
theorem w_dic {fs : List ((En → Rs D) × (En → Rs D))} {Q : D → En → Prop} (h : wE (evPs fs) r (fun kds r1 => kds.length ≤ 15 ∧ ∀ d, D.dic (mergeD [] kds) = d → Q d r1) nE) : wE (dicD fs) r Q E := by
  obtain ⟨kds, r1, e, hl, q⟩ := wE_get h
  exact wE_ok (r1 := r1) (a := .dic (mergeD [] kds)) (by unfold dicD; rw [e]; show (if _ then _ else _) = _; rw [if_pos hl]) (q _ rfl)
theorem w_dst {f : En → Rs D} {fs : List ((En → Rs D) × (En → Rs D))} {Q : D → En → Prop} (h : wE f r (fun d r1 => ∃ kds, d = .dic kds ∧ kds.length ≤ 1000 ∧ wE (evPs fs) r1 (fun rs r2 => rs.length ≤ 15 ∧ ∀ d, D.dic (mergeD (mergeD [] kds) (mergeD [] rs)) = d → Q d r2) nE) nE) : wE (dstD f fs) r Q E := by
  obtain ⟨d, r1, e, kds, rfl, hl, h⟩ := wE_get h
  obtain ⟨rs, r2, e2, hl2, q⟩ := wE_get h
  refine wE_ok (r1 := r2) (a := .dic (mergeD (mergeD [] kds) (mergeD [] rs))) ?_ (q _ rfl)
  unfold dstD
  rw [e]
  show (if kds.length ≤ 1000 then _ else _) = _
  rw [if_pos hl, e2]
  show (if rs.length ≤ 15 then _ else _) = _
  rw [if_pos hl2]
theorem w_stL {f : En → Rs D} {fs : List (En → Rs D)} {Q : OV → En → Prop} (h : wE f r (fun d r1 => ∃ xs, d = .lst xs ∧ wE (evs fs) r1 (fun ds r2 => (xs ++ ds).length ≤ 1000 ∧ Q (.ow (xs ++ ds)) r2) E) E) : wE (stL f fs) r Q E :=
  wE_bind rfl (wE_mono h (fun d r1 ⟨xs, e, h⟩ => by
    subst e
    exact wE_bind (f := evs fs) (k := fun ds r2 => if (xs ++ ds).length ≤ 1000 then .ok (.ow (xs ++ ds)) r2 else .bad) rfl (wE_mono h (fun ds r2 ⟨hl, q⟩ => wE_ok (r1 := r2) (a := .ow (xs ++ ds)) (by rw [if_pos hl]) q) fun _ _ h => h)) fun _ _ h => h)
theorem w_rg2 {f g : En → Rs D} {Q : List D → En → Prop} (h : wE f r (fun d r1 => wE g r1 (fun d' r2 => ∃ i j : Int, d = .int i ∧ d' = .int j ∧ ((-1000000 ≤ i ∧ i ≤ 1000000) ∧ -1000000 ≤ j ∧ j ≤ 1000000) ∧ Q (rangeD i (j - i).toNat) r2) E) E) : wE (rg2 f g) r Q E :=
  wE_bind rfl (wE_mono h (fun d r1 h => wE_bind rfl (wE_mono h (fun d' r2 ⟨i, j, e, e', hb, q⟩ => wE_ok (r1 := r2) (a := rangeD i (j - i).toNat) (by subst e; subst e'; show (if (-1000000 ≤ i ∧ i ≤ 1000000) ∧ -1000000 ≤ j ∧ j ≤ 1000000 then _ else _) = _; rw [if_pos hb]) q) fun _ _ h => h)) fun _ _ h => h)
end
theorem semAdd_l {xs ys : List D} (h : xs.length + ys.length ≤ 1000000) : semAdd (.lst xs) (.lst ys) = some (.lst (xs ++ ys)) := by
  show (if _ then _ else _) = _
  rw [if_pos h]
theorem semAdd_t {xs ys : List D} (h : xs.length + ys.length ≤ 1000000) : semAdd (.tup xs) (.tup ys) = some (.tup (xs ++ ys)) := by
  show (if _ then _ else _) = _
  rw [if_pos h]
theorem semAdd_s {x y : Str} (h : x.length + y.length ≤ 1000000) : semAdd (.str x) (.str y) = some (.str (x ++ y)) := by
  show (if _ then _ else _) = _
  rw [if_pos h]
end DL

/-! plain tools, part 12: running with sets of tuples. -/
namespace DL
open PySem L2
theorem s_clr {i : Nat} {r : En} {Q : SRs → Prop} {xs : List D} (e : r[i]? = some (some (.ow xs))) (q : ∀ r1, r.set i (some (.ow [])) = r1 → Q (.nx r1)) : wS (clrS i) r Q := by
  exact wS_then (f := fun r => fillW r i) rfl (wE_ok (fillW_ok e) (wS_chg e ⟨[], rfl, q⟩))
theorem hide_sh {d : D} : hideO (some (.sh d)) = some (.sh d) := rfl
theorem hide_ow {xs : List D} : hideO (some (.ow xs)) = none := rfl
theorem hide_no : hideO none = none := rfl
theorem w_bw {i : Nat} {f : En → Rs D} {r : En} {xs : List D} {Q : D → En → Prop} {E : Exn → En → Prop} (e : r[i]? = some (some (.ow xs))) (h : ∀ r1, (r.map hideO).set i (some (.sh (.lst xs))) = r1 → wE f r1 (fun d _ => d.flt = true ∧ Q d r) nE) : wE (bwD i f) r Q E := by
  obtain ⟨d, r1, e1, h1, q⟩ := wE_get (h _ rfl)
  refine wE_ok (r1 := r) (a := d) ?_ q
  unfold bwD
  rw [e]
  show bwR (f _) r = _
  rw [e1]
  exact if_pos h1
end DL

/-! plain tools, part 13: d.get(k, x), dict(zip(..)). -/
namespace DL
open PySem L2
theorem w_get {p k x : Opd} {r : En} {Q : D → En → Prop} {E : Exn → En → Prop} (h : wE p.run r (fun z r1 => Gi (look r1 z) fun d0 => d0.isDic = true ∧ wE k.run r1 (fun y r2 => wE x.run r2 (fun u r3 => Gi (look r3 z) fun d => Gi (look r3 y) fun e => Gi (look r3 u) fun c => Gi (semGet d e c) fun v => Q v r3) E) E) E) : wE (getD2 p k x) r Q E := by
  refine wE_bind rfl (wE_mono h (fun z r1 ⟨d0, e0, hd, h⟩ => ?_) fun _ _ h => h)
  have e1 : (ofO ((look r1 z).bind fun d => if d.isDic = true then some d else none) r1 : Rs D) = .ok d0 r1 := by simp only [e0, Option.bind_some, if_pos hd, ofO]
  refine wE_bind (f := fun r1 => ofO ((look r1 z).bind fun d => if d.isDic = true then some d else none) r1) rfl (wE_ok e1 ?_)
  exact wE_bind rfl (wE_mono h (fun y r2 h => wE_bind rfl (wE_mono h (fun u r3 ⟨d, e1, e, e2, c, e3, v, e4, q⟩ => wE_ok (r1 := r3) (a := v) (by simp only [e1, e2, e3, Option.bind_some, e4, ofO]) q) fun _ _ h => h)) fun _ _ h => h)
end DL

/-! plain tools, part 14: dict comprehensions, owned dicts, two fields at once, isinstance of an own class. -/
namespace DL
open PySem L2
section
variable {r : En} {E : Exn → En → Prop}
theorem putFd_len (f : Str) (d : D) : ∀ fl : List (Str × D), (putFd f d fl).length ≤ fl.length + 1
  | [] => Nat.le_refl _
  | (g, x) :: fl => by
    unfold putFd
    have := putFd_len f d fl
    split
    · simp
    · simp only [List.length_cons]; omega
theorem s_fld2 {i : Nat} {c f1 f2 : Str} {h1 h2 : En → Rs D} {Q : SRs → Prop} (h : wE h1 r (fun d1 r1 => wE h2 r1 (fun d2 r2 => ∃ fl, r2[i]? = some (some (.oi c fl)) ∧ fl.length < 800 ∧ ∀ r3, r2.set i (some (.oi c (putFd f2 d2 (putFd f1 d1 fl)))) = r3 → Q (.nx r3)) (fun x r1 => Q (.ex x r1))) (fun x r1 => Q (.ex x r1))) : wS (fld2S i c f1 f2 h1 h2) r Q :=
  wS_then rfl (wE_mono h (fun d1 r1 h => wS_then rfl (wE_mono h (fun d2 r2 ⟨fl, e, hl, q⟩ => by
    have hi : i < r2.length := (List.getElem?_eq_some_iff.mp e).1
    have pl : (putFd f1 d1 fl).length < 900 := by
      have := putFd_len f1 d1 fl
      omega
    have e1 : putFs i c f1 d1 r2 = some (r2.set i (some (.oi c (putFd f1 d1 fl)))) := by
      unfold putFs
      simp only [e, true_and, if_pos (show fl.length < 900 by omega)]
    have e2 : putFs i c f2 d2 (r2.set i (some (.oi c (putFd f1 d1 fl)))) = some (r2.set i (some (.oi c (putFd f2 d2 (putFd f1 d1 fl))))) := by
      unfold putFs
      simp only [List.getElem?_set_self hi, true_and, if_pos pl, List.set_set]
    have e3 : (ofO ((putFs i c f1 d1 r2).bind fun r3 => putFs i c f2 d2 r3) r2 : Rs En) = .ok (r2.set i (some (.oi c (putFd f2 d2 (putFd f1 d1 fl))))) r2 := by
      rw [e1, Option.bind_some, e2]
      rfl
    exact wS_then (f := fun r2 => ofO ((putFs i c f1 d1 r2).bind fun r3 => putFs i c f2 d2 r3) r2) rfl (wE_ok e3 (q _ rfl))) fun _ _ h => h)) fun _ _ h => h)
theorem w_iso {p : Opd} {c : Str} {Q : D → En → Prop} (h : wE p.run r (fun a r1 => Gi (look r1 a) fun x => Gi (isoB c x) fun b => Q (.bl b) r1) E) : wE (isoD p c) r Q E :=
  wE_bind rfl (wE_mono h (fun a r1 ⟨x, e1, b, e2, q⟩ => wE_ok (r1 := r1) (a := .bl b) (by simp only [e1, Option.bind_some, e2, Option.map_some, ofO]) q) fun _ _ h => h)
/-! owned dicts -/
theorem s_newDk {i : Nat} {Q : SRs → Prop} (q : ∀ r1, r.set i (some (.th (.dk []))) = r1 → Q (.nx r1)) : wS (newDk i) r Q := q _ rfl
theorem slDk_at {i : Nat} {kvs : List (Key × D)} (e : r[i]? = some (some (.th (.dk kvs)))) : slDk r i = some kvs := by unfold slDk; rw [e]; rfl
theorem s_putDk {i : Nat} {fi f : En → Rs D} {Q : SRs → Prop} (h : wE f r (fun d r1 => (∃ kvs, r1[i]? = some (some (.th (.dk kvs)))) ∧ wE fi r1 (fun kd r2 => ∃ kvs, r2[i]? = some (some (.th (.dk kvs))) ∧ kvs.length ≤ 1000000 ∧ Gi kd.key fun k => ∀ r3, r2.set i (some (.th (.dk (putD kvs k d)))) = r3 → Q (.nx r3)) (fun x r1 => Q (.ex x r1))) (fun x r1 => Q (.ex x r1))) : wS (putDk i fi f) r Q :=
  wS_then rfl (wE_mono h (fun d r1 ⟨⟨kvs, e0⟩, h⟩ => by
    have hf : fill r1 i = .ok () r1 := by unfold fill; rw [e0]
    refine wS_then (f := fun r => fill r i) rfl (wE_ok hf (wS_then rfl (wE_mono h (fun kd r2 ⟨kvs, e1, hl, k, ek, q⟩ => ?_) fun _ _ h => h)))
    have e2 : (ofO ((slDk r2 i).bind fun kvs => if kvs.length ≤ 1000000 then kd.key.map fun k => putD kvs k d else none) r2 : Rs (List (Key × D))) = .ok (putD kvs k d) r2 := by
      rw [slDk_at e1, Option.bind_some, if_pos hl, ek]
      rfl
    exact wS_then (f := fun r2 => ofO ((slDk r2 i).bind fun kvs => if kvs.length ≤ 1000000 then kd.key.map fun k => putD kvs k d else none) r2) rfl (wE_ok e2 (q _ rfl))) fun _ _ h => h)
end
end DL

/-! Tools, part 15: own == and &. -/
namespace DL
open PySem L2
variable {r : En} {E : Exn → En → Prop}
theorem w_opM {c : Str} {ok : D → Bool} {f : List D → FR} {fo fe : En → Rs D} {Q : OV → En → Prop} (h : wE fo r (fun x r1 => wE fe r1 (fun y r2 => (isC c x && ok y) = true ∧ Gx (f [x, y]) (fun o => Q o r2) (fun x => E x r2)) E) E) : wE (opM c ok f fo fe) r Q E :=
  wE_bind rfl (wE_mono h (fun x r1 h => wE_bind (f := fe) rfl (wE_mono h (fun y r2 ⟨hk, q⟩ => by
    show wE (fun r2 => if (isC c x && ok y) = true then frR (f [x, y]) r2 else .bad) r2 Q E
    simp only [if_pos hk]
    exact wE_fr q) fun _ _ h => h)) fun _ _ h => h)
end DL

/-! Tools, part 16: running with owned dicts: dict(d), d[k], defs that hand out their own dict; own !=. -/
namespace DL
open PySem L2
variable {r : En} {E : Exn → En → Prop}
theorem w_vDk {i : Nat} {kvs : List (Key × D)} {Q : D → En → Prop} (e : r[i]? = some (some (.th (.dk kvs)))) (q : ∀ r1, r.set i (some (.sh (.dic kvs))) = r1 → Q (.dic kvs) r1) : wE (vDk i) r Q E := by unfold wE vDk; rw [e]; exact q _ rfl
theorem w_vDkS {i : Nat} {d : D} {Q : D → En → Prop} (e : r[i]? = some (some (.sh d))) (q : Q d r) : wE (vDk i) r Q E := by unfold wE vDk; rw [e]; exact q
theorem w_getDk {i : Nat} {f : En → Rs D} {Q : D → En → Prop} (h0 : ∃ o, r[i]? = some (some o)) (h : wE f r (fun kd r1 => ∃ kvs, r1[i]? = some (some (.th (.dk kvs))) ∧ Gi (semAt (.dic kvs) kd) fun d => Q d r1) E) : wE (getDk i f) r Q E := by
  obtain ⟨o, h0⟩ := h0
  have hf : fill r i = .ok () r := by unfold fill; rw [h0]
  refine wE_bind (f := fun r => fill r i) rfl (wE_ok hf ?_)
  refine wE_bind rfl (wE_mono h (fun kd r1 ⟨kvs, e1, z, e2, q⟩ => ?_) fun _ _ h => h)
  refine wE_ok (r1 := r1) (a := z) ?_ q
  rw [slDk_at e1]
  show ofO (semAt (.dic kvs) kd) r1 = _
  rw [e2]
  rfl
theorem s_setK {i : Nat} {f : En → Rs (List (Key × D))} {Q : SRs → Prop} (h : wE f r (fun kvs r1 => ∀ r2, r1.set i (some (.th (.dk kvs))) = r2 → Q (.nx r2)) (fun x r1 => Q (.ex x r1))) : wS (setK i f) r Q := wS_then rfl (wE_mono h (fun o r1 h => h _ rfl) fun _ _ h => h)
theorem w_cpK {f : En → Rs D} {Q : List (Key × D) → En → Prop} (h : wE f r (fun d r1 => ∃ kvs, d = .dic kvs ∧ Q kvs r1) E) : wE (cpK f) r Q E :=
  wE_bind rfl (wE_mono h (fun d r1 ⟨kvs, e, q⟩ => by subst e; exact wE_ok (r1 := r1) (a := kvs) rfl q) fun _ _ h => h)
theorem w_ifK {t : En → Rs Bool} {f h : En → Rs (List (Key × D))} {Q : List (Key × D) → En → Prop} (q : wE t r (fun b r1 => Ch b (wE f r1 Q E) (wE h r1 Q E)) E) : wE (ifK t f h) r Q E :=
  wE_bind rfl (wE_mono q (fun b r1 q => by cases b <;> exact q) fun _ _ h => h)
theorem w_frzK {f : En → Rs (List (Key × D))} {Q : D → En → Prop} (h : wE f r (fun kvs r1 => Q (.dic kvs) r1) E) : wE (frzK f) r Q E :=
  wE_bind rfl (wE_mono h (fun kvs r1 q => wE_ok (r1 := r1) (a := D.dic kvs) rfl q) fun _ _ h => h)
def Gk (o : Option (List (Key × D) × List D)) (k : List (Key × D) → List D → Prop) : Prop := ∃ a b, o = some (a, b) ∧ k a b
theorem Gk.of {o : Option (List (Key × D) × List D)} {k : List (Key × D) → List D → Prop} {a : List (Key × D)} {b : List D} (e : o = some (a, b)) (q : k a b) : Gk o k := ⟨a, b, e, q⟩
theorem w_callBD {n j : Nat} {f : List D → List D → Option (List (Key × D) × List D)} {fs : List (En → Rs D)} {Q : List (Key × D) → En → Prop} (hj : ∃ o, r[j]? = some (some o)) (h : wE (evs fs) r (fun ds r1 => ds.length = n ∧ ∃ bs, r1[j]? = some (some (.ow bs)) ∧ Gk (f bs ds) fun o b' => ∀ r2, r1.set j (some (.ow b')) = r2 → Q o r2) E) : wE (callBD n f j fs) r Q E := by
  obtain ⟨o, hj⟩ := hj
  have hf : fill r j = .ok () r := by unfold fill; rw [hj]
  refine wE_bind (f := fun r => fill r j) rfl (wE_ok hf ?_)
  refine wE_bind rfl (wE_mono h (fun ds r1 ⟨hl, bs, e1, o, b', e2, q⟩ => wE_ok (r1 := r1.set j (some (.ow b'))) (a := o) ?_ (q _ rfl)) fun _ _ h => h)
  have : (lookV r1 j).bind OV.lst? = some bs := by unfold lookV; rw [e1]; rfl
  rw [if_pos hl, this]
  simp only [Option.bind_some, e2, ofO, Rs.bind]
theorem w_neM {c : Str} {f : List D → Option OV} {fo fe : En → Rs D} {Q : D → En → Prop} (h : wE fo r (fun x r1 => wE fe r1 (fun y r2 => (isC c x && eqArg c y) = true ∧ ∃ b, f [x, y] = some (.sh (.bl b)) ∧ Q (.bl (!b)) r2) E) E) : wE (neM c f fo fe) r Q E :=
  wE_bind rfl (wE_mono h (fun x r1 h => wE_bind (f := fe) rfl (wE_mono h (fun y r2 ⟨hk, b, e, q⟩ => by
    refine wE_ok (r1 := r2) (a := .bl (!b)) ?_ q
    rw [if_pos hk]
    simp only [e]) fun _ _ h => h)) fun _ _ h => h)
/-! a for over a literal list, turn by turn -/
theorem hasDk {i : Nat} {kvs : List (Key × D)} {P : Prop} (e : r[i]? = some (some (.th (.dk kvs)))) (p : P) : (∃ kvs, r[i]? = some (some (OV.th (Tg.dk kvs)))) ∧ P := ⟨⟨kvs, e⟩, p⟩
theorem getsDk {i : Nat} {kvs : List (Key × D)} {P : List (Key × D) → Prop} (e : r[i]? = some (some (.th (.dk kvs)))) (h : kvs.length ≤ 1000000) (p : P kvs) : ∃ kvs, r[i]? = some (some (OV.th (Tg.dk kvs))) ∧ kvs.length ≤ 1000000 ∧ P kvs := ⟨kvs, e, h, p⟩
theorem getDk' {i : Nat} {kvs : List (Key × D)} {P : List (Key × D) → Prop} (e : r[i]? = some (some (.th (.dk kvs)))) (p : P kvs) : ∃ kvs, r[i]? = some (some (OV.th (Tg.dk kvs))) ∧ P kvs := ⟨kvs, e, p⟩
end DL

/-! plain tools, part 17: running pop as a value, owned dicts with tuples as keys, while, sorted(a | b). -/
namespace DL
open PySem L2
section
variable {r : En} {E : Exn → En → Prop}
theorem w_enX {f : En → Rs D} {Q : List D → En → Prop} (h : wE f r (fun d r1 => Gi d.asE fun ds => Q (enumD 0 ds) r1) E) : wE (enX f) r Q E :=
  wE_bind rfl (wE_mono h (fun d r1 ⟨i, e, q⟩ => wE_ok (r1 := r1) (a := enumD 0 i) (by rw [e]; rfl) q) fun _ _ h => h)
theorem w_popV {i : Nat} {f : En → Rs D} {Q : D → En → Prop} (h0 : ∃ xs, r[i]? = some (some (.ow xs))) (h : wE f r (fun d r1 => ∃ xs, r1[i]? = some (some (.ow xs)) ∧ Gi (popP d xs) fun z => ∀ r2, r1.set i (some (.ow z.2)) = r2 → Q z.1 r2) E) : wE (popV i f) r Q E := by
  obtain ⟨xs, h0⟩ := h0
  refine wE_bind (f := fun r => fillW r i) rfl (wE_ok (fillW_ok h0) ?_)
  refine wE_bind rfl (wE_mono h (fun d r1 ⟨ys, e1, z, e2, q⟩ => ?_) fun _ _ h => h)
  refine wE_ok (r1 := r1.set i (some (.ow z.2))) (a := z.1) ?_ (q _ rfl)
  rw [e1]
  simp only [e2]
theorem w_getOd {i : Nat} {f : En → Rs D} {Q : D → En → Prop} (h0 : ∃ o, r[i]? = some (some o)) (h : wE f r (fun kd r1 => ∃ kvs, r1[i]? = some (some (.od kvs)) ∧ Gi (kd.key8.bind fun k => odAt kvs k) fun d => Q d r1) E) : wE (getOd i f) r Q E := by
  obtain ⟨o, h0⟩ := h0
  have hf : fill r i = .ok () r := by unfold fill; rw [h0]
  refine wE_bind (f := fun r => fill r i) rfl (wE_ok hf ?_)
  refine wE_bind rfl (wE_mono h (fun kd r1 ⟨kvs, e1, z, e2, q⟩ => ?_) fun _ _ h => h)
  refine wE_ok (r1 := r1) (a := z) ?_ q
  rw [e1]
  show ofO (kd.key8.bind fun k => odAt kvs k) r1 = _
  rw [e2]
  rfl
theorem w_inOd {n : Bool → Bool} {i : Nat} {f : En → Rs D} {Q : Bool → En → Prop} (h : wE f r (fun kd r1 => ∃ kvs, r1[i]? = some (some (.od kvs)) ∧ Gi kd.key8 fun k => Q (n (odHas kvs k)) r1) E) : wE (inOd n i f) r Q E := by
  refine wE_bind rfl (wE_mono h (fun kd r1 ⟨kvs, e1, k, e2, q⟩ => ?_) fun _ _ h => h)
  refine wE_ok (r1 := r1) (a := n (odHas kvs k)) ?_ q
  rw [e1]
  show ofO (kd.key8.map fun k => n (odHas kvs k)) r1 = _
  rw [e2]
  rfl
theorem s_putOd {i : Nat} {fi f : En → Rs D} {Q : SRs → Prop} (h : wE f r (fun d r1 => (∃ o, r1[i]? = some (some o)) ∧ wE fi r1 (fun kd r2 => ∃ kvs, r2[i]? = some (some (.od kvs)) ∧ Gi kd.key8 fun k => (odHas kvs k = false ∧ kvs.length ≤ 1000000) ∧ ∀ r3, r2.set i (some (.od (kvs ++ [(kd, d)]))) = r3 → Q (.nx r3)) (fun x r1 => Q (.ex x r1))) (fun x r1 => Q (.ex x r1))) : wS (putOd i fi f) r Q := by
  refine wS_then rfl (wE_mono h (fun d r1 ⟨⟨o, h0⟩, h⟩ => ?_) fun _ _ h => h)
  have hf : fill r1 i = .ok () r1 := by unfold fill; rw [h0]
  refine wS_then (f := fun r => fill r i) rfl (wE_ok hf (wS_then rfl (wE_mono h (fun kd r2 ⟨kvs, e1, k, e2, hc, q⟩ => ?_) fun _ _ h => h)))
  unfold wS
  simp only [e1, e2, hc, and_self, if_true]
  exact q _ rfl
theorem s_parOd1 {i j : Nat} {fk fv : En → Rs D} {h : En → Rs OV} {Q : SRs → Prop} (w : wE fk r (fun kd r1 => wE fv r1 (fun d r2 => Gi kd.key8 fun _ => wE h r2 (fun o r3 => ∀ r4, (r3.set i (some (.od [(kd, d)]))).set j (some o) = r4 → Q (.nx r4)) nE) nE) nE) : wS (parOd1 i j fk fv h) r Q := by
  obtain ⟨kd, r1, e1, w⟩ := wE_get w
  obtain ⟨d, r2, e2, k, e3, w⟩ := wE_get w
  obtain ⟨o, r3, e4, w⟩ := wE_get w
  unfold wS parOd1
  rw [e1]
  show Q (thenS ((fv r1).noE) _)
  rw [e2]
  show Q (thenS (ofO kd.key8 r2) _)
  rw [e3]
  show Q (thenS ((h r2).noE) _)
  rw [e4]
  exact w _ rfl
theorem w_orS {fa fb : En → Rs (List Str)} {Q : OV → En → Prop} (h : wE fa r (fun ts r1 => wE fb r1 (fun us r2 => ((addT [] ts).length ≤ 15 ∧ (addT [] us).length ≤ 15) ∧ Q (.ow ((srtT (ts ++ us)).map D.str)) r2) E) E) : wE (orS fa fb) r Q E := by
  refine wE_bind rfl (wE_mono h (fun ts r1 h => ?_) fun _ _ h => h)
  refine wE_bind rfl (wE_mono h (fun us r2 ⟨hc, q⟩ => ?_) fun _ _ h => h)
  refine wE_ok (r1 := r2) (a := OV.ow ((srtT (ts ++ us)).map D.str)) ?_ q
  rw [if_pos hc]
  rfl
theorem w_lenDk {i : Nat} {Q : D → En → Prop} {kvs : List (Key × D)} (e : r[i]? = some (some (.th (.dk kvs)))) (q : Q (.int (kvs.length : Nat)) r) : wE (lenDk i) r Q E := by
  refine wE_ok (r1 := r) ?_ q
  unfold lenDk
  rw [slDk_at e]
  rfl
end
end DL

/-! plain tools, part 18: T.get(k, n), heard(lambda: e), x += k, xs.count(..). -/
namespace DL
open PySem L2
def getT (t : List (Str × D)) (e c : D) : Option D := match e, c with
  | .str z, .int n => some ((t.lookup z).getD (.int n))
  | _, _ => none
section
variable {r : En} {E : Exn → En → Prop}
theorem w_tabGet {t : List (Str × D)} {k x : Opd} {Q : D → En → Prop} (h : wE k.run r (fun y r1 => wE x.run r1 (fun u r2 => Gi (look r2 y) fun e => Gi (look r2 u) fun c => Gi (getT t e c) fun d => Q d r2) E) E) : wE (tabGetD t k x) r Q E :=
  wE_bind rfl (wE_mono h (fun y r1 h => wE_bind rfl (wE_mono h (fun u r2 ⟨e, e1, c, e2, d, e3, q⟩ => wE_ok (r1 := r2) (a := d) (by
    simp only [e1, e2, Option.bind_some]
    show ofO (getT t e c) r2 = _
    rw [e3]
    rfl) q) fun _ _ h => h)) fun _ _ h => h)
theorem s_augN {i : Nat} {y : Int} {Q : SRs → Prop} (h : ∃ z, r[i]? = some (some (.sh (.int z))) ∧ ∀ r2, r.set i (some (.sh (.int (z + y)))) = r2 → Q (.nx r2)) : wS (augN i y) r Q := by
  obtain ⟨z, e, q⟩ := h
  unfold wS augN
  simp only [e]
  exact q _ rfl
end
end DL

/-! plain tools, part 19: bodies that clear a dict frozen in them; defs with the bag that hand out the dict of a display. -/
namespace DL
open PySem L2
section
variable {r : En} {E : Exn → En → Prop}
theorem isWE {α : Type} {f : En → Rs α} {Q : α → En → Prop} (h : wE f r Q E) : wE f r Q E := h
theorem isWS {f : En → SRs} {Q : SRs → Prop} (h : wS f r Q) : wS f r Q := h
theorem isGi {α : Type} {o : Option α} {k : α → Prop} (h : Gi o k) : Gi o k := h
theorem s_extT {i : Nat} {f : En → Rs D} {Q : SRs → Prop} (h0 : ∃ xs, r[i]? = some (some (.ow xs))) (h : wE f r (fun d r1 => ∃ xs, r1[i]? = some (some (.ow xs)) ∧ Gi (extFT d xs) fun ys => ∀ r2, r1.set i (some (.ow ys)) = r2 → Q (.nx r2)) (fun x r1 => Q (.ex x r1))) : wS (extST i f) r Q := by
  obtain ⟨xs, h0⟩ := h0
  refine wS_then (f := fun r => fillW r i) rfl (wE_ok (fillW_ok h0) (wS_then rfl (wE_mono h (fun d r1 ⟨xs, e, q⟩ => wS_chg e q) fun _ _ h => h)))
end
end DL

/-! All lists within a thing changed: none stands twice. -/
namespace DL
open PySem L2
/-- f(x), x given away: True where no list stands twice in it -/
def spRu (K : PySem.W.Frag) : Sp := fun vs H Q _ => ∃ F v d l, vs = [v] ∧ Same F H ∧ LR K F v d l ∧ d.dp < 20 ∧ l.length ≤ 1000 ∧ l.Nodup ∧ (∀ c ∈ l, ∀ xs, F c = some (.lst xs) → xs.length ≤ 1000) ∧ ∀ H', (∀ b o, H b = some o → b ∉ l → H' b = some o) → Q (.bl true) H'
/-! ### what is read behind it -/
mutual
/-- what was read is read still, if each list of it has something -/
theorem LR.any {K : PySem.W.Frag} {F F2 : Hp} {S : List Addr} (keep : ∀ b o, F b = some o → (∀ xs, o ≠ .lst xs) → F2 b = some o) (new : ∀ c ∈ S, ∀ xs, F c = some (.lst xs) → ∃ i, F2 c = some (.lst (xs ++ [.int i]))) : ∀ {v : V} {d : D} {l : List Addr}, LR K F v d l → (∀ b ∈ l, b ∈ S) → ∃ d', RD K F2 v d'
  | _, d, _, .flat h1 h2, _ => by
    cases d with
    | non => cases h2; exact ⟨_, .non⟩
    | bl b => cases h2; exact ⟨_, .bl _⟩
    | int i => cases h2; exact ⟨_, .int _⟩
    | str x => cases h2; exact ⟨_, .str _⟩
    | _ => cases h1
  | _, _, _, .lst h1 h2, hs => by
    obtain ⟨i, e⟩ := new _ (hs _ List.mem_cons_self) _ h1
    obtain ⟨ds', h⟩ := LRs.any keep new h2 fun b hb => hs b (List.mem_cons_of_mem _ hb)
    exact ⟨_, .lst e (h.app (.cons (.int i) .nil))⟩
  | _, _, _, .tup h1 h2, hs => by
    obtain ⟨ds', h⟩ := LRs.any keep new h2 hs
    refine ⟨.tup ds', .tup ?_ h⟩
    rcases h1 with (h1 | ⟨o, h1⟩) | h1
    · exact .inl (.inl (keep _ _ h1 fun xs z => by cases z))
    · exact .inl (.inr ⟨o, keep _ _ h1 fun xs z => by cases z⟩)
    · exact .inr h1
theorem LRs.any {K : PySem.W.Frag} {F F2 : Hp} {S : List Addr} (keep : ∀ b o, F b = some o → (∀ xs, o ≠ .lst xs) → F2 b = some o) (new : ∀ c ∈ S, ∀ xs, F c = some (.lst xs) → ∃ i, F2 c = some (.lst (xs ++ [.int i]))) : ∀ {v : List V} {d : List D} {l : List (List Addr)}, LRs K F v d l → (∀ b ∈ l.flatten, b ∈ S) → ∃ ds', RDs K F2 v ds'
  | _, _, _, .nil, _ => ⟨_, .nil⟩
  | _, _, _, .cons h1 h2, hs => by
    obtain ⟨d', e1⟩ := LR.any keep new h1 fun b hb => hs b (by rw [List.flatten_cons]; exact List.mem_append_left _ hb)
    obtain ⟨ds', e2⟩ := LRs.any keep new h2 fun b hb => hs b (by rw [List.flatten_cons]; exact List.mem_append_right _ hb)
    exact ⟨_, .cons e1 e2⟩
end
section
variable {P : Program} {w : World} {K : PySem.W.Frag} {mg : Str → Option Value} {base : Heap}
end
/-! ### the last row's value -/
structure HasRu (P : Program) (w : World) (K : PySem.W.Frag) (mg : Str → Option Value) (base : Heap) (k : Nat) (x : Str) : Prop where
  ex : ∃ fa fd ps, FnG P w K mg base CX0 k fa fd ps (spRu K) ∧ mg x = some (.ref fa) ∧ PySem.W.keepIn K (.ref fa) = true ∧ Binds K fd ps []
end DL

/-! not f(list(x[1])), x a name whose value's lists are new, f the def that changes all lists. -/
namespace DL
open PySem L2
mutual
/-- the number of lists within; the longest one's length -/
def D.nl : D → Nat
  | .lst xs => nlAll xs + 1
  | .tup xs => nlAll xs
  | _ => 0
def nlAll : List D → Nat
  | [] => 0
  | d :: ds => d.nl + nlAll ds
end
section
variable {K : PySem.W.Frag} {F : Hp}
mutual
theorem LR.nl : ∀ {v : V} {d : D} {l : List Addr}, LR K F v d l → l.length = d.nl
  | _, d, _, .flat h _ => by cases d <;> first | rfl | cases h
  | _, _, _, .lst _ h => by
    rw [List.length_cons, LRs.nl h]
    rfl
  | _, _, _, .tup _ h => LRs.nl h
theorem LRs.nl : ∀ {v : List V} {d : List D} {l : List (List Addr)}, LRs K F v d l → l.flatten.length = nlAll d
  | _, _, _, .nil => rfl
  | _, _, _, .cons h1 h2 => by
    rw [List.flatten_cons, List.length_append, LR.nl h1, LRs.nl h2]
    rfl
end
end
end DL

/-! x = heard(..); if not alike(x, due) or t: return False; if x[0] == "told" and not ruined(list(x[1])): return False -/
namespace DL
open PySem L2
section
variable {X : Cx} {g : G} {i j : Nat} {hT : En → Rs D} {fa : List D → Option OV} {t2 : En → Rs Bool} {st1 st2 st3 : Stmt} {rest : List Stmt} {fr : En → SRs} {tb2 tb3 : TS}
end
end DL

local macro_rules | `(tactic| walk_at "lenb") => `(tactic| first | omega | (simp only [List.length_append, List.length_map, List.length_cons, List.length_nil, List.length_range, List.length_take, List.length_drop, List.length_zipIdx, List.length_reverse]; omega))
local macro_rules | `(tactic| walk_at "lks") => `(tactic| first | exact DL.lks_nil | (refine' DL.lks_cons ?a ?b; (case a => first | exact DL.lk_l | exact DL.lk_sh rfl | exact DL.lk_ow rfl); (case b => walk_at "lks")))
local macro_rules | `(tactic| walk_at "dk") => `(tactic| first
  | ((with_reducible refine' DL.hasDk ?e ?q); (case e => rfl))
  | ((with_reducible refine' DL.getsDk ?e ?l ?q); (case e => rfl); (case l => first | exact Nat.le_of_ble_eq_true rfl | assumption | omega))
  | ((with_reducible refine' DL.getDk' ?e ?q); (case e => rfl)))
local macro_rules | `(tactic| walk_at "go1ws") => `(tactic| first
  | (with_reducible refine DL.s_seq ?_)
  | (with_reducible refine DL.s_augN ?_)
  | (with_reducible refine DL.s_putOd ?_)
  | (with_reducible refine DL.s_parOd1 ?_)
  | (with_reducible refine DL.s_setK ?_)
  | (with_reducible refine DL.s_set ?_)
  | (with_reducible refine DL.s_fld2 ?_)
  | (with_reducible refine DL.s_newDk ?_)
  | (with_reducible refine DL.s_putDk ?_)
  | (with_reducible refine DL.s_if ?_)
  | (with_reducible refine DL.s_rt ?_)
  | (with_reducible refine DL.s_rtN ?_)
  | (with_reducible refine DL.s_nx ?_)
  | (with_reducible refine DL.s_ex ?_)
  | (with_reducible refine DL.s_raise ?_)
  | ((with_reducible refine' DL.s_clr ?e ?q); (case e => rfl))
  | ((with_reducible refine DL.s_app ?e ?q); (case e => exact ⟨_, rfl⟩))
  | ((with_reducible refine DL.s_ext ?e ?q); (case e => exact ⟨_, rfl⟩))
  | ((with_reducible refine DL.s_extT ?e ?q); (case e => exact ⟨_, rfl⟩))
  | ((with_reducible refine DL.s_pop ?e ?q); (case e => exact ⟨_, rfl⟩))
  | ((with_reducible refine DL.s_ins ?e ?q); (case e => exact ⟨_, rfl⟩))
  | (with_reducible refine DL.s_put ?_)
  | (with_reducible refine DL.s_par2 ?_)
  | (with_reducible refine DL.s_par3 ?_)
  | (with_reducible refine DL.s_par2o ?_)
  | (with_reducible refine DL.s_asg ?_)
  | (with_reducible refine DL.s_fld ?_)
  | (with_reducible refine DL.s_for ?_)
  | (with_reducible refine DL.s_try ?_)
  | (with_reducible refine DL.s_bk ?_)
  | (with_reducible refine DL.s_ct ?_))
local macro_rules | `(tactic| walk_at "go1we") => `(tactic| first
  | (with_reducible refine DL.w_con ?_)
  | ((with_reducible refine' DL.w_var ?e ?q); (case e => rfl))
  | ((with_reducible refine' DL.w_varO ?e ?q); (case e => rfl))
  | (with_reducible refine DL.w_frz ?_)
  | (with_reducible refine DL.w_sh ?_)
  | ((with_reducible refine' DL.w_mv ?e ?q); (case e => rfl))
  | ((with_reducible refine' DL.w_mvO ?e ?q); (case e => rfl))
  | (with_reducible refine DL.w_oex ?_)
  | ((with_reducible refine' DL.w_ova ?e ?q); (case e => rfl))
  | (with_reducible refine DL.w_op2 ?_)
  | (with_reducible refine DL.w_op1 ?_)
  | (with_reducible refine DL.w_rnil ?_)
  | (with_reducible refine DL.w_rcons ?_)
  | (with_reducible refine DL.w_opN ?_)
  | (with_reducible refine DL.w_get ?_)
  | (with_reducible refine DL.w_opNO ?_)
  | (with_reducible refine DL.w_op2O ?_)
  | (with_reducible refine DL.w_enil ?_)
  | (with_reducible refine DL.w_econs ?_)
  | (with_reducible refine DL.w_tup ?_)
  | (with_reducible refine DL.w_lst ?_)
  | (with_reducible refine DL.w_call ?_)
  | ((with_reducible refine DL.w_callB ?e ?q); (case e => exact ⟨_, rfl⟩))
  | (with_reducible refine DL.w_callL ?_)
  | (with_reducible refine DL.w_callX ?_)
  | (with_reducible refine DL.w_make ?_)
  | (with_reducible refine DL.w_meth ?_)
  | (with_reducible refine DL.w_lenM ?_)
  | (with_reducible refine DL.w_toB ?_)
  | (with_reducible refine DL.w_toT ?_)
  | (with_reducible refine DL.w_notT ?_)
  | (with_reducible refine DL.w_notD ?_)
  | (with_reducible refine DL.w_notV ?_)
  | (with_reducible refine DL.w_andT ?_)
  | (with_reducible refine DL.w_orT ?_)
  | (with_reducible refine DL.w_andD ?_)
  | (with_reducible refine DL.w_orD ?_)
  | (with_reducible refine DL.w_andV ?_)
  | (with_reducible refine DL.w_orV ?_)
  | (with_reducible refine DL.w_if ?_)
  | (with_reducible refine DL.w_chain ?_)
  | (with_reducible refine DL.w_isi ?_)
  | (with_reducible refine DL.w_iso ?_)
  | (with_reducible refine DL.w_m1 ?_)
  | (with_reducible refine DL.w_znil ?_)
  | (with_reducible refine DL.w_zcons ?_)
  | (with_reducible refine DL.w_zst ?_)
  | (with_reducible refine DL.w_lstZ ?_)
  | (with_reducible refine DL.w_tupZ ?_)
  | (with_reducible refine DL.w_poN ?_)
  | (with_reducible refine DL.w_poS ?_)
  | (with_reducible refine DL.w_sl ?_)
  | (with_reducible refine DL.w_yes ?_)
  | (with_reducible refine DL.w_itA ?_)
  | (with_reducible refine DL.w_enD ?_)
  | (with_reducible refine DL.w_zpD ?_)
  | (with_reducible refine DL.w_enX ?_)
  | (with_reducible refine DL.w_tabGet ?_)
  | ((with_reducible refine DL.w_popV ?e ?q); (case e => exact ⟨_, rfl⟩))
  | ((with_reducible refine DL.w_getOd ?e ?q); (case e => exact ⟨_, rfl⟩))
  | (with_reducible refine DL.w_inOd ?_)
  | (with_reducible refine DL.w_orS ?_)
  | ((with_reducible refine' DL.w_lenDk ?e ?q); (case e => rfl))
  | (with_reducible refine DL.w_rg1 ?_)
  | (with_reducible refine DL.w_vaD ?_)
  | (with_reducible refine DL.w_its ?_)
  | (with_reducible refine DL.w_sum ?_)
  | (with_reducible refine DL.w_pnil ?_)
  | (with_reducible refine DL.w_pcons ?_)
  | (with_reducible refine DL.w_dic ?_)
  | (with_reducible refine DL.w_dst ?_)
  | (with_reducible refine DL.w_stL ?_)
  | (with_reducible refine DL.w_rg2 ?_)
  | ((with_reducible refine' DL.w_xf ?e ?m ?l ?q); (case e => rfl); (case m => decide +kernel); (case l => rfl))
  | ((with_reducible refine' DL.w_isx (b := true) ?e ?m ?q); (case e => rfl); (case m => decide +kernel))
  | ((with_reducible refine' DL.w_isx (b := false) ?e ?m ?q); (case e => rfl); (case m => decide +kernel))
  | ((with_reducible refine' DL.w_fldO ?e ?l ?q); (case e => rfl); (case l => rfl))
  | ((with_reducible refine' DL.w_vDkS ?e ?q); (case e => rfl))
  | ((with_reducible refine' DL.w_vDk ?e ?q); (case e => rfl))
  | ((with_reducible refine DL.w_getDk ?e ?q); (case e => exact ⟨_, rfl⟩))
  | (with_reducible refine DL.w_cpK ?_)
  | (with_reducible refine DL.w_ifK ?_)
  | (with_reducible refine DL.w_frzK ?_)
  | ((with_reducible refine DL.w_callBD ?e ?q); (case e => exact ⟨_, rfl⟩))
  | (with_reducible refine DL.w_opM ?_)
  | (with_reducible refine DL.w_neM ?_)
  | ((with_reducible refine' DL.w_bw ?e ?q); (case e => rfl); (intro r2 hr2); (simp only [List.map_cons, List.map_nil, DL.hide_sh, DL.hide_ow, DL.hide_no, List.set_cons_succ, List.set_cons_zero] at hr2); subst hr2))
local macro_rules | `(tactic| walk_at "go1gi") => `(tactic| first
  | ((with_reducible refine' DL.Gi.of (o := DL.getT _ _ _) ?e ?q); (case e => rfl))
  | ((with_reducible refine' DL.Gi.of (o := DL.D.asE _) ?e ?q); (case e => rfl))
  | (with_reducible apply DL.gi_l)
  | ((with_reducible refine' DL.Gi.of (DL.lk_sh ?e) ?q); (case e => rfl))
  | ((with_reducible refine' DL.Gi.of (DL.lk_ow ?e) ?q); (case e => rfl))
  | ((with_reducible refine' DL.Gi.of (o := DL.looks _ _) ?e ?q); (case e => walk_at "lks"))
  | (with_reducible refine DL.Gi.of (DL.semEq_str _ _) ?_)
  | (with_reducible refine DL.Gi.of (DL.semNe_str _ _) ?_)
  | (with_reducible refine DL.Gi.of (DL.semEq_int _ _) ?_)
  | (with_reducible refine DL.Gi.of (DL.semNe_int _ _) ?_)
  | (with_reducible refine DL.Gi.of (DL.semEq_bl _ _) ?_)
  | (with_reducible refine DL.Gi.of (DL.semNe_bl _ _) ?_)
  | ((with_reducible refine' DL.Gi.of (o := DL.semAt _ _) ?e ?q); (case e => rfl))
  | ((with_reducible refine DL.Gi.of (DL.semAdd_l ?h) ?q); (case h => walk_at "lenb"))
  | ((with_reducible refine DL.Gi.of (DL.semAdd_t ?h) ?q); (case h => walk_at "lenb"))
  | ((with_reducible refine DL.Gi.of (DL.semAdd_s ?h) ?q); (case h => walk_at "lenb"))
  | ((with_reducible refine' DL.Gi.of (o := DL.semAdd _ _) ?e ?q); (case e => rfl))
  | ((with_reducible refine' DL.Gi.of (o := DL.semSub _ _) ?e ?q); (case e => rfl))
  | ((with_reducible refine' DL.Gi.of (o := DL.semMod _ _) ?e ?q); (case e => rfl))
  | ((with_reducible refine' DL.Gi.of (o := DL.semFdiv _ _) ?e ?q); (case e => rfl))
  | ((with_reducible refine' DL.Gi.of (o := DL.semLt _ _) ?e ?q); (case e => rfl))
  | ((with_reducible refine' DL.Gi.of (o := DL.semLe _ _) ?e ?q); (case e => rfl))
  | ((with_reducible refine' DL.Gi.of (o := DL.semGt _ _) ?e ?q); (case e => rfl))
  | ((with_reducible refine' DL.Gi.of (o := DL.semGe _ _) ?e ?q); (case e => rfl))
  | ((with_reducible refine' DL.Gi.of (o := DL.semIs _ _) ?e ?q); (case e => rfl))
  | ((with_reducible refine' DL.Gi.of (o := DL.semIsNot _ _) ?e ?q); (case e => rfl))
  | ((with_reducible refine' DL.Gi.of (o := DL.semLen _) ?e ?q); (case e => rfl))
  | ((with_reducible refine' DL.Gi.of (o := DL.semTuple _) ?e ?q); (case e => rfl))
  | ((with_reducible refine' DL.Gi.of (o := DL.semList _) ?e ?q); (case e => rfl))
  | ((with_reducible refine' DL.Gi.of (o := DL.semInt _) ?e ?q); (case e => rfl))
  | ((with_reducible refine' DL.Gi.of (o := DL.semAbs _) ?e ?q); (case e => rfl))
  | ((with_reducible refine' DL.Gi.of (o := DL.semFld _ _ _) ?e ?q); (case e => rfl))
  | ((with_reducible refine' DL.Gi.of (o := DL.semSl _ _ _) ?e ?q); (case e => rfl))
  | ((with_reducible refine' DL.Gi.of (o := DL.D.asB _) ?e ?q); (case e => rfl))
  | ((with_reducible refine' DL.Gi.of (o := DL.D.asI _) ?e ?q); (case e => rfl))
  | ((with_reducible refine' DL.Gi.of (o := DL.D.tru _) ?e ?q); (case e => rfl))
  | ((with_reducible refine' DL.Gi.of (o := DL.D.sq _) ?e ?q); (case e => rfl))
  | ((with_reducible refine' DL.Gi.of (o := DL.D.items _) ?e ?q); (case e => rfl))
  | ((with_reducible refine' DL.Gi.of (o := DL.D.asL _) ?e ?q); (case e => rfl))
  | ((with_reducible refine' DL.Gi.of (o := DL.D.vals _) ?e ?q); (case e => rfl))
  | ((with_reducible refine' DL.Gi.of (o := DL.D.itms _) ?e ?q); (case e => rfl))
  | ((with_reducible refine' DL.Gi.of (o := DL.zip2 _ _) ?e ?q); (case e => rfl))
  | ((with_reducible refine' DL.Gi.of (o := DL.semAddL _ _) ?e ?q); (case e => rfl))
  | ((with_reducible refine' DL.Gi.of (o := DL.semListL _) ?e ?q); (case e => rfl))
  | ((with_reducible refine' DL.Gi.of (o := DL.gN _ _ _) ?e ?q); (case e => rfl))
  | ((with_reducible refine' DL.Gi.of (o := DL.gT _ _ _ _) ?e ?q); (case e => rfl))
  | ((with_reducible refine' DL.Gi.of (o := DL.extF _ _) ?e ?q); (case e => rfl))
  | ((with_reducible refine' DL.Gi.of (o := DL.popF _ _) ?e ?q); (case e => rfl))
  | ((with_reducible refine' DL.Gi.of (o := DL.semNeg _) ?e ?q); (case e => rfl))
  | ((with_reducible refine' DL.Gi.of (o := DL.D.key _) ?e ?q); (case e => rfl)))
local macro_rules | `(tactic| walk_at "go1gr") => `(tactic| first
  | (with_reducible refine DL.Th.n ?_)
  | ((with_reducible refine' ⟨_, ?e, ?q⟩); (case e => ((with_reducible show _ = some (some (DL.OV.sh (DL.D.int _)))); rfl)))
  | ((with_reducible refine' ⟨_, ?e, ?q⟩); (case e => ((with_reducible show _ = some (some (DL.OV.od _))); rfl)))
  | ((with_reducible refine' ⟨⟨_, ?e⟩, ?q⟩); (case e => ((with_reducible show _ = some (some (_ : DL.OV))); rfl)))
  | ((with_reducible refine' ⟨?e, ?q⟩); (case e => ((with_reducible show DL.D.flt _ = true); rfl)))
  | ((with_reducible refine' ⟨?e, ?q⟩); (case e => ((with_reducible show DL.OV.flt _ = true); rfl)))
  | (with_reducible refine DL.Th.t ?_)
  | (with_reducible refine DL.Th.x ?_)
  | (with_reducible refine DL.Tn.n ?_)
  | (with_reducible refine DL.Tq.n ?_)
  | (with_reducible refine DL.Tq.t ?_)
  | ((with_reducible refine DL.Hq.n ?e ?q); (case e => rfl))
  | ((with_reducible refine DL.Hq.t ?e ?q); (case e => rfl))
  | (with_reducible refine DL.Tn.t ?_)
  | (with_reducible refine DL.Gx_P ?_)
  | ((with_reducible refine' ⟨?e, ?q⟩); (case e => ((with_reducible show List.length _ = _); rfl)))
  | ((with_reducible refine' ⟨?e, ?q⟩); (case e => ((with_reducible show List.length _ + 1 = _); rfl)))
  | ((with_reducible refine' ⟨?e, ?q⟩); (case e => ((with_reducible show List.length _ ≤ _); exact Nat.le_of_ble_eq_true rfl)))
  | ((with_reducible refine' ⟨?e, ?q⟩); (case e => ((with_reducible show DL.D.isk _ = true); rfl)))
  | ((with_reducible refine' ⟨_, ?e, ?q⟩); (case e => ((with_reducible show DL.look _ _ = some (DL.D.str _)); rfl)))
  | ((with_reducible refine' ⟨_, ?e, ?q⟩); (case e => ((with_reducible show _ = some (some (DL.OV.ow _))); rfl)))
  | ((with_reducible refine' ⟨_, ?e, ?q⟩); (case e => ((with_reducible show _ = some (some (DL.OV.oi _ _))); rfl)))
  | (with_reducible refine DL.Ch.t ?_)
  | (with_reducible refine DL.Ch.f ?_)
  | (with_reducible refine DL.Ch.nt ?_)
  | (with_reducible refine DL.Ch.ty (by with_reducible assumption) ?_)
  | (with_reducible refine DL.Ch.fy (by with_reducible assumption) ?_)
  | (with_reducible refine DL.Ch.dt (by with_reducible assumption) ?_)
  | (with_reducible refine DL.Ch.df (by with_reducible assumption) ?_)
  | ((with_reducible refine' ⟨?e, ?q⟩); (case e => ((with_reducible show DL.wipeE _ _ = _); rfl)))
  | ((with_reducible refine' ⟨?e, ?q⟩); (case e => rfl); (case q => rfl))
  | (with_reducible intro r2 hr2; first | (simp only [List.set_cons_succ, List.set_cons_zero, DL.wipeE] at hr2; subst hr2) | (simp only [DL.startE, List.map_cons, List.map_nil, List.length_cons, List.length_nil, Nat.zero_add, Nat.reduceAdd, Nat.reduceSub, Nat.sub_self, List.replicate, List.cons_append, List.nil_append, List.append_nil] at hr2; subst hr2) | (simp only [DL.OV.d] at hr2; subst hr2) | subst hr2))
local macro_rules | `(tactic| walk_at "go1") => `(tactic| first
  | ((with_reducible refine DL.isWE ?_); walk_at "go1we")
  | ((with_reducible refine DL.isGi ?_); walk_at "go1gi")
  | ((with_reducible refine DL.isWS ?_); walk_at "go1ws")
  | walk_at "go1gr")

/-! printed by gen.py: the defs of the linked text, by the data layer -/
namespace T
open PySem L2 DL
def topS (i : Nat) : Stmt := PySem.Challenge.pw_scriptpicks_k11_words_known.main.body.getD i (.Pass ⟨0, 0, 0, 0⟩)
def c_HOMES : D := (D.tup [(D.str "goal"), (D.str "book")])
def c_LETTERS : D := (D.str "abcdefghijklmnopqrstuvwxyz")
def c_MOST_LETTERS : D := (D.int 8)
def c_RELATIONS : D := (D.tup [(D.str "eq"), (D.str "lt"), (D.str "gt")])
structure Fa (K : PySem.W.Frag) (w : World) (mg : Str → Option Value) (base : Heap) where
  sy : SysAt base
  v_HOMES : V
  u_HOMES : Value
  m_HOMES : mg "HOMES" = some u_HOMES
  r_HOMES : RelV v_HOMES u_HOMES
  d_HOMES : ∀ F : Hp, RD K F v_HOMES c_HOMES
  v_LETTERS : V
  u_LETTERS : Value
  m_LETTERS : mg "LETTERS" = some u_LETTERS
  r_LETTERS : RelV v_LETTERS u_LETTERS
  d_LETTERS : ∀ F : Hp, RD K F v_LETTERS c_LETTERS
  v_MOST_LETTERS : V
  u_MOST_LETTERS : Value
  m_MOST_LETTERS : mg "MOST_LETTERS" = some u_MOST_LETTERS
  r_MOST_LETTERS : RelV v_MOST_LETTERS u_MOST_LETTERS
  d_MOST_LETTERS : ∀ F : Hp, RD K F v_MOST_LETTERS c_MOST_LETTERS
  v_RELATIONS : V
  u_RELATIONS : Value
  m_RELATIONS : mg "RELATIONS" = some u_RELATIONS
  r_RELATIONS : RelV v_RELATIONS u_RELATIONS
  d_RELATIONS : ∀ F : Hp, RD K F v_RELATIONS c_RELATIONS
  b_abs : mg "abs" = none
  b_all : mg "all" = none
  b_bool : mg "bool" = none
  b_int : mg "int" = none
  b_isinstance : mg "isinstance" = none
  b_len : mg "len" = none
  b_list : mg "list" = none
  b_range : mg "range" = none
  b_repr : mg "repr" = none
  b_set : mg "set" = none
  b_sorted : mg "sorted" = none
  b_str : mg "str" = none
  b_sum : mg "sum" = none
section
variable {P : Program} {w : World} {K : PySem.W.Frag} {mg : Str → Option Value} {base : Heap}
abbrev s__law_bag : Stmt := topS 11
abbrev s__law_bag_sc : Scope := defScope s__law_bag
abbrev n__law_bag : List Str := ["_law_script", "_law_cell"]
theorem sc__law_bag : FnScope n__law_bag ["_law_script"] (defScope s__law_bag) := ⟨rfl, rfl, rfl, by decide +kernel, rfl, by decide +kernel, by decide +kernel⟩
abbrev it__law_bag_1 : En → Rs (List D) := (itA (slD (.va 0) poN (poS (cD (.int 63))) semSl))
abbrev el__law_bag_1 : En → Rs D := (opN [(.va 1)] semAbs)
abbrev lc__law_bag_1 : En → Rs OV := lcD it__law_bag_1 [1] (gN 1) yesT el__law_bag_1
def m__law_bag : En → SRs :=
    (rtS (lstD [(cD (.int 0)), (cD (.int 1234567891)), (cD (.int 0)), (frzD lc__law_bag_1)]))
def f__law_bag : List D → Option OV := fnP 2 m__law_bag
theorem ok__law_bag {f : Addr} {fd : FuncData} (fa : Fa K w mg base)  (F : Fun K "_law_bag" "_law_bag" s__law_bag f fd) : FnG P w K mg base CX0 1 f fd ["_law_script"] (spP K 1 f__law_bag) := by
  have nd := sc__law_bag.nd
  unfold f__law_bag
  refine fnP_ok (k := 0) (m := m__law_bag) F sc__law_bag rfl rfl fun cdv A outer s H E g hgd hr hB0 hW hWn hxc => ?_
  have hB := nb00 hB0
  unfold m__law_bag
  exact (ds_one (ds_ret (do_lst (da_cons de_int (da_cons de_int (da_cons de_int (da_cons (DO.fz (do_lc (own := [("_law_cell", 1)]) (ks := [1]) rfl nd (di_any (de_slice (db_var 0 (pv 0)) dpo_none (dpo_some de_int))) (blkOk_by (N := n__law_bag) (sc := s__law_bag_sc) (by decide +kernel)) rfl (nbs hB (by decide)) (by decide) (fun _ _ _ _ _ g1 e1 => (dg_name (i := 1) (nb (nbt e1 hB) 1 (by decide)) nd)) (fun _ _ _ _ _ g1 e1 => pts_nilD) (fun _ _ _ _ _ g1 e1 => (de_callB cd_abs fa.b_abs (dbs_cons (db_var 1 (pv 1)) dbs_nil))))) da_nil)))))))
theorem has__law_bag (fa : Fa K w mg base)  (F : FnAt K mg "_law_bag" s__law_bag) : HasP P w K mg base 1 "_law_bag" 1 f__law_bag := by
  obtain ⟨f, fd, F, hm⟩ := F
  exact ⟨f, fd, ["_law_script"], ok__law_bag fa  F, hm, F.kp, F.binds fun _ _ _ _ _ _ us hl => match us, hl with | [_], _ => rfl⟩
abbrev s__law_take : Stmt := topS 12
abbrev n__law_take : List Str := ["_law_bag_here", "_law_many", "_law_cell", "_law_mixed", "_law_value", "_law_begin", "_law_second"]
theorem sc__law_take : FnScope n__law_take ["_law_bag_here", "_law_many"] (defScope s__law_take) := ⟨rfl, rfl, rfl, by decide +kernel, rfl, by decide +kernel, by decide +kernel⟩
def m__law_take : En → SRs :=
    (seqS (ifS (toB (op2 (.ex (op2 (.va 0) (.ex (cD (.int 0))) semAt)) (.ex (cD (.int 0))) semEq)) (seqS (setS 2 (shD (op2 (.ex (op2 (.ex (slD (.ex (op2 (.va 0) (.ex (cD (.int 3))) semAt)) (poS (op2 (.va 0) (.ex (cD (.int 2))) semAt)) poN semSl)) (.ex (frzD (lstD [(cD (.int 0))]))) semAdd)) (.ex (cD (.int 0))) semAt)))
    (seqS (augS 0 2 1)
    (seqS (ifS (toB (op2 (.va 2) (.ex (cD (.int 1000000000000000000))) semGe)) (putS 0 (cD (.int 0)) (vD 2)) nxS)
    (seqS (setS 3 (shD (op2 (.ex (op2 (.ex (op2 (.ex (op2 (.va 0) (.ex (cD (.int 1))) semAt)) (.ex (cD (.int 48271))) semMul)) (.ex (op2 (.ex (opN [(.va 2)] semInt)) (.ex (cD (.int 2147483647))) semMod)) semAdd)) (.ex (op2 (.ex (cD (.int 7919))) (.ex (op2 (.va 0) (.ex (cD (.int 2))) semAt)) semMul)) semAdd)))
    (putS 0 (cD (.int 1)) (op2 (.ex (opN [(.va 3)] semInt)) (.ex (cD (.int 2147483647))) semMod)))))) nxS)
    (seqS (ifS (toB (op2 (.ex (op2 (.va 0) (.ex (cD (.int 0))) semAt)) (.ex (cD (.int 0))) semGt)) (seqS (setS 4 (shD (op2 (.ex (opN [(.ex (op2 (.va 0) (.ex (cD (.int 0))) semAt))] semInt)) (.va 1) semMod)))
    (seqS (putS 0 (cD (.int 0)) (op2 (.ex (op2 (.va 0) (.ex (cD (.int 0))) semAt)) (.va 1) semFdiv))
    (rtS (mvD 4)))) nxS)
    (seqS (setS 5 (shD (op2 (.ex (opN [(.ex (op2 (.ex (op2 (.ex (op2 (.va 0) (.ex (cD (.int 1))) semAt)) (.ex (cD (.int 1))) semAdd)) (.ex (cD (.int 39373))) semMul))] semInt)) (.ex (cD (.int 1000000007))) semMod)))
    (seqS (setS 6 (shD (op2 (.ex (opN [(.ex (op2 (.ex (op2 (.ex (opN [(.ex (op2 (.va 5) (.va 5) semMul))] semInt)) (.ex (cD (.int 998244353))) semMod)) (.ex (cD (.int 30011))) semMul))] semInt)) (.ex (cD (.int 998244353))) semMod)))
    (rtS (shD (op2 (.ex (opN [(.ex (op2 (.va 6) (.ex (cD (.int 7))) semFdiv))] semInt)) (.va 1) semMod)))))))
def f__law_take : List D → List D → Option (OV × List D) := fnB 7 m__law_take
theorem ok__law_take {f : Addr} {fd : FuncData} (fa : Fa K w mg base)  (F : Fun K "_law_take" "_law_take" s__law_take f fd) : FnG P w K mg base CX0 1 f fd ["_law_bag_here", "_law_many"] (spB K 1 f__law_take) := by
  have nd := sc__law_take.nd
  unfold f__law_take
  refine fnB_ok (k := 0) (m := m__law_take) F sc__law_take rfl rfl fun cdv A outer s H E g hgd hr hB hW hWn hxc => ?_
  unfold m__law_take
  exact (ds_cons (ds_if (dt_cmp (opd_eq hr.units) (DE.opd (de_ix (ixAt (u65 hr)) (db_var 0 (pv 0)) (DE.opd de_int) (fun _ _ => rfl))) (DE.opd de_int) (nomark _)) (ds_cons (ds_set (i := 2) (nb hB 2 (by decide)) nd (DE.shd (de_ix (ixAt (u65 hr)) (DE.opd (de_op opd_add (DE.opd (de_slice (DE.opd (de_ix (ixAt (u65 hr)) (db_var 0 (pv 0)) (DE.opd de_int) (fun _ _ => rfl))) (dpo_some (de_ix (ixAt (u65 hr)) (db_var 0 (pv 0)) (DE.opd de_int) (fun _ _ => rfl))) dpo_none)) (DE.opd (DO.fz (do_lst (da_cons de_int da_nil)))))) (DE.opd de_int) (fun _ _ => rfl))))
    (ds_cons (ds_augI (i := 0) (pv 0))
    (ds_cons (ds_if (dt_cmp opd_ge (db_var 2 (pv 2)) (DE.opd de_int) (nomark _)) (ds_one (ds_put (i := 0) (pv 0) de_int (de_var 2 (nb hB 2 (by decide)) (pv 2)))) ds_nil)
    (ds_cons (ds_set (i := 3) (nb hB 3 (by decide)) nd (DE.shd (de_op opd_add (DE.opd (de_op opd_add (DE.opd (de_op opd_mul (DE.opd (de_ix (ixAt (u65 hr)) (db_var 0 (pv 0)) (DE.opd de_int) (fun _ _ => rfl))) (DE.opd de_int))) (DE.opd (de_op opd_mod (DE.opd (de_callT cd_int fa.b_int (dbs_cons (db_var 2 (pv 2)) dbs_nil))) (DE.opd de_int))))) (DE.opd (de_op opd_mul (DE.opd de_int) (DE.opd (de_ix (ixAt (u65 hr)) (db_var 0 (pv 0)) (DE.opd de_int) (fun _ _ => rfl))))))))
    (ds_one (ds_put (i := 0) (pv 0) de_int (de_op opd_mod (DE.opd (de_callT cd_int fa.b_int (dbs_cons (db_var 3 (pv 3)) dbs_nil))) (DE.opd de_int)))))))) ds_nil)
    (ds_cons (ds_if (dt_cmp opd_gt (DE.opd (de_ix (ixAt (u65 hr)) (db_var 0 (pv 0)) (DE.opd de_int) (fun _ _ => rfl))) (DE.opd de_int) (nomark _)) (ds_cons (ds_set (i := 4) (nb hB 4 (by decide)) nd (DE.shd (de_op opd_mod (DE.opd (de_callT cd_int fa.b_int (dbs_cons (DE.opd (de_ix (ixAt (u65 hr)) (db_var 0 (pv 0)) (DE.opd de_int) (fun _ _ => rfl))) dbs_nil))) (db_var 1 (pv 1)))))
    (ds_cons (ds_put (i := 0) (pv 0) de_int (de_op opd_fdiv (DE.opd (de_ix (ixAt (u65 hr)) (db_var 0 (pv 0)) (DE.opd de_int) (fun _ _ => rfl))) (db_var 1 (pv 1))))
    (ds_one (ds_ret (do_var 4 (nb hB 4 (by decide)) (pv 4)))))) ds_nil)
    (ds_cons (ds_set (i := 5) (nb hB 5 (by decide)) nd (DE.shd (de_op opd_mod (DE.opd (de_callT cd_int fa.b_int (dbs_cons (DE.opd (de_op opd_mul (DE.opd (de_op opd_add (DE.opd (de_ix (ixAt (u65 hr)) (db_var 0 (pv 0)) (DE.opd de_int) (fun _ _ => rfl))) (DE.opd de_int))) (DE.opd de_int))) dbs_nil))) (DE.opd de_int))))
    (ds_cons (ds_set (i := 6) (nb hB 6 (by decide)) nd (DE.shd (de_op opd_mod (DE.opd (de_callT cd_int fa.b_int (dbs_cons (DE.opd (de_op opd_mul (DE.opd (de_op opd_mod (DE.opd (de_callT cd_int fa.b_int (dbs_cons (DE.opd (de_op opd_mul (db_var 5 (pv 5)) (db_var 5 (pv 5)))) dbs_nil))) (DE.opd de_int))) (DE.opd de_int))) dbs_nil))) (DE.opd de_int))))
    (ds_one (ds_ret (DE.shd (de_op opd_mod (DE.opd (de_callT cd_int fa.b_int (dbs_cons (DE.opd (de_op opd_fdiv (db_var 6 (pv 6)) (DE.opd de_int))) dbs_nil))) (db_var 1 (pv 1))))))))))
theorem has__law_take (fa : Fa K w mg base)  (F : FnAt K mg "_law_take" s__law_take) : HasB P w K mg base 1 "_law_take" 1 f__law_take := by
  obtain ⟨f, fd, F, hm⟩ := F
  exact ⟨f, fd, ["_law_bag_here", "_law_many"], ok__law_take fa  F, hm, F.kp, F.binds fun _ _ _ _ _ _ us hl => match us, hl with | [_, _], _ => rfl⟩
abbrev s__law_some : Stmt := topS 14
abbrev n__law_some : List Str := ["_law_bag_here", "_law_things"]
theorem sc__law_some : FnScope n__law_some ["_law_bag_here", "_law_things"] (defScope s__law_some) := ⟨rfl, rfl, rfl, by decide +kernel, rfl, by decide +kernel, by decide +kernel⟩
def m__law_some : En → SRs :=
    (rtS (shD (op2 (.va 1) (.ex (frzD (callB 1 f__law_take 0 [(opN [(.va 1)] semLen)]))) semAt)))
def f__law_some : List D → List D → Option (OV × List D) := fnB 2 m__law_some
theorem ok__law_some {f : Addr} {fd : FuncData} (fa : Fa K w mg base) (h__law_take : HasB P w K mg base 1 "_law_take" 1 f__law_take) (F : Fun K "_law_some" "_law_some" s__law_some f fd) : FnG P w K mg base CX0 2 f fd ["_law_bag_here", "_law_things"] (spB K 1 f__law_some) := by
  have nd := sc__law_some.nd
  unfold f__law_some
  refine fnB_ok (k := 1) (m := m__law_some) F sc__law_some rfl rfl fun cdv A outer s H E g hgd hr hB hW hWn hxc => ?_
  unfold m__law_some
  exact (ds_one (ds_ret (DE.shd (de_ix (ixAt (u65 hr)) (db_var 1 (pv 1)) (DE.opd (DO.fz (do_callB h__law_take hgd (hr.mono (by decide)) (pv 0) (da_cons (de_callB cd_len fa.b_len (dbs_cons (db_var 1 (pv 1)) dbs_nil)) da_nil)))) (fun _ _ => rfl)))))
theorem has__law_some (fa : Fa K w mg base) (h__law_take : HasB P w K mg base 1 "_law_take" 1 f__law_take) (F : FnAt K mg "_law_some" s__law_some) : HasB P w K mg base 2 "_law_some" 1 f__law_some := by
  obtain ⟨f, fd, F, hm⟩ := F
  exact ⟨f, fd, ["_law_bag_here", "_law_things"], ok__law_some fa h__law_take F, hm, F.kp, F.binds fun _ _ _ _ _ _ us hl => match us, hl with | [_, _], _ => rfl⟩
abbrev s__law_names : Stmt := topS 15
abbrev s__law_names_sc : Scope := defScope s__law_names
abbrev n__law_names : List Str := ["_law_bag_here", "_law_many", "_law_letters", "_law_found", "_law_words", "_law_k", "_law_signs", "_law_spin", "_law_at", "_law_rest", "_law_some_here", "_law_one"]
theorem sc__law_names : FnScope n__law_names ["_law_bag_here", "_law_many"] (defScope s__law_names) := ⟨rfl, rfl, rfl, by decide +kernel, rfl, by decide +kernel, by decide +kernel⟩
abbrev it__law_names_1 : En → Rs (List D) := (rg1 (op2 (.ex (frzD (lstD [(cD (.int 1)), (cD (.int 2)), (cD (.int 8)), (cD (.int 4))]))) (.ex (frzD (callB 1 f__law_take 0 [(cD (.int 4))]))) semAt))
abbrev el__law_names_1 : En → Rs D := (op2 (.va 2) (.ex (frzD (callB 1 f__law_take 0 [(cD (.int 26))]))) semAt)
abbrev lc__law_names_1 : En → Rs OV := lcD it__law_names_1 [7] (gN 7) yesT el__law_names_1
abbrev it__law_names_2 : En → Rs (List D) := (itA (op2 (.ex (slD (.va 2) (poS (vD 8)) poN semSl)) (.ex (slD (.va 2) poN (poS (vD 8)) semSl)) semAdd))
abbrev el__law_names_2 : En → Rs D := (op2 (.va 11) (.va 9) semAdd)
abbrev lc__law_names_2 : En → Rs OV := lcD it__law_names_2 [11] (gN 11) yesT el__law_names_2
abbrev it__law_names_3 : En → Rs (List D) := (itA (vD 10))
abbrev ts__law_names_1 : En → Rs Bool := (toB (op2 (.va 11) (.va 3) semNotIn2))
abbrev el__law_names_3 : En → Rs D := (vD 11)
abbrev lc__law_names_3 : En → Rs OV := lcD it__law_names_3 [11] (gN 11) ts__law_names_1 el__law_names_3
abbrev it__law_names_4 : En → Rs (List D) := (rg1 (vD 1))
abbrev bd__law_names_1 : En → SRs := (seqS (setS 6 (shD (frzD lc__law_names_1)))
    (seqS (par2 8 9 (m1D (.va 2) (.ex (op2 (.va 6) (.ex (cD (.int 0))) semAt)) semSIndex) (shD (m1D (.ex (cD (.str ""))) (.ex (slD (.va 6) (poS (cD (.int 1))) poN semSl)) semJoin)))
    (seqS (setS 10 (shD (op2 (.ex (op2 (.ex (slD (.va 4) (poS (vD 8)) poN semSl)) (.ex (opN [(.ex (op2 (.ex (frzD (callB 1 f__law_take 0 [(cD (.int 8))]))) (.ex (cD (.int 0))) semEq))] semInt)) semMul)) (.ex (frzD lc__law_names_2)) semAdd)))
    (appS 3 (op2 (.ex (frzD lc__law_names_3)) (.ex (cD (.int 0))) semAt)))))
abbrev fr__law_names_1 : En → SRs := forD it__law_names_4 (gN 5) bd__law_names_1
def m__law_names : En → SRs :=
    (seqS (par2 2 3 (cD (.str "abcdefghijklmnopqrstuvwxyz")) (lstD []))
    (seqS (setS 4 (shD (m1D (.ex (cD (.str "at as last like all name book goal with turn part drop call copy chain close eq lt gt put"))) (.ex (cD (.str " "))) semSplit)))
    (seqS fr__law_names_1
    (rtS (mvD 3)))))
def f__law_names : List D → List D → Option (OV × List D) := fnB 12 m__law_names
theorem ok__law_names {f : Addr} {fd : FuncData} (fa : Fa K w mg base) (h__law_take : HasB P w K mg base 1 "_law_take" 1 f__law_take) (F : Fun K "_law_names" "_law_names" s__law_names f fd) : FnG P w K mg base CX0 2 f fd ["_law_bag_here", "_law_many"] (spB K 1 f__law_names) := by
  have nd := sc__law_names.nd
  unfold f__law_names
  refine fnB_ok (k := 1) (m := m__law_names) F sc__law_names rfl rfl fun cdv A outer s H E g hgd hr hB hW hWn hxc => ?_
  unfold m__law_names
  exact (ds_cons (ds_tup2 (i := 2) (j := 3) (nb hB 2 (by decide)) (nb hB 3 (by decide)) nd rfl  de_str (do_lst da_nil))
    (ds_cons (ds_set (i := 4) (nb hB 4 (by decide)) nd (DE.shd (de_m1 PySem.F.slot_str_split PySem.F.type_str_split md_split (DE.opd de_str) (DE.opd de_str))))
    (ds_cons (ds_for PassesOwn.never rfl (di_range1 rfl fa.b_range (de_var 1 (nb hB 1 (by decide)) (pv 1))) (dg_name (i := 5) (nb hB 5 (by decide)) nd) (ds_cons (ds_fz (nb hB 6 (by decide)) lc_nod (ds_setLc (i := 6) (nb hB 6 (by decide)) (own := [("_law_spin", 7)]) (ks := [7]) rfl nd (di_range1 rfl fa.b_range (de_ix (ixAt (u65 hr)) (DE.opd (DO.fz (do_lst (da_cons de_int (da_cons de_int (da_cons de_int (da_cons de_int da_nil))))))) (DE.opd (DO.fz (do_callB h__law_take hgd (hr.mono (by decide)) (pv 0) (da_cons de_int da_nil)))) (fun _ _ => rfl))) (blkOk_by (N := n__law_names) (sc := s__law_names_sc) (by decide +kernel)) rfl (nbs hB (by decide)) (by decide) (fun _ _ _ _ _ g1 e1 => (dg_name (i := 7) (nb (nbt e1 hB) 7 (by decide)) nd)) (fun _ _ _ _ _ g1 e1 => pts_nilD) (fun _ _ _ _ _ g1 e1 => (de_ix (ixAt (u65 hr)) (db_var 2 (pv 2)) (DE.opd (DO.fz (do_callB h__law_take hgd (hr.mono (by decide)) (pv 0) (da_cons de_int da_nil)))) (fun _ _ => rfl))) (sw_true rfl rfl rfl (by decide +kernel))))
    (ds_cons (ds_tup2 (i := 8) (j := 9) (nb hB 8 (by decide)) (nb hB 9 (by decide)) nd rfl  (de_m1 PySem.F.slot_str_index PySem.F.type_str_index md_sindex (db_var 2 (pv 2)) (DE.opd (de_ix (ixAt (u65 hr)) (db_var 6 (pv 6)) (DE.opd de_int) (fun _ _ => rfl)))) (DE.shd (de_m1 PySem.F.slot_str_join PySem.F.type_str_join md_join (DE.opd de_str) (DE.opd (de_slice (db_var 6 (pv 6)) (dpo_some de_int) dpo_none)))))
    (ds_cons (ds_set (i := 10) (nb hB 10 (by decide)) nd (DE.shd (de_op opd_add (DE.opd (de_op opd_mul (DE.opd (de_slice (db_var 4 (pv 4)) (dpo_some (de_var 8 (nb hB 8 (by decide)) (pv 8))) dpo_none)) (DE.opd (de_callT cd_int fa.b_int (dbs_cons (DE.opd (de_cmp (opd_eq hr.units) (DE.opd (DO.fz (do_callB h__law_take hgd (hr.mono (by decide)) (pv 0) (da_cons de_int da_nil)))) (DE.opd de_int) (nomark _))) dbs_nil))))) (DE.opd (DO.fz (do_lc (own := [("_law_one", 11)]) (ks := [11]) rfl nd (di_any (de_op opd_add (DE.opd (de_slice (db_var 2 (pv 2)) (dpo_some (de_var 8 (nb hB 8 (by decide)) (pv 8))) dpo_none)) (DE.opd (de_slice (db_var 2 (pv 2)) dpo_none (dpo_some (de_var 8 (nb hB 8 (by decide)) (pv 8))))))) (blkOk_by (N := n__law_names) (sc := s__law_names_sc) (by decide +kernel)) rfl (nbs hB (by decide)) (by decide) (fun _ _ _ _ _ g1 e1 => (dg_name (i := 11) (nb (nbt e1 hB) 11 (by decide)) nd)) (fun _ _ _ _ _ g1 e1 => pts_nilD) (fun _ _ _ _ _ g1 e1 => (de_op opd_add (db_var 11 (pv 11)) (db_var 9 (pv 9))))))))))
    (ds_one (ds_append (i := 3) (pv 3) (de_ix (ixAt (u65 hr)) (DE.opd (DO.fz (do_lc (own := [("_law_one", 11)]) (ks := [11]) rfl nd (di_any (de_var 10 (nb hB 10 (by decide)) (pv 10))) (blkOk_by (N := n__law_names) (sc := s__law_names_sc) (by decide +kernel)) rfl (nbs hB (by decide)) (by decide) (fun _ _ _ _ _ g1 e1 => (dg_name (i := 11) (nb (nbt e1 hB) 11 (by decide)) nd)) (fun _ _ _ _ _ g1 e1 => (pts_oneD (dt_cmp (opd_notIn2 (u65 hr)) (db_var 11 (pv 11)) (db_var 3 (pv 3)) rfl))) (fun _ _ _ _ _ g1 e1 => (de_var 11 (nb (nbt e1 hB) 11 (by decide)) (pv 11)))))) (DE.opd de_int) (fun _ _ => rfl))))))))
    (ds_one (ds_ret (do_var 3 (nb hB 3 (by decide)) (pv 3)))))))
theorem has__law_names (fa : Fa K w mg base) (h__law_take : HasB P w K mg base 1 "_law_take" 1 f__law_take) (F : FnAt K mg "_law_names" s__law_names) : HasB P w K mg base 2 "_law_names" 1 f__law_names := by
  obtain ⟨f, fd, F, hm⟩ := F
  exact ⟨f, fd, ["_law_bag_here", "_law_many"], ok__law_names fa h__law_take F, hm, F.kp, F.binds fun _ _ _ _ _ _ us hl => match us, hl with | [_, _], _ => rfl⟩
abbrev s__law_listed : Stmt := topS 20
abbrev s__law_listed_sc : Scope := defScope s__law_listed
abbrev n__law_listed : List Str := ["_law_bag_here", "_law_found", "_law_letters", "_law_manner", "_law_letter", "_law_some_here", "_law_one", "_law_name"]
theorem sc__law_listed : FnScope n__law_listed ["_law_bag_here"] (defScope s__law_listed) := ⟨rfl, rfl, rfl, by decide +kernel, rfl, by decide +kernel, by decide +kernel⟩
abbrev it__law_listed_1 : En → Rs (List D) := (itA (vD 2))
abbrev el__law_listed_1 : En → Rs D := (op2 (.ex (cD (.str "a"))) (.va 4) semAdd)
abbrev lc__law_listed_1 : En → Rs OV := lcD it__law_listed_1 [4] (gN 4) yesT el__law_listed_1
abbrev it__law_listed_2 : En → Rs (List D) := (itA (vD 2))
abbrev el__law_listed_2 : En → Rs D := (op2 (.va 6) (.va 4) semAdd)
abbrev lc__law_listed_2 : En → Rs OV := lcD it__law_listed_2 [4] (gN 4) yesT el__law_listed_2
abbrev it__law_listed_3 : En → Rs (List D) := (itA (vD 2))
abbrev el__law_listed_3 : En → Rs D := (frzD lc__law_listed_2)
abbrev lc__law_listed_3 : En → Rs OV := lcD it__law_listed_3 [6] (gN 6) yesT el__law_listed_3
abbrev it__law_listed_4 : En → Rs (List D) := (itA (vD 2))
abbrev el__law_listed_4 : En → Rs D := (op2 (.ex (cD (.str "aa"))) (.va 4) semAdd)
abbrev lc__law_listed_4 : En → Rs OV := lcD it__law_listed_4 [4] (gN 4) yesT el__law_listed_4
abbrev it__law_listed_5 : En → Rs (List D) := (itA (vD 5))
abbrev ts__law_listed_1 : En → Rs Bool := (toB (op2 (.va 7) (.ex (op2 (.va 5) (.ex (op2 (.ex (op1 (.ex (cD (.int 1))) semNeg)) (.ex (frzD (callB 1 f__law_take 0 [(cD (.int 90))]))) semSub)) semAt)) semNe))
abbrev el__law_listed_5 : En → Rs D := (vD 7)
abbrev lc__law_listed_5 : En → Rs OV := lcD it__law_listed_5 [7] (gN 7) ts__law_listed_1 el__law_listed_5
def m__law_listed : En → SRs :=
    (seqS (setS 1 (shD (frzD (callB 1 f__law_names 0 [(frzD (callB 1 f__law_take 0 [(cD (.int 12))]))]))))
    (seqS (setS 2 (shD (frzD (opNO [(.ex (cD (.str "abcdefghijklmnopqrstuvwxyz")))] semListS))))
    (seqS (setS 3 (shD (frzD (callB 1 f__law_take 0 [(cD (.int 4))]))))
    (seqS (ifS (toB (op2 (.va 3) (.ex (cD (.int 1))) semEq)) (setS 1 (shD (op2 (.va 1) (.ex (slD (.ex (op2 (.va 2) (.ex (frzD lc__law_listed_1)) semAdd)) poN (poS (frzD (callB 1 f__law_take 0 [(cD (.int 40))]))) semSl)) semAdd))) nxS)
    (seqS (ifS (toB (op2 (.va 3) (.ex (cD (.int 2))) semEq)) (seqS (setS 5 (shD (op2 (.va 2) (.ex (frzD (sumO (.ex (frzD lc__law_listed_3))))) semAdd)))
    (seqS (setS 5 (shD (slD (.ex (op2 (.va 5) (.ex (frzD lc__law_listed_4)) semAdd)) poN (poS (op2 (.ex (frzD (lstD [(cD (.int 702)), (cD (.int 715)), (cD (.int 728)), (cD (.int 400))]))) (.ex (frzD (callB 1 f__law_take 0 [(cD (.int 4))]))) semAt)) semSl)))
    (setS 1 (shD (op2 (.va 1) (.ex (frzD lc__law_listed_5)) semAdd))))) nxS)
    (rtS (shD (op2 (.va 1) (.ex (slD (.ex (frzD (lstD [(cD (.str "")), (cD (.str "A")), (cD (.str "a b"))]))) poN (poS (frzD (callB 1 f__law_take 0 [(cD (.int 4))]))) semSl)) semAdd))))))))
def f__law_listed : List D → List D → Option (OV × List D) := fnB 8 m__law_listed
theorem ok__law_listed {f : Addr} {fd : FuncData} (fa : Fa K w mg base) (h__law_names : HasB P w K mg base 2 "_law_names" 1 f__law_names) (h__law_take : HasB P w K mg base 1 "_law_take" 1 f__law_take) (F : Fun K "_law_listed" "_law_listed" s__law_listed f fd) : FnG P w K mg base CX0 3 f fd ["_law_bag_here"] (spB K 0 f__law_listed) := by
  have nd := sc__law_listed.nd
  unfold f__law_listed
  refine fnB_ok (k := 2) (m := m__law_listed) F sc__law_listed rfl rfl fun cdv A outer s H E g hgd hr hB hW hWn hxc => ?_
  unfold m__law_listed
  exact (ds_cons (ds_set (i := 1) (nb hB 1 (by decide)) nd (DE.shd (DO.fz (do_callB h__law_names hgd (hr.mono (by decide)) (pv 0) (da_cons (DO.fz (do_callB h__law_take hgd (hr.mono (by decide)) (pv 0) (da_cons de_int da_nil))) da_nil)))))
    (ds_cons (ds_set (i := 2) (nb hB 2 (by decide)) nd (DE.shd (DO.fz (do_callT (co_listS rfl) fa.b_list (dbs_cons (DE.opd de_str) dbs_nil)))))
    (ds_cons (ds_set (i := 3) (nb hB 3 (by decide)) nd (DE.shd (DO.fz (do_callB h__law_take hgd (hr.mono (by decide)) (pv 0) (da_cons de_int da_nil)))))
    (ds_cons (ds_if (dt_cmp (opd_eq hr.units) (db_var 3 (pv 3)) (DE.opd de_int) (nomark _)) (ds_one (ds_set (i := 1) (nb hB 1 (by decide)) nd (DE.shd (de_op opd_add (db_var 1 (pv 1)) (DE.opd (de_slice (DE.opd (de_op opd_add (db_var 2 (pv 2)) (DE.opd (DO.fz (do_lc (own := [("_law_letter", 4)]) (ks := [4]) rfl nd (di_any (de_var 2 (nb hB 2 (by decide)) (pv 2))) (blkOk_by (N := n__law_listed) (sc := s__law_listed_sc) (by decide +kernel)) rfl (nbs hB (by decide)) (by decide) (fun _ _ _ _ _ g1 e1 => (dg_name (i := 4) (nb (nbt e1 hB) 4 (by decide)) nd)) (fun _ _ _ _ _ g1 e1 => pts_nilD) (fun _ _ _ _ _ g1 e1 => (de_op opd_add (DE.opd de_str) (db_var 4 (pv 4))))))))) dpo_none (dpo_some (DO.fz (do_callB h__law_take hgd (hr.mono (by decide)) (pv 0) (da_cons de_int da_nil)))))))))) ds_nil)
    (ds_cons (ds_if (dt_cmp (opd_eq hr.units) (db_var 3 (pv 3)) (DE.opd de_int) (nomark _)) (ds_cons (ds_set (i := 5) (nb hB 5 (by decide)) nd (DE.shd (de_op opd_add (db_var 2 (pv 2)) (DE.opd (DO.fz (do_sumL rfl fa.b_sum (DE.opd (DO.fz (do_lc (own := [("_law_one", 6)]) (ks := [6]) rfl nd (di_any (de_var 2 (nb hB 2 (by decide)) (pv 2))) (blkOk_by (N := n__law_listed) (sc := s__law_listed_sc) (by decide +kernel)) rfl (nbs hB (by decide)) (by decide) (fun _ _ _ _ _ g1 e1 => (dg_name (i := 6) (nb (nbt e1 hB) 6 (by decide)) nd)) (fun _ _ _ _ _ g1 e1 => pts_nilD) (fun _ _ _ _ _ g1 e1 => (DO.fz (do_lc (own := [("_law_letter", 4)]) (ks := [4]) rfl nd (di_any (de_var 2 (nb (nbt e1 hB) 2 (by decide)) (pv 2))) (blkOk_by (N := n__law_listed) (sc := ({ kind := PySem.ScopeKind.function, names := [ (PySem.Str.ofString ".0", PySem.NameKind.local), (PySem.Str.ofString "_law_one", PySem.NameKind.cell), (PySem.Str.ofString "_law_letters", PySem.NameKind.cell)], isGenerator := false, isCoroutine := false, more := [] : PySem.Scope })) (by decide +kernel)) rfl (nbs (nbt e1 hB) (by decide)) (by decide) (fun _ _ _ _ _ g2 e2 => (dg_name (i := 4) (nb (nbt e2 (nbt e1 hB)) 4 (by decide)) nd)) (fun _ _ _ _ _ g2 e2 => pts_nilD) (fun _ _ _ _ _ g2 e2 => (de_op opd_add (db_var 6 (pv 6)) (db_var 4 (pv 4))))))))))))))))
    (ds_cons (ds_set (i := 5) (nb hB 5 (by decide)) nd (DE.shd (de_slice (DE.opd (de_op opd_add (db_var 5 (pv 5)) (DE.opd (DO.fz (do_lc (own := [("_law_letter", 4)]) (ks := [4]) rfl nd (di_any (de_var 2 (nb hB 2 (by decide)) (pv 2))) (blkOk_by (N := n__law_listed) (sc := s__law_listed_sc) (by decide +kernel)) rfl (nbs hB (by decide)) (by decide) (fun _ _ _ _ _ g1 e1 => (dg_name (i := 4) (nb (nbt e1 hB) 4 (by decide)) nd)) (fun _ _ _ _ _ g1 e1 => pts_nilD) (fun _ _ _ _ _ g1 e1 => (de_op opd_add (DE.opd de_str) (db_var 4 (pv 4))))))))) dpo_none (dpo_some (de_ix (ixAt (u65 hr)) (DE.opd (DO.fz (do_lst (da_cons de_int (da_cons de_int (da_cons de_int (da_cons de_int da_nil))))))) (DE.opd (DO.fz (do_callB h__law_take hgd (hr.mono (by decide)) (pv 0) (da_cons de_int da_nil)))) (fun _ _ => rfl))))))
    (ds_one (ds_set (i := 1) (nb hB 1 (by decide)) nd (DE.shd (de_op opd_add (db_var 1 (pv 1)) (DE.opd (DO.fz (do_lc (own := [("_law_name", 7)]) (ks := [7]) rfl nd (di_any (de_var 5 (nb hB 5 (by decide)) (pv 5))) (blkOk_by (N := n__law_listed) (sc := s__law_listed_sc) (by decide +kernel)) rfl (nbs hB (by decide)) (by decide) (fun _ _ _ _ _ g1 e1 => (dg_name (i := 7) (nb (nbt e1 hB) 7 (by decide)) nd)) (fun _ _ _ _ _ g1 e1 => (pts_oneD (dt_cmp (opd_ne hr.units) (db_var 7 (pv 7)) (DE.opd (de_ix (ixAt (u65 hr)) (db_var 5 (pv 5)) (DE.opd (de_op opd_sub (DE.opd (de_un und_neg (DE.opd de_int))) (DE.opd (DO.fz (do_callB h__law_take hgd (hr.mono (by decide)) (pv 0) (da_cons de_int da_nil)))))) (fun _ _ => rfl))) (nomark _)))) (fun _ _ _ _ _ g1 e1 => (de_var 7 (nb (nbt e1 hB) 7 (by decide)) (pv 7)))))))))))) ds_nil)
    (ds_one (ds_ret (DE.shd (de_op opd_add (db_var 1 (pv 1)) (DE.opd (de_slice (DE.opd (DO.fz (do_lst (da_cons de_str (da_cons de_str (da_cons de_str da_nil)))))) dpo_none (dpo_some (DO.fz (do_callB h__law_take hgd (hr.mono (by decide)) (pv 0) (da_cons de_int da_nil)))))))))))))))
theorem has__law_listed (fa : Fa K w mg base) (h__law_names : HasB P w K mg base 2 "_law_names" 1 f__law_names) (h__law_take : HasB P w K mg base 1 "_law_take" 1 f__law_take) (F : FnAt K mg "_law_listed" s__law_listed) : HasB P w K mg base 3 "_law_listed" 0 f__law_listed := by
  obtain ⟨f, fd, F, hm⟩ := F
  exact ⟨f, fd, ["_law_bag_here"], ok__law_listed fa h__law_names h__law_take F, hm, F.kp, F.binds fun _ _ _ _ _ _ us hl => match us, hl with | [_], _ => rfl⟩
abbrev s__law_near : Stmt := topS 18
abbrev n__law_near : List Str := ["_law_bag_here", "_law_word", "_law_manner", "_law_at", "_law_sign", "_law_some_here"]
theorem sc__law_near : FnScope n__law_near ["_law_bag_here", "_law_word"] (defScope s__law_near) := ⟨rfl, rfl, rfl, by decide +kernel, rfl, by decide +kernel, by decide +kernel⟩
def m__law_near : En → SRs :=
    (seqS (par2 2 3 (frzD (callB 1 f__law_take 0 [(cD (.int 5))])) (shD (frzD (callB 1 f__law_take 0 [(op2 (.ex (opN [(.va 1)] semLen)) (.ex (cD (.int 1))) semAdd)]))))
    (seqS (setS 4 (shD (frzD (callB 1 f__law_some 0 [(frzD (lstD [(cD (.str "a")), (cD (.str "z")), (cD (.str "A")), (cD (.str "1")), (cD (.str " ")), (cD (.str "-")), (cD (.str "_")), (cD (.str "{")), (cD (.str "`")), (cD (.str "\n"))]))]))))
    (seqS (setS 5 (shD (frzD (lstD [(vD 1), (op2 (.ex (op2 (.ex (slD (.va 1) poN (poS (vD 3)) semSl)) (.va 4) semAdd)) (.ex (slD (.va 1) (poS (vD 3)) poN semSl)) semAdd), (op2 (.ex (slD (.va 1) poN (poS (vD 3)) semSl)) (.ex (slD (.va 1) (poS (op2 (.va 3) (.ex (cD (.int 1))) semAdd)) poN semSl)) semAdd), (op2 (.ex (op2 (.ex (slD (.va 1) poN (poS (vD 3)) semSl)) (.va 4) semAdd)) (.ex (slD (.va 1) (poS (op2 (.va 3) (.ex (cD (.int 1))) semAdd)) poN semSl)) semAdd), (op2 (.va 1) (.ex (cD (.int 2))) semMul)]))))
    (rtS (shD (op2 (.va 5) (.va 2) semAt))))))
def f__law_near : List D → List D → Option (OV × List D) := fnB 6 m__law_near
theorem ok__law_near {f : Addr} {fd : FuncData} (fa : Fa K w mg base) (h__law_take : HasB P w K mg base 1 "_law_take" 1 f__law_take) (h__law_some : HasB P w K mg base 2 "_law_some" 1 f__law_some) (F : Fun K "_law_near" "_law_near" s__law_near f fd) : FnG P w K mg base CX0 3 f fd ["_law_bag_here", "_law_word"] (spB K 1 f__law_near) := by
  have nd := sc__law_near.nd
  unfold f__law_near
  refine fnB_ok (k := 2) (m := m__law_near) F sc__law_near rfl rfl fun cdv A outer s H E g hgd hr hB hW hWn hxc => ?_
  unfold m__law_near
  exact (ds_cons (ds_par2 (i := 2) (j := 3) (nb hB 2 (by decide)) (nb hB 3 (by decide)) nd rfl (by decide) (DO.fz (do_callB h__law_take hgd (hr.mono (by decide)) (pv 0) (da_cons de_int da_nil))) (DE.shd (DO.fz (do_callB h__law_take hgd (hr.mono (by decide)) (pv 0) (da_cons (de_op opd_add (DE.opd (de_callB cd_len fa.b_len (dbs_cons (db_var 1 (pv 1)) dbs_nil))) (DE.opd de_int)) da_nil)))))
    (ds_cons (ds_set (i := 4) (nb hB 4 (by decide)) nd (DE.shd (DO.fz (do_callB h__law_some hgd (hr.mono (by decide)) (pv 0) (da_cons (DO.fz (do_lst (da_cons de_str (da_cons de_str (da_cons de_str (da_cons de_str (da_cons de_str (da_cons de_str (da_cons de_str (da_cons de_str (da_cons de_str (da_cons de_str da_nil)))))))))))) da_nil)))))
    (ds_cons (ds_set (i := 5) (nb hB 5 (by decide)) nd (DE.shd (DO.fz (do_lst (da_cons (de_var 1 (nb hB 1 (by decide)) (pv 1)) (da_cons (de_op opd_add (DE.opd (de_op opd_add (DE.opd (de_slice (db_var 1 (pv 1)) dpo_none (dpo_some (de_var 3 (nb hB 3 (by decide)) (pv 3))))) (db_var 4 (pv 4)))) (DE.opd (de_slice (db_var 1 (pv 1)) (dpo_some (de_var 3 (nb hB 3 (by decide)) (pv 3))) dpo_none))) (da_cons (de_op opd_add (DE.opd (de_slice (db_var 1 (pv 1)) dpo_none (dpo_some (de_var 3 (nb hB 3 (by decide)) (pv 3))))) (DE.opd (de_slice (db_var 1 (pv 1)) (dpo_some (de_op opd_add (db_var 3 (pv 3)) (DE.opd de_int))) dpo_none))) (da_cons (de_op opd_add (DE.opd (de_op opd_add (DE.opd (de_slice (db_var 1 (pv 1)) dpo_none (dpo_some (de_var 3 (nb hB 3 (by decide)) (pv 3))))) (db_var 4 (pv 4)))) (DE.opd (de_slice (db_var 1 (pv 1)) (dpo_some (de_op opd_add (db_var 3 (pv 3)) (DE.opd de_int))) dpo_none))) (da_cons (de_op opd_mul (db_var 1 (pv 1)) (DE.opd de_int)) da_nil)))))))))
    (ds_one (ds_ret (DE.shd (de_ix (ixAt (u65 hr)) (db_var 5 (pv 5)) (db_var 2 (pv 2)) (fun _ _ => rfl))))))))
theorem has__law_near (fa : Fa K w mg base) (h__law_take : HasB P w K mg base 1 "_law_take" 1 f__law_take) (h__law_some : HasB P w K mg base 2 "_law_some" 1 f__law_some) (F : FnAt K mg "_law_near" s__law_near) : HasB P w K mg base 3 "_law_near" 1 f__law_near := by
  obtain ⟨f, fd, F, hm⟩ := F
  exact ⟨f, fd, ["_law_bag_here", "_law_word"], ok__law_near fa h__law_take h__law_some F, hm, F.kp, F.binds fun _ _ _ _ _ _ us hl => match us, hl with | [_, _], _ => rfl⟩
abbrev s__law_odd : Stmt := topS 16
abbrev n__law_odd : List Str := ["_law_bag_here", "_law_some_here"]
theorem sc__law_odd : FnScope n__law_odd ["_law_bag_here"] (defScope s__law_odd) := ⟨rfl, rfl, rfl, by decide +kernel, rfl, by decide +kernel, by decide +kernel⟩
def m__law_odd : En → SRs :=
    (seqS (setS 1 (shD (frzD (lstD [(cD .non), (cD (.int 5)), (cD (.str "a")), (cD (.str "")), (tupD []), (frzD (lstD [])), (cD (.dic [])), (tupD [(cD (.str "eq"))]), (cD (.bl true)), (op2 (.ex (cD (.int 10))) (.ex (cD (.int 39))) semPow), (frzD (lstD [(cD .non)])), (tupD [(cD (.str "name")), (cD (.str "a"))]), (cD (.str "eq")), (op1 (.ex (cD (.int 1))) semNeg), (tupD [(cD (.int 0)), (cD (.int 1))])]))))
    (seqS (setS 1 (shD (op2 (.va 1) (.ex (frzD (lstD [(cD (.str "a1")), (cD (.str "aB")), (cD (.str "a_")), (cD (.str "a{")), (cD (.str "a\n"))]))) semAdd)))
    (rtS (callB 1 f__law_some 0 [(op2 (.va 1) (.ex (frzD (lstD [(dicD [((cD (.str "a")), (cD (.int 1)))]), (cD (.str "ab b")), (cD (.str "abcdefghi")), (tupD [(cD (.str "last"))]), (tupD [(cD (.str "")), (cD (.str "")), (cD (.str ""))])]))) semAdd)]))))
def f__law_odd : List D → List D → Option (OV × List D) := fnB 2 m__law_odd
theorem ok__law_odd {f : Addr} {fd : FuncData} (fa : Fa K w mg base) (h__law_some : HasB P w K mg base 2 "_law_some" 1 f__law_some) (F : Fun K "_law_odd" "_law_odd" s__law_odd f fd) : FnG P w K mg base CX0 3 f fd ["_law_bag_here"] (spB K 0 f__law_odd) := by
  have nd := sc__law_odd.nd
  unfold f__law_odd
  refine fnB_ok (k := 2) (m := m__law_odd) F sc__law_odd rfl rfl fun cdv A outer s H E g hgd hr hB hW hWn hxc => ?_
  unfold m__law_odd
  exact (ds_cons (ds_set (i := 1) (nb hB 1 (by decide)) nd (DE.shd (DO.fz (do_lst (da_cons de_non (da_cons de_int (da_cons de_str (da_cons de_str (da_cons (de_tup da_nil) (da_cons (DO.fz (do_lst da_nil)) (da_cons de_dict0 (da_cons (de_tup (da_cons de_str da_nil)) (da_cons de_bl (da_cons (de_op opd_pow (DE.opd de_int) (DE.opd de_int)) (da_cons (DO.fz (do_lst (da_cons de_non da_nil))) (da_cons (de_tup (da_cons de_str (da_cons de_str da_nil))) (da_cons de_str (da_cons (de_un und_neg (DE.opd de_int)) (da_cons (de_tup (da_cons de_int (da_cons de_int da_nil))) da_nil)))))))))))))))))))
    (ds_cons (ds_set (i := 1) (nb hB 1 (by decide)) nd (DE.shd (de_op opd_add (db_var 1 (pv 1)) (DE.opd (DO.fz (do_lst (da_cons de_str (da_cons de_str (da_cons de_str (da_cons de_str (da_cons de_str da_nil)))))))))))
    (ds_one (ds_ret (do_callB h__law_some hgd (hr.mono (by decide)) (pv 0) (da_cons (de_op opd_add (db_var 1 (pv 1)) (DE.opd (DO.fz (do_lst (da_cons (de_disp (dps_cons (fun g1 e1 => de_str) (fun g1 e1 => de_int) dps_nil)) (da_cons de_str (da_cons de_str (da_cons (de_tup (da_cons de_str da_nil)) (da_cons (de_tup (da_cons de_str (da_cons de_str (da_cons de_str da_nil)))) da_nil))))))))) da_nil))))))
theorem has__law_odd (fa : Fa K w mg base) (h__law_some : HasB P w K mg base 2 "_law_some" 1 f__law_some) (F : FnAt K mg "_law_odd" s__law_odd) : HasB P w K mg base 3 "_law_odd" 0 f__law_odd := by
  obtain ⟨f, fd, F, hm⟩ := F
  exact ⟨f, fd, ["_law_bag_here"], ok__law_odd fa h__law_some F, hm, F.kp, F.binds fun _ _ _ _ _ _ us hl => match us, hl with | [_], _ => rfl⟩
abbrev s__law_is_name : Stmt := topS 17
abbrev s__law_is_name_sc : Scope := defScope s__law_is_name
abbrev n__law_is_name : List Str := ["_law_thing", "_law_sign"]
theorem sc__law_is_name : FnScope n__law_is_name ["_law_thing"] (defScope s__law_is_name) := ⟨rfl, rfl, rfl, by decide +kernel, rfl, by decide +kernel, by decide +kernel⟩
abbrev it__law_is_name_1 : En → Rs (List D) := (itA (vD 0))
abbrev ts__law_is_name_1 : En → Rs Bool := (toB (op2 (.va 1) (.ex (cD (.str "abcdefghijklmnopqrstuvwxyz"))) semNotIn2))
abbrev el__law_is_name_1 : En → Rs D := (vD 1)
abbrev lc__law_is_name_1 : En → Rs OV := lcD it__law_is_name_1 [1] (gN 1) ts__law_is_name_1 el__law_is_name_1
def m__law_is_name : En → SRs :=
    (seqS (ifS (orT (notT (toB (isiD (.va 0) ["str"]))) (notT (toB (chD (.ex (cD (.int 0))) (.ex (opN [(.va 0)] semLen)) (.ex (cD (.int 9))) semLt semLt)))) (rtS (shD (cD (.bl false)))) nxS)
    (rtS (shD (op2 (.ex (frzD lc__law_is_name_1)) (.ex (frzD (lstD []))) semEq))))
def f__law_is_name : List D → Option OV := fnP 2 m__law_is_name
theorem ok__law_is_name {f : Addr} {fd : FuncData} (fa : Fa K w mg base)  (F : Fun K "_law_is_name" "_law_is_name" s__law_is_name f fd) : FnG P w K mg base CX0 1 f fd ["_law_thing"] (spP K 1 f__law_is_name) := by
  have nd := sc__law_is_name.nd
  unfold f__law_is_name
  refine fnP_ok (k := 0) (m := m__law_is_name) F sc__law_is_name rfl rfl fun cdv A outer s H E g hgd hr hB0 hW hWn hxc => ?_
  have hB := nb00 hB0
  unfold m__law_is_name
  exact (ds_cons (ds_if (DW.dt (dw_or (dt_not (dt_val (de_isi1 (T := "str") (by decide) fa.b_isinstance fa.b_str (db_var 0 (pv 0))))) (dw_or1 (dt_not (dt_chain opd_lt opd_lt (DE.opd de_int) (DE.opd (de_callB cd_len fa.b_len (dbs_cons (db_var 0 (pv 0)) dbs_nil))) (DE.opd de_int)))))) (ds_one (ds_ret (DE.shd de_bl))) ds_nil)
    (ds_one (ds_ret (DE.shd (de_cmp (opd_eq hr.units) (DE.opd (DO.fz (do_lc (own := [("_law_sign", 1)]) (ks := [1]) rfl nd (di_any (de_var 0 (nb hB 0 (by decide)) (pv 0))) (blkOk_by (N := n__law_is_name) (sc := s__law_is_name_sc) (by decide +kernel)) rfl (nbs hB (by decide)) (by decide) (fun _ _ _ _ _ g1 e1 => (dg_name (i := 1) (nb (nbt e1 hB) 1 (by decide)) nd)) (fun _ _ _ _ _ g1 e1 => (pts_oneD (dt_cmp (opd_notIn2 (u65 hr)) (db_var 1 (pv 1)) (DE.opd de_str) rfl))) (fun _ _ _ _ _ g1 e1 => (de_var 1 (nb (nbt e1 hB) 1 (by decide)) (pv 1)))))) (DE.opd (DO.fz (do_lst da_nil))) (nomark _))))))
theorem has__law_is_name (fa : Fa K w mg base)  (F : FnAt K mg "_law_is_name" s__law_is_name) : HasP P w K mg base 1 "_law_is_name" 1 f__law_is_name := by
  obtain ⟨f, fd, F, hm⟩ := F
  exact ⟨f, fd, ["_law_thing"], ok__law_is_name fa  F, hm, F.kp, F.binds fun _ _ _ _ _ _ us hl => match us, hl with | [_], _ => rfl⟩
abbrev s__law_rank : Stmt := topS 19
abbrev n__law_rank : List Str := ["_law_name", "_law_found", "_law_sign"]
theorem sc__law_rank : FnScope n__law_rank ["_law_name"] (defScope s__law_rank) := ⟨rfl, rfl, rfl, by decide +kernel, rfl, by decide +kernel, by decide +kernel⟩
abbrev it__law_rank_1 : En → Rs (List D) := (itA (vD 0))
abbrev bd__law_rank_1 : En → SRs := (setS 1 (shD (op2 (.ex (op2 (.ex (op2 (.va 1) (.ex (cD (.int 26))) semMul)) (.ex (m1D (.ex (cD (.str "abcdefghijklmnopqrstuvwxyz"))) (.va 2) semSIndex)) semAdd)) (.ex (cD (.int 1))) semAdd)))
abbrev fr__law_rank_1 : En → SRs := forD it__law_rank_1 (gN 2) bd__law_rank_1
def m__law_rank : En → SRs :=
    (seqS (setS 1 (shD (cD (.int 0))))
    (seqS fr__law_rank_1
    (rtS (shD (op2 (.va 1) (.ex (cD (.int 1))) semSub)))))
def f__law_rank : List D → Option OV := fnP 3 m__law_rank
theorem ok__law_rank {f : Addr} {fd : FuncData} (fa : Fa K w mg base)  (F : Fun K "_law_rank" "_law_rank" s__law_rank f fd) : FnG P w K mg base CX0 1 f fd ["_law_name"] (spP K 1 f__law_rank) := by
  have nd := sc__law_rank.nd
  unfold f__law_rank
  refine fnP_ok (k := 0) (m := m__law_rank) F sc__law_rank rfl rfl fun cdv A outer s H E g hgd hr hB0 hW hWn hxc => ?_
  have hB := nb00 hB0
  unfold m__law_rank
  exact (ds_cons (ds_set (i := 1) (nb hB 1 (by decide)) nd (DE.shd de_int))
    (ds_cons (ds_for PassesOwn.never rfl (di_any (de_var 0 (nb hB 0 (by decide)) (pv 0))) (dg_name (i := 2) (nb hB 2 (by decide)) nd) (ds_one (ds_set (i := 1) (nb hB 1 (by decide)) nd (DE.shd (de_op opd_add (DE.opd (de_op opd_add (DE.opd (de_op opd_mul (db_var 1 (pv 1)) (DE.opd de_int))) (DE.opd (de_m1 PySem.F.slot_str_index PySem.F.type_str_index md_sindex (DE.opd de_str) (db_var 2 (pv 2)))))) (DE.opd de_int))))))
    (ds_one (ds_ret (DE.shd (de_op opd_sub (db_var 1 (pv 1)) (DE.opd de_int)))))))
theorem has__law_rank (fa : Fa K w mg base)  (F : FnAt K mg "_law_rank" s__law_rank) : HasP P w K mg base 1 "_law_rank" 1 f__law_rank := by
  obtain ⟨f, fd, F, hm⟩ := F
  exact ⟨f, fd, ["_law_name"], ok__law_rank fa  F, hm, F.kp, F.binds fun _ _ _ _ _ _ us hl => match us, hl with | [_], _ => rfl⟩
abbrev s__law_fresh_right : Stmt := topS 21
abbrev s__law_fresh_right_sc : Scope := defScope s__law_fresh_right
abbrev n__law_fresh_right : List Str := ["_law_labels", "_law_tells", "_law_known", "_law_name"]
theorem sc__law_fresh_right : FnScope n__law_fresh_right ["_law_labels", "_law_tells"] (defScope s__law_fresh_right) := ⟨rfl, rfl, rfl, by decide +kernel, rfl, by decide +kernel, by decide +kernel⟩
abbrev it__law_fresh_right_1 : En → Rs (List D) := (itA (frzD (opNO [(.va 0)] semSrtSet)))
abbrev ts__law_fresh_right_1 : En → Rs Bool := (andT (toB (frzD (callP 1 f__law_is_name [(vD 3)]))) (toB (op2 (.ex (frzD (callP 1 f__law_rank [(vD 3)]))) (.ex (frzD (callP 1 f__law_rank [(vD 1)]))) semLt)))
abbrev el__law_fresh_right_1 : En → Rs D := (vD 3)
abbrev lc__law_fresh_right_1 : En → Rs OV := lcD it__law_fresh_right_1 [3] (gN 3) ts__law_fresh_right_1 el__law_fresh_right_1
def m__law_fresh_right : En → SRs :=
    (seqS (ifS (orT (notT (toB (frzD (callP 1 f__law_is_name [(vD 1)])))) (toB (op2 (.va 1) (.va 0) semIn2))) (rtS (shD (cD (.bl false)))) nxS)
    (seqS (setS 2 (shD (frzD lc__law_fresh_right_1)))
    (rtS (shD (op2 (.ex (opN [(.va 2)] semLen)) (.ex (frzD (callP 1 f__law_rank [(vD 1)]))) semEq)))))
def f__law_fresh_right : List D → Option OV := fnP 4 m__law_fresh_right
theorem ok__law_fresh_right {f : Addr} {fd : FuncData} (fa : Fa K w mg base) (h__law_is_name : HasP P w K mg base 1 "_law_is_name" 1 f__law_is_name) (h__law_rank : HasP P w K mg base 1 "_law_rank" 1 f__law_rank) (F : Fun K "_law_fresh_right" "_law_fresh_right" s__law_fresh_right f fd) : FnG P w K mg base CX0 2 f fd ["_law_labels", "_law_tells"] (spP K 2 f__law_fresh_right) := by
  have nd := sc__law_fresh_right.nd
  unfold f__law_fresh_right
  refine fnP_ok (k := 1) (m := m__law_fresh_right) F sc__law_fresh_right rfl rfl fun cdv A outer s H E g hgd hr hB0 hW hWn hxc => ?_
  have hB := nb00 hB0
  unfold m__law_fresh_right
  exact (ds_cons (ds_if (DW.dt (dw_or (dt_not (dt_val (DO.fz (do_callP h__law_is_name hgd (hr.mono (by decide)) (da_cons (de_var 1 (nb hB 1 (by decide)) (pv 1)) da_nil))))) (dw_or1 (dt_cmp (opd_in2 (u65 hr)) (db_var 1 (pv 1)) (db_var 0 (pv 0)) rfl)))) (ds_one (ds_ret (DE.shd de_bl))) ds_nil)
    (ds_cons (ds_fz (nb hB 2 (by decide)) lc_nod (ds_setLc (i := 2) (nb hB 2 (by decide)) (own := [("_law_name", 3)]) (ks := [3]) rfl nd (di_any (DO.fz (do_srtSet rfl hr fa.b_sorted fa.b_set (dbs_cons (db_var 0 (pv 0)) dbs_nil)))) (blkOk_by (N := n__law_fresh_right) (sc := s__law_fresh_right_sc) (by decide +kernel)) rfl (nbs hB (by decide)) (by decide) (fun _ _ _ _ _ g1 e1 => (dg_name (i := 3) (nb (nbt e1 hB) 3 (by decide)) nd)) (fun _ _ _ _ _ g1 e1 => (pts_oneD (DW.dt (dw_and (dt_val (DO.fz (do_callP h__law_is_name hgd (hr.mono (by decide)) (da_cons (de_var 3 (nb (nbt e1 hB) 3 (by decide)) (pv 3)) da_nil)))) (dw_and1 (dt_cmp opd_lt (DE.opd (DO.fz (do_callP h__law_rank hgd (hr.mono (by decide)) (da_cons (de_var 3 (nb (nbt e1 hB) 3 (by decide)) (pv 3)) da_nil)))) (DE.opd (DO.fz (do_callP h__law_rank hgd (hr.mono (by decide)) (da_cons (de_var 1 (nb (nbt e1 hB) 1 (by decide)) (pv 1)) da_nil)))) (nomark _))))))) (fun _ _ _ _ _ g1 e1 => (de_var 3 (nb (nbt e1 hB) 3 (by decide)) (pv 3))) (sw_true rfl rfl rfl (by decide +kernel))))
    (ds_one (ds_ret (DE.shd (de_cmp (opd_eq hr.units) (DE.opd (de_callB cd_len fa.b_len (dbs_cons (db_var 2 (pv 2)) dbs_nil))) (DE.opd (DO.fz (do_callP h__law_rank hgd (hr.mono (by decide)) (da_cons (de_var 1 (nb hB 1 (by decide)) (pv 1)) da_nil)))) (nomark _)))))))
theorem has__law_fresh_right (fa : Fa K w mg base) (h__law_is_name : HasP P w K mg base 1 "_law_is_name" 1 f__law_is_name) (h__law_rank : HasP P w K mg base 1 "_law_rank" 1 f__law_rank) (F : FnAt K mg "_law_fresh_right" s__law_fresh_right) : HasP P w K mg base 2 "_law_fresh_right" 2 f__law_fresh_right := by
  obtain ⟨f, fd, F, hm⟩ := F
  exact ⟨f, fd, ["_law_labels", "_law_tells"], ok__law_fresh_right fa h__law_is_name h__law_rank F, hm, F.kp, F.binds fun _ _ _ _ _ _ us hl => match us, hl with | [_, _], _ => rfl⟩
abbrev s_fresh : Stmt := topS 9
abbrev s_fresh_sc : Scope := defScope s_fresh
abbrev n_fresh : List Str := ["names", "level", "name", "letter"]
theorem sc_fresh : FnScope n_fresh ["names"] (defScope s_fresh) := ⟨rfl, rfl, rfl, by decide +kernel, rfl, by decide +kernel, by decide +kernel⟩
abbrev it_fresh_1 : En → Rs (List D) := (itA (vD 1))
abbrev bd_fresh_1 : En → SRs := (ifS (toB (op2 (.va 2) (.va 0) semNotIn2)) (rtS (mvD 2)) nxS)
abbrev fr_fresh_1 : En → SRs := forD it_fresh_1 (gN 2) bd_fresh_1
abbrev it_fresh_2 : En → Rs (List D) := (itA (vD 1))
abbrev it_fresh_3 : En → Rs (List D) := (itA (cD c_LETTERS))
abbrev el_fresh_1 : En → Rs D := (op2 (.va 2) (.va 3) semAdd)
abbrev lc_fresh_1 : En → Rs OV := lc2D it_fresh_2 [2, 3] (gN 2) yesT it_fresh_3 [3] (gN 3) yesT el_fresh_1
abbrev ts_fresh_1 : En → Rs Bool := (toB (cD (.bl true)))
abbrev bd_fresh_2 : En → SRs := (seqS fr_fresh_1
    (setS 1 (shD (frzD lc_fresh_1))))
def m_fresh : En → SRs :=
    (seqS (setS 1 (shD (frzD (opNO [(.ex (cD c_LETTERS))] semListS))))
    (whS ts_fresh_1 bd_fresh_2 100))
def f_fresh : List D → Option OV := fnP 4 m_fresh
theorem ok_fresh {f : Addr} {fd : FuncData} (fa : Fa K w mg base)  (F : Fun K "fresh" "fresh" s_fresh f fd) : FnG P w K mg base CX0 1 f fd ["names"] (spP K 1 f_fresh) := by
  have nd := sc_fresh.nd
  unfold f_fresh
  refine fnP_ok (k := 0) (m := m_fresh) F sc_fresh rfl rfl fun cdv A outer s H E g hgd hr hB0 hW hWn hxc => ?_
  have hB := nb00 hB0
  unfold m_fresh
  exact (ds_cons (ds_set (i := 1) (nb hB 1 (by decide)) nd (DE.shd (DO.fz (do_callT (co_listS rfl) fa.b_list (dbs_cons (DE.opd (de_glob fa.m_LETTERS fa.r_LETTERS fa.d_LETTERS)) dbs_nil)))))
    (ds_one (ds_while 100 PassesOwn.never (dt_val de_bl) (ds_cons (ds_for PassesOwn.never rfl (di_any (de_var 1 (nb hB 1 (by decide)) (pv 1))) (dg_name (i := 2) (nb hB 2 (by decide)) nd) (ds_one (ds_if (dt_cmp (opd_notIn2 (u65 hr)) (db_var 2 (pv 2)) (db_var 0 (pv 0)) rfl) (ds_one (ds_ret (do_var 2 (nb hB 2 (by decide)) (pv 2)))) ds_nil)))
    (ds_one (ds_fz (nb hB 1 (by decide)) lc2_nod (ds_setLc2 (i := 1) (nb hB 1 (by decide)) (own := [("name", 2), ("letter", 3)]) (ks := [2]) (ks1 := [3]) (vs1 := [3]) rfl nd (di_any (de_var 1 (nb hB 1 (by decide)) (pv 1))) (blkOk_by (N := n_fresh) (sc := s_fresh_sc) (by decide +kernel)) rfl (nbs hB (by decide)) (by decide) (by decide) (by decide) (fun _ _ _ _ _ g1 e1 => (dg_name (i := 2) (nb (nbt e1 hB) 2 (by decide)) nd)) (fun _ _ _ _ _ g1 e1 => pts_nilD) (fun _ _ _ _ _ g1 e1 => (di_any (de_glob fa.m_LETTERS fa.r_LETTERS fa.d_LETTERS))) (fun _ _ _ _ _ g1 e1 => (dg_name (i := 3) (nb (nbt e1 hB) 3 (by decide)) nd)) (fun _ _ _ _ _ g1 e1 => pts_nilD) (fun _ _ _ _ _ g1 e1 => (de_op opd_add (db_var 2 (pv 2)) (db_var 3 (pv 3)))) (sw_true rfl rfl rfl (by decide +kernel)))))))))
theorem has_fresh (fa : Fa K w mg base)  (F : FnAt K mg "fresh" s_fresh) : HasP P w K mg base 1 "fresh" 1 f_fresh := by
  obtain ⟨f, fd, F, hm⟩ := F
  exact ⟨f, fd, ["names"], ok_fresh fa  F, hm, F.kp, F.binds fun _ _ _ _ _ _ us hl => match us, hl with | [_], _ => rfl⟩
abbrev s__law_alike : Stmt := topS 13
abbrev n__law_alike : List Str := ["_law_found", "_law_due"]
theorem sc__law_alike : FnScope n__law_alike ["_law_found", "_law_due"] (defScope s__law_alike) := ⟨rfl, rfl, rfl, by decide +kernel, rfl, by decide +kernel, by decide +kernel⟩
def m__law_alike : En → SRs :=
    (rtS (shD (andD (op2 (.va 0) (.va 1) semEqX) (op2 (.ex (opN [(.va 0)] semRepr)) (.ex (opN [(.va 1)] semRepr)) semEqX))))
def f__law_alike : List D → Option OV := fnP 2 m__law_alike
theorem ok__law_alike {f : Addr} {fd : FuncData} (fa : Fa K w mg base)  (F : Fun K "_law_alike" "_law_alike" s__law_alike f fd) : FnG P w K mg base CX0 1 f fd ["_law_found", "_law_due"] (spP K 2 f__law_alike) := by
  have nd := sc__law_alike.nd
  unfold f__law_alike
  refine fnP_ok (k := 0) (m := m__law_alike) F sc__law_alike rfl rfl fun cdv A outer s H E g hgd hr hB0 hW hWn hxc => ?_
  have hB := nb00 hB0
  unfold m__law_alike
  exact (ds_one (ds_ret (DE.shd (de_and (de_cmp (opd_eqX hr.units) (db_var 0 (pv 0)) (db_var 1 (pv 1)) (nomark _)) (de_one (de_cmp (opd_eqX hr.units) (DE.opd (de_callB (cd_repr hgd hr fa.sy) fa.b_repr (dbs_cons (db_var 0 (pv 0)) dbs_nil))) (DE.opd (de_callB (cd_repr hgd hr fa.sy) fa.b_repr (dbs_cons (db_var 1 (pv 1)) dbs_nil))) (nomark _)))))))
theorem has__law_alike (fa : Fa K w mg base)  (F : FnAt K mg "_law_alike" s__law_alike) : HasP P w K mg base 1 "_law_alike" 2 f__law_alike := by
  obtain ⟨f, fd, F, hm⟩ := F
  exact ⟨f, fd, ["_law_found", "_law_due"], ok__law_alike fa  F, hm, F.kp, F.binds fun _ _ _ _ _ _ us hl => match us, hl with | [_, _], _ => rfl⟩
abbrev s_is_integer : Stmt := topS 5
abbrev n_is_integer : List Str := ["thing"]
theorem sc_is_integer : FnScope n_is_integer ["thing"] (defScope s_is_integer) := ⟨rfl, rfl, rfl, by decide +kernel, rfl, by decide +kernel, by decide +kernel⟩
def m_is_integer : En → SRs :=
    (rtS (shD (andD (isiD (.va 0) ["int"]) (notD (isiD (.va 0) ["bool"])))))
def f_is_integer : List D → Option OV := fnP 1 m_is_integer
theorem ok_is_integer {f : Addr} {fd : FuncData} (fa : Fa K w mg base)  (F : Fun K "is_integer" "is_integer" s_is_integer f fd) : FnG P w K mg base CX0 1 f fd ["thing"] (spP K 1 f_is_integer) := by
  have nd := sc_is_integer.nd
  unfold f_is_integer
  refine fnP_ok (k := 0) (m := m_is_integer) F sc_is_integer rfl rfl fun cdv A outer s H E g hgd hr hB0 hW hWn hxc => ?_
  have hB := nb00 hB0
  unfold m_is_integer
  exact (ds_one (ds_ret (DE.shd (de_and (de_isi1 (T := "int") (by decide) fa.b_isinstance fa.b_int (db_var 0 (pv 0))) (de_one (de_not (de_isi1 (T := "bool") (by decide) fa.b_isinstance fa.b_bool (db_var 0 (pv 0)))))))))
theorem has_is_integer (fa : Fa K w mg base)  (F : FnAt K mg "is_integer" s_is_integer) : HasP P w K mg base 1 "is_integer" 1 f_is_integer := by
  obtain ⟨f, fd, F, hm⟩ := F
  exact ⟨f, fd, ["thing"], ok_is_integer fa  F, hm, F.kp, F.binds fun _ _ _ _ _ _ us hl => match us, hl with | [_], _ => rfl⟩
abbrev s_is_name : Stmt := topS 6
abbrev s_is_name_sc : Scope := defScope s_is_name
abbrev n_is_name : List Str := ["thing", "sign"]
theorem sc_is_name : FnScope n_is_name ["thing"] (defScope s_is_name) := ⟨rfl, rfl, rfl, by decide +kernel, rfl, by decide +kernel, by decide +kernel⟩
abbrev it_is_name_1 : En → Rs (List D) := (itA (vD 0))
abbrev el_is_name_1 : En → Rs D := (op2 (.va 1) (.ex (cD c_LETTERS)) semIn2)
abbrev lc_is_name_1 : En → Rs OV := lcD it_is_name_1 [1] (gN 1) yesT el_is_name_1
def m_is_name : En → SRs :=
    (seqS (ifS (orT (notT (toB (isiD (.va 0) ["str"]))) (notT (toB (chD (.ex (cD (.int 1))) (.ex (opN [(.va 0)] semLen)) (.ex (cD c_MOST_LETTERS)) semLe semLe)))) (rtS (shD (cD (.bl false)))) nxS)
    (rtS (shD (opN [(.ex (frzD lc_is_name_1))] semAll))))
def f_is_name : List D → Option OV := fnP 2 m_is_name
theorem ok_is_name {f : Addr} {fd : FuncData} (fa : Fa K w mg base)  (F : Fun K "is_name" "is_name" s_is_name f fd) : FnG P w K mg base CX0 1 f fd ["thing"] (spP K 1 f_is_name) := by
  have nd := sc_is_name.nd
  unfold f_is_name
  refine fnP_ok (k := 0) (m := m_is_name) F sc_is_name rfl rfl fun cdv A outer s H E g hgd hr hB0 hW hWn hxc => ?_
  have hB := nb00 hB0
  unfold m_is_name
  exact (ds_cons (ds_if (DW.dt (dw_or (dt_not (dt_val (de_isi1 (T := "str") (by decide) fa.b_isinstance fa.b_str (db_var 0 (pv 0))))) (dw_or1 (dt_not (dt_chain opd_le opd_le (DE.opd de_int) (DE.opd (de_callB cd_len fa.b_len (dbs_cons (db_var 0 (pv 0)) dbs_nil))) (DE.opd (de_glob fa.m_MOST_LETTERS fa.r_MOST_LETTERS fa.d_MOST_LETTERS))))))) (ds_one (ds_ret (DE.shd de_bl))) ds_nil)
    (ds_one (ds_ret (DE.shd (de_callB (cd_all rfl) fa.b_all (dbs_cons (DE.opd (DO.fz (do_lc (own := [("sign", 1)]) (ks := [1]) rfl nd (di_any (de_var 0 (nb hB 0 (by decide)) (pv 0))) (blkOk_by (N := n_is_name) (sc := s_is_name_sc) (by decide +kernel)) rfl (nbs hB (by decide)) (by decide) (fun _ _ _ _ _ g1 e1 => (dg_name (i := 1) (nb (nbt e1 hB) 1 (by decide)) nd)) (fun _ _ _ _ _ g1 e1 => pts_nilD) (fun _ _ _ _ _ g1 e1 => (de_cmp (opd_in2 (u65 hr)) (db_var 1 (pv 1)) (DE.opd (de_glob fa.m_LETTERS fa.r_LETTERS fa.d_LETTERS)) rfl))))) dbs_nil))))))
theorem has_is_name (fa : Fa K w mg base)  (F : FnAt K mg "is_name" s_is_name) : HasP P w K mg base 1 "is_name" 1 f_is_name := by
  obtain ⟨f, fd, F, hm⟩ := F
  exact ⟨f, fd, ["thing"], ok_is_name fa  F, hm, F.kp, F.binds fun _ _ _ _ _ _ us hl => match us, hl with | [_], _ => rfl⟩
abbrev s_is_relation : Stmt := topS 7
abbrev n_is_relation : List Str := ["thing"]
theorem sc_is_relation : FnScope n_is_relation ["thing"] (defScope s_is_relation) := ⟨rfl, rfl, rfl, by decide +kernel, rfl, by decide +kernel, by decide +kernel⟩
def m_is_relation : En → SRs :=
    (rtS (shD (andD (isiD (.va 0) ["str"]) (op2 (.va 0) (.ex (cD c_RELATIONS)) semIn2))))
def f_is_relation : List D → Option OV := fnP 1 m_is_relation
theorem ok_is_relation {f : Addr} {fd : FuncData} (fa : Fa K w mg base)  (F : Fun K "is_relation" "is_relation" s_is_relation f fd) : FnG P w K mg base CX0 1 f fd ["thing"] (spP K 1 f_is_relation) := by
  have nd := sc_is_relation.nd
  unfold f_is_relation
  refine fnP_ok (k := 0) (m := m_is_relation) F sc_is_relation rfl rfl fun cdv A outer s H E g hgd hr hB0 hW hWn hxc => ?_
  have hB := nb00 hB0
  unfold m_is_relation
  exact (ds_one (ds_ret (DE.shd (de_and (de_isi1 (T := "str") (by decide) fa.b_isinstance fa.b_str (db_var 0 (pv 0))) (de_one (de_cmp (opd_in2 (u65 hr)) (db_var 0 (pv 0)) (DE.opd (de_glob fa.m_RELATIONS fa.r_RELATIONS fa.d_RELATIONS)) rfl))))))
theorem has_is_relation (fa : Fa K w mg base)  (F : FnAt K mg "is_relation" s_is_relation) : HasP P w K mg base 1 "is_relation" 1 f_is_relation := by
  obtain ⟨f, fd, F, hm⟩ := F
  exact ⟨f, fd, ["thing"], ok_is_relation fa  F, hm, F.kp, F.binds fun _ _ _ _ _ _ us hl => match us, hl with | [_], _ => rfl⟩
abbrev s_is_home : Stmt := topS 8
abbrev n_is_home : List Str := ["thing"]
theorem sc_is_home : FnScope n_is_home ["thing"] (defScope s_is_home) := ⟨rfl, rfl, rfl, by decide +kernel, rfl, by decide +kernel, by decide +kernel⟩
def m_is_home : En → SRs :=
    (rtS (shD (andD (isiD (.va 0) ["str"]) (op2 (.va 0) (.ex (cD c_HOMES)) semIn2))))
def f_is_home : List D → Option OV := fnP 1 m_is_home
theorem ok_is_home {f : Addr} {fd : FuncData} (fa : Fa K w mg base)  (F : Fun K "is_home" "is_home" s_is_home f fd) : FnG P w K mg base CX0 1 f fd ["thing"] (spP K 1 f_is_home) := by
  have nd := sc_is_home.nd
  unfold f_is_home
  refine fnP_ok (k := 0) (m := m_is_home) F sc_is_home rfl rfl fun cdv A outer s H E g hgd hr hB0 hW hWn hxc => ?_
  have hB := nb00 hB0
  unfold m_is_home
  exact (ds_one (ds_ret (DE.shd (de_and (de_isi1 (T := "str") (by decide) fa.b_isinstance fa.b_str (db_var 0 (pv 0))) (de_one (de_cmp (opd_in2 (u65 hr)) (db_var 0 (pv 0)) (DE.opd (de_glob fa.m_HOMES fa.r_HOMES fa.d_HOMES)) rfl))))))
theorem has_is_home (fa : Fa K w mg base)  (F : FnAt K mg "is_home" s_is_home) : HasP P w K mg base 1 "is_home" 1 f_is_home := by
  obtain ⟨f, fd, F, hm⟩ := F
  exact ⟨f, fd, ["thing"], ok_is_home fa  F, hm, F.kp, F.binds fun _ _ _ _ _ _ us hl => match us, hl with | [_], _ => rfl⟩
abbrev s_law : Stmt := topS 22
abbrev s_law_sc : Scope := defScope s_law
abbrev n_law : List Str := ["_law_script", "_law_bag_here", "_law_spin", "_law_word", "_law_thing", "_law_due", "_law_some_here", "_law_again", "_law_labels", "_law_shown"]
theorem sc_law : FnScope n_law ["_law_script"] (defScope s_law) := ⟨rfl, rfl, rfl, by decide +kernel, rfl, by decide +kernel, by decide +kernel⟩
abbrev it_law_1 : En → Rs (List D) := (itA (tupD [(tupD [(cD (.str "eq")), (cD (.str "lt")), (cD (.str "gt"))]), (tupD [(cD (.str "goal")), (cD (.str "book"))])]))
abbrev el_law_1 : En → Rs D := (andD (isiD (.va 4) ["str"]) (op2 (.va 4) (.va 6) semIn2))
abbrev lc_law_1 : En → Rs OV := lcD it_law_1 [6] (gN 6) yesT el_law_1
abbrev it_law_2 : En → Rs (List D) := (rg1 (cD (.int 2)))
abbrev bd_law_1 : En → SRs := (ifS (notT (toB (frzD (callP 2 f__law_alike [(frzD (lstD [(frzD (callP 1 f_is_integer [(vD 4)])), (frzD (callP 1 f_is_name [(vD 4)])), (frzD (callP 1 f_is_relation [(vD 4)])), (frzD (callP 1 f_is_home [(vD 4)]))])), (vD 5)])))) (rtS (shD (cD (.bl false)))) nxS)
abbrev fr_law_1 : En → SRs := forD it_law_2 (gN 7) bd_law_1
abbrev it_law_3 : En → Rs (List D) := (itA (tupD [(frzD (callB 1 f__law_near 1 [(vD 3)])), (vD 3), (frzD (callB 0 f__law_odd 1 [])), (frzD (lstD [(vD 3)])), (tupD [(vD 3)]), (cD (.int 0)), (cD (.int 1)), (cD (.bl false))]))
abbrev bd_law_2 : En → SRs := (seqS (setS 5 (shD (frzD (lstD [(andD (isiD (.va 4) ["int"]) (notD (isiD (.va 4) ["bool"]))), (frzD (callP 1 f__law_is_name [(vD 4)]))]))))
    (seqS (setS 5 (shD (op2 (.va 5) (.ex (frzD lc_law_1)) semAdd)))
    fr_law_1))
abbrev fr_law_2 : En → SRs := forD it_law_3 (gN 4) bd_law_2
abbrev it_law_4 : En → Rs (List D) := (rg1 (cD (.int 12)))
abbrev bd_law_3 : En → SRs := (seqS (setS 3 (shD (frzD (callB 1 f__law_some 1 [(op2 (.ex (frzD (callB 1 f__law_names 1 [(cD (.int 2))]))) (.ex (frzD (lstD [(cD (.str "eq")), (cD (.str "lt")), (cD (.str "gt")), (cD (.str "goal")), (cD (.str "book")), (cD (.str "abcdefgh"))]))) semAdd)]))))
    (seqS fr_law_2
    (seqS (setS 8 (shD (frzD (callB 0 f__law_listed 1 []))))
    (seqS (setS 9 (shD (opN [(.va 8)] semRepr)))
    (ifS (orT (notT (toB (frzD (callP 2 f__law_fresh_right [(vD 8), (frzD (callP 1 f_fresh [(vD 8)]))])))) (orT (toB (op2 (.ex (frzD (callP 1 f_fresh [(vD 8)]))) (.ex (frzD (callP 1 f_fresh [(frzD (revO (.va 8)))]))) semNe)) (toB (op2 (.ex (opN [(.va 8)] semRepr)) (.va 9) semNe)))) (rtS (shD (cD (.bl false)))) nxS)))))
abbrev fr_law_3 : En → SRs := forD it_law_4 (gN 2) bd_law_3
def m_law : En → SRs :=
    (seqS (setS 1 (callP 1 f__law_bag [(vD 0)]))
    (seqS fr_law_3
    (rtS (shD (cD (.bl true))))))
def f_law : List D → Option OV := fnP 10 m_law
theorem ok_law {f : Addr} {fd : FuncData} (fa : Fa K w mg base) (h__law_bag : HasP P w K mg base 1 "_law_bag" 1 f__law_bag) (h__law_some : HasB P w K mg base 2 "_law_some" 1 f__law_some) (h__law_names : HasB P w K mg base 2 "_law_names" 1 f__law_names) (h__law_near : HasB P w K mg base 3 "_law_near" 1 f__law_near) (h__law_odd : HasB P w K mg base 3 "_law_odd" 0 f__law_odd) (h__law_is_name : HasP P w K mg base 1 "_law_is_name" 1 f__law_is_name) (h__law_alike : HasP P w K mg base 1 "_law_alike" 2 f__law_alike) (h_is_integer : HasP P w K mg base 1 "is_integer" 1 f_is_integer) (h_is_name : HasP P w K mg base 1 "is_name" 1 f_is_name) (h_is_relation : HasP P w K mg base 1 "is_relation" 1 f_is_relation) (h_is_home : HasP P w K mg base 1 "is_home" 1 f_is_home) (h__law_listed : HasB P w K mg base 3 "_law_listed" 0 f__law_listed) (h_fresh : HasP P w K mg base 1 "fresh" 1 f_fresh) (h__law_fresh_right : HasP P w K mg base 2 "_law_fresh_right" 2 f__law_fresh_right) (F : Fun K "law" "law" s_law f fd) : FnG P w K mg base CX0 4 f fd ["_law_script"] (spP K 1 f_law) := by
  have nd := sc_law.nd
  unfold f_law
  refine fnP_ok (k := 3) (m := m_law) F sc_law rfl rfl fun cdv A outer s H E g hgd hr hB0 hW hWn hxc => ?_
  have hB := nb00 hB0
  unfold m_law
  exact (ds_cons (ds_set (i := 1) (nb hB 1 (by decide)) nd (do_callP h__law_bag hgd (hr.mono (by decide)) (da_cons (de_var 0 (nb hB 0 (by decide)) (pv 0)) da_nil)))
    (ds_cons (ds_for PassesOwn.never rfl (di_range1 rfl fa.b_range de_int) (dg_name (i := 2) (nb hB 2 (by decide)) nd) (ds_cons (ds_set (i := 3) (nb hB 3 (by decide)) nd (DE.shd (DO.fz (do_callB h__law_some hgd (hr.mono (by decide)) (pv 1) (da_cons (de_op opd_add (DE.opd (DO.fz (do_callB h__law_names hgd (hr.mono (by decide)) (pv 1) (da_cons de_int da_nil)))) (DE.opd (DO.fz (do_lst (da_cons de_str (da_cons de_str (da_cons de_str (da_cons de_str (da_cons de_str (da_cons de_str da_nil)))))))))) da_nil)))))
    (ds_cons (ds_for PassesOwn.never rfl (di_any (de_tup (da_cons (DO.fz (do_callB h__law_near hgd (hr.mono (by decide)) (pv 1) (da_cons (de_var 3 (nb hB 3 (by decide)) (pv 3)) da_nil))) (da_cons (de_var 3 (nb hB 3 (by decide)) (pv 3)) (da_cons (DO.fz (do_callB h__law_odd hgd (hr.mono (by decide)) (pv 1) da_nil)) (da_cons (DO.fz (do_lst (da_cons (de_var 3 (nb hB 3 (by decide)) (pv 3)) da_nil))) (da_cons (de_tup (da_cons (de_var 3 (nb hB 3 (by decide)) (pv 3)) da_nil)) (da_cons de_int (da_cons de_int (da_cons de_bl da_nil)))))))))) (dg_name (i := 4) (nb hB 4 (by decide)) nd) (ds_cons (ds_set (i := 5) (nb hB 5 (by decide)) nd (DE.shd (DO.fz (do_lst (da_cons (de_and (de_isi1 (T := "int") (by decide) fa.b_isinstance fa.b_int (db_var 4 (pv 4))) (de_one (de_not (de_isi1 (T := "bool") (by decide) fa.b_isinstance fa.b_bool (db_var 4 (pv 4)))))) (da_cons (DO.fz (do_callP h__law_is_name hgd (hr.mono (by decide)) (da_cons (de_var 4 (nb hB 4 (by decide)) (pv 4)) da_nil))) da_nil))))))
    (ds_cons (ds_set (i := 5) (nb hB 5 (by decide)) nd (DE.shd (de_op opd_add (db_var 5 (pv 5)) (DE.opd (DO.fz (do_lc (own := [("_law_some_here", 6)]) (ks := [6]) rfl nd (di_any (de_tup (da_cons (de_tup (da_cons de_str (da_cons de_str (da_cons de_str da_nil)))) (da_cons (de_tup (da_cons de_str (da_cons de_str da_nil))) da_nil)))) (blkOk_by (N := n_law) (sc := s_law_sc) (by decide +kernel)) rfl (nbs hB (by decide)) (by decide) (fun _ _ _ _ _ g1 e1 => (dg_name (i := 6) (nb (nbt e1 hB) 6 (by decide)) nd)) (fun _ _ _ _ _ g1 e1 => pts_nilD) (fun _ _ _ _ _ g1 e1 => (de_and (de_isi1 (T := "str") (by decide) fa.b_isinstance fa.b_str (db_var 4 (pv 4))) (de_one (de_cmp (opd_in2 (u65 hr)) (db_var 4 (pv 4)) (db_var 6 (pv 6)) rfl))))))))))
    (ds_one (ds_for PassesOwn.never rfl (di_range1 rfl fa.b_range de_int) (dg_name (i := 7) (nb hB 7 (by decide)) nd) (ds_one (ds_if (dt_not (dt_val (DO.fz (do_callP h__law_alike hgd (hr.mono (by decide)) (da_cons (DO.fz (do_lst (da_cons (DO.fz (do_callP h_is_integer hgd (hr.mono (by decide)) (da_cons (de_var 4 (nb hB 4 (by decide)) (pv 4)) da_nil))) (da_cons (DO.fz (do_callP h_is_name hgd (hr.mono (by decide)) (da_cons (de_var 4 (nb hB 4 (by decide)) (pv 4)) da_nil))) (da_cons (DO.fz (do_callP h_is_relation hgd (hr.mono (by decide)) (da_cons (de_var 4 (nb hB 4 (by decide)) (pv 4)) da_nil))) (da_cons (DO.fz (do_callP h_is_home hgd (hr.mono (by decide)) (da_cons (de_var 4 (nb hB 4 (by decide)) (pv 4)) da_nil))) da_nil)))))) (da_cons (de_var 5 (nb hB 5 (by decide)) (pv 5)) da_nil)))))) (ds_one (ds_ret (DE.shd de_bl))) ds_nil)))))))
    (ds_cons (ds_set (i := 8) (nb hB 8 (by decide)) nd (DE.shd (DO.fz (do_callB h__law_listed hgd (hr.mono (by decide)) (pv 1) da_nil))))
    (ds_cons (ds_set (i := 9) (nb hB 9 (by decide)) nd (DE.shd (de_callB (cd_repr hgd hr fa.sy) fa.b_repr (dbs_cons (db_var 8 (pv 8)) dbs_nil))))
    (ds_one (ds_if (DW.dt (dw_or (dt_not (dt_val (DO.fz (do_callP h__law_fresh_right hgd (hr.mono (by decide)) (da_cons (de_var 8 (nb hB 8 (by decide)) (pv 8)) (da_cons (DO.fz (do_callP h_fresh hgd (hr.mono (by decide)) (da_cons (de_var 8 (nb hB 8 (by decide)) (pv 8)) da_nil))) da_nil)))))) (dw_or (dt_cmp (opd_ne hr.units) (DE.opd (DO.fz (do_callP h_fresh hgd (hr.mono (by decide)) (da_cons (de_var 8 (nb hB 8 (by decide)) (pv 8)) da_nil)))) (DE.opd (DO.fz (do_callP h_fresh hgd (hr.mono (by decide)) (da_cons (DO.fz (do_revL (db_var 8 (pv 8)))) da_nil)))) (nomark _)) (dw_or1 (dt_cmp (opd_ne hr.units) (DE.opd (de_callB (cd_repr hgd hr fa.sy) fa.b_repr (dbs_cons (db_var 8 (pv 8)) dbs_nil))) (db_var 9 (pv 9)) (nomark _)))))) (ds_one (ds_ret (DE.shd de_bl))) ds_nil)))))))
    (ds_one (ds_ret (DE.shd de_bl)))))
end
theorem all_mk {l : PySem.W.OpenLaw} {w : World} {K : PySem.W.Frag} {h : Heap} {mg : Str → Option Value} {fz : Addr} (inK : K.In h) (ns : h.Ns mainGlobals mg) (hfz : mg "law" = some (.ref fz))
    {od1 an1 : Option Addr} {sl1 : Array (Option Value)} {oc1 kV1 dc1 pm1 cd1 ct1 : Value} {x1 : Addr}
    {od2 an2 : Option Addr} {sl2 : Array (Option Value)} {oc2 kV2 dc2 pm2 cd2 ct2 : Value} {x2 : Addr}
    {od3 an3 : Option Addr} {sl3 : Array (Option Value)} {oc3 kV3 dc3 pm3 cd3 ct3 : Value} {x3 : Addr}
    {od4 an4 : Option Addr} {sl4 : Array (Option Value)} {oc4 kV4 dc4 pm4 cd4 ct4 : Value} {x4 : Addr}
    {od5 an5 : Option Addr} {sl5 : Array (Option Value)} {oc5 kV5 dc5 pm5 cd5 ct5 : Value} {x5 : Addr}
    {od6 an6 : Option Addr} {sl6 : Array (Option Value)} {oc6 kV6 dc6 pm6 cd6 ct6 : Value} {x6 : Addr}
    {od7 an7 : Option Addr} {sl7 : Array (Option Value)} {oc7 kV7 dc7 pm7 cd7 ct7 : Value} {x7 : Addr}
    {od8 an8 : Option Addr} {sl8 : Array (Option Value)} {oc8 kV8 dc8 pm8 cd8 ct8 : Value} {x8 : Addr}
    {od9 an9 : Option Addr} {sl9 : Array (Option Value)} {oc9 kV9 dc9 pm9 cd9 ct9 : Value} {x9 : Addr}
    {od10 an10 : Option Addr} {sl10 : Array (Option Value)} {oc10 kV10 dc10 pm10 cd10 ct10 : Value} {x10 : Addr}
    {od11 an11 : Option Addr} {sl11 : Array (Option Value)} {oc11 kV11 dc11 pm11 cd11 ct11 : Value} {x11 : Addr}
    {od12 an12 : Option Addr} {sl12 : Array (Option Value)} {oc12 kV12 dc12 pm12 cd12 ct12 : Value} {x12 : Addr}
    {od13 an13 : Option Addr} {sl13 : Array (Option Value)} {oc13 kV13 dc13 pm13 cd13 ct13 : Value} {x13 : Addr}
    {od14 an14 : Option Addr} {sl14 : Array (Option Value)} {oc14 kV14 dc14 pm14 cd14 ct14 : Value} {x14 : Addr}
    {od15 an15 : Option Addr} {sl15 : Array (Option Value)} {oc15 kV15 dc15 pm15 cd15 ct15 : Value} {x15 : Addr}
    {od16 an16 : Option Addr} {sl16 : Array (Option Value)} {oc16 kV16 dc16 pm16 cd16 ct16 : Value} {x16 : Addr}
    {od17 an17 : Option Addr} {sl17 : Array (Option Value)} {oc17 kV17 dc17 pm17 cd17 ct17 : Value} {x17 : Addr}
    (a1 : PySem.W.nsIn K mainGlobals "_law_bag" = some (some (.ref x1))) (l1 : K.lookup x1 = some ⟨oc1, od1, .func (PySem.W.fnOf "_law_bag" "_law_bag" (defArgs s__law_bag) (defBody s__law_bag) (defScope s__law_bag) .none kV1 dc1 pm1 an1 cd1 ct1), sl1⟩) (c1 : PySem.W.codeIn K cd1 "_law_bag" = true) (k1 : PySem.W.keepIn K (.ref x1) = true)
    (a2 : PySem.W.nsIn K mainGlobals "_law_take" = some (some (.ref x2))) (l2 : K.lookup x2 = some ⟨oc2, od2, .func (PySem.W.fnOf "_law_take" "_law_take" (defArgs s__law_take) (defBody s__law_take) (defScope s__law_take) .none kV2 dc2 pm2 an2 cd2 ct2), sl2⟩) (c2 : PySem.W.codeIn K cd2 "_law_take" = true) (k2 : PySem.W.keepIn K (.ref x2) = true)
    (a3 : PySem.W.nsIn K mainGlobals "_law_some" = some (some (.ref x3))) (l3 : K.lookup x3 = some ⟨oc3, od3, .func (PySem.W.fnOf "_law_some" "_law_some" (defArgs s__law_some) (defBody s__law_some) (defScope s__law_some) .none kV3 dc3 pm3 an3 cd3 ct3), sl3⟩) (c3 : PySem.W.codeIn K cd3 "_law_some" = true) (k3 : PySem.W.keepIn K (.ref x3) = true)
    (a4 : PySem.W.nsIn K mainGlobals "_law_names" = some (some (.ref x4))) (l4 : K.lookup x4 = some ⟨oc4, od4, .func (PySem.W.fnOf "_law_names" "_law_names" (defArgs s__law_names) (defBody s__law_names) (defScope s__law_names) .none kV4 dc4 pm4 an4 cd4 ct4), sl4⟩) (c4 : PySem.W.codeIn K cd4 "_law_names" = true) (k4 : PySem.W.keepIn K (.ref x4) = true)
    (a5 : PySem.W.nsIn K mainGlobals "_law_listed" = some (some (.ref x5))) (l5 : K.lookup x5 = some ⟨oc5, od5, .func (PySem.W.fnOf "_law_listed" "_law_listed" (defArgs s__law_listed) (defBody s__law_listed) (defScope s__law_listed) .none kV5 dc5 pm5 an5 cd5 ct5), sl5⟩) (c5 : PySem.W.codeIn K cd5 "_law_listed" = true) (k5 : PySem.W.keepIn K (.ref x5) = true)
    (a6 : PySem.W.nsIn K mainGlobals "_law_near" = some (some (.ref x6))) (l6 : K.lookup x6 = some ⟨oc6, od6, .func (PySem.W.fnOf "_law_near" "_law_near" (defArgs s__law_near) (defBody s__law_near) (defScope s__law_near) .none kV6 dc6 pm6 an6 cd6 ct6), sl6⟩) (c6 : PySem.W.codeIn K cd6 "_law_near" = true) (k6 : PySem.W.keepIn K (.ref x6) = true)
    (a7 : PySem.W.nsIn K mainGlobals "_law_odd" = some (some (.ref x7))) (l7 : K.lookup x7 = some ⟨oc7, od7, .func (PySem.W.fnOf "_law_odd" "_law_odd" (defArgs s__law_odd) (defBody s__law_odd) (defScope s__law_odd) .none kV7 dc7 pm7 an7 cd7 ct7), sl7⟩) (c7 : PySem.W.codeIn K cd7 "_law_odd" = true) (k7 : PySem.W.keepIn K (.ref x7) = true)
    (a8 : PySem.W.nsIn K mainGlobals "_law_is_name" = some (some (.ref x8))) (l8 : K.lookup x8 = some ⟨oc8, od8, .func (PySem.W.fnOf "_law_is_name" "_law_is_name" (defArgs s__law_is_name) (defBody s__law_is_name) (defScope s__law_is_name) .none kV8 dc8 pm8 an8 cd8 ct8), sl8⟩) (c8 : PySem.W.codeIn K cd8 "_law_is_name" = true) (k8 : PySem.W.keepIn K (.ref x8) = true)
    (a9 : PySem.W.nsIn K mainGlobals "_law_rank" = some (some (.ref x9))) (l9 : K.lookup x9 = some ⟨oc9, od9, .func (PySem.W.fnOf "_law_rank" "_law_rank" (defArgs s__law_rank) (defBody s__law_rank) (defScope s__law_rank) .none kV9 dc9 pm9 an9 cd9 ct9), sl9⟩) (c9 : PySem.W.codeIn K cd9 "_law_rank" = true) (k9 : PySem.W.keepIn K (.ref x9) = true)
    (a10 : PySem.W.nsIn K mainGlobals "_law_fresh_right" = some (some (.ref x10))) (l10 : K.lookup x10 = some ⟨oc10, od10, .func (PySem.W.fnOf "_law_fresh_right" "_law_fresh_right" (defArgs s__law_fresh_right) (defBody s__law_fresh_right) (defScope s__law_fresh_right) .none kV10 dc10 pm10 an10 cd10 ct10), sl10⟩) (c10 : PySem.W.codeIn K cd10 "_law_fresh_right" = true) (k10 : PySem.W.keepIn K (.ref x10) = true)
    (a11 : PySem.W.nsIn K mainGlobals "fresh" = some (some (.ref x11))) (l11 : K.lookup x11 = some ⟨oc11, od11, .func (PySem.W.fnOf "fresh" "fresh" (defArgs s_fresh) (defBody s_fresh) (defScope s_fresh) .none kV11 dc11 pm11 an11 cd11 ct11), sl11⟩) (c11 : PySem.W.codeIn K cd11 "fresh" = true) (k11 : PySem.W.keepIn K (.ref x11) = true)
    (a12 : PySem.W.nsIn K mainGlobals "_law_alike" = some (some (.ref x12))) (l12 : K.lookup x12 = some ⟨oc12, od12, .func (PySem.W.fnOf "_law_alike" "_law_alike" (defArgs s__law_alike) (defBody s__law_alike) (defScope s__law_alike) .none kV12 dc12 pm12 an12 cd12 ct12), sl12⟩) (c12 : PySem.W.codeIn K cd12 "_law_alike" = true) (k12 : PySem.W.keepIn K (.ref x12) = true)
    (a13 : PySem.W.nsIn K mainGlobals "is_integer" = some (some (.ref x13))) (l13 : K.lookup x13 = some ⟨oc13, od13, .func (PySem.W.fnOf "is_integer" "is_integer" (defArgs s_is_integer) (defBody s_is_integer) (defScope s_is_integer) .none kV13 dc13 pm13 an13 cd13 ct13), sl13⟩) (c13 : PySem.W.codeIn K cd13 "is_integer" = true) (k13 : PySem.W.keepIn K (.ref x13) = true)
    (a14 : PySem.W.nsIn K mainGlobals "is_name" = some (some (.ref x14))) (l14 : K.lookup x14 = some ⟨oc14, od14, .func (PySem.W.fnOf "is_name" "is_name" (defArgs s_is_name) (defBody s_is_name) (defScope s_is_name) .none kV14 dc14 pm14 an14 cd14 ct14), sl14⟩) (c14 : PySem.W.codeIn K cd14 "is_name" = true) (k14 : PySem.W.keepIn K (.ref x14) = true)
    (a15 : PySem.W.nsIn K mainGlobals "is_relation" = some (some (.ref x15))) (l15 : K.lookup x15 = some ⟨oc15, od15, .func (PySem.W.fnOf "is_relation" "is_relation" (defArgs s_is_relation) (defBody s_is_relation) (defScope s_is_relation) .none kV15 dc15 pm15 an15 cd15 ct15), sl15⟩) (c15 : PySem.W.codeIn K cd15 "is_relation" = true) (k15 : PySem.W.keepIn K (.ref x15) = true)
    (a16 : PySem.W.nsIn K mainGlobals "is_home" = some (some (.ref x16))) (l16 : K.lookup x16 = some ⟨oc16, od16, .func (PySem.W.fnOf "is_home" "is_home" (defArgs s_is_home) (defBody s_is_home) (defScope s_is_home) .none kV16 dc16 pm16 an16 cd16 ct16), sl16⟩) (c16 : PySem.W.codeIn K cd16 "is_home" = true) (k16 : PySem.W.keepIn K (.ref x16) = true)
    (a17 : PySem.W.nsIn K mainGlobals "law" = some (some (.ref x17))) (l17 : K.lookup x17 = some ⟨oc17, od17, .func (PySem.W.fnOf "law" "law" (defArgs s_law) (defBody s_law) (defScope s_law) .none kV17 dc17 pm17 an17 cd17 ct17), sl17⟩) (c17 : PySem.W.codeIn K cd17 "law" = true) (k17 : PySem.W.keepIn K (.ref x17) = true)
    {fx_HOMES : Addr} {fo_HOMES : Option Addr} {fn_HOMES : Nat} {fs_HOMES : Array (Option Value)} {ft_HOMES_0 : Tok} {ft_HOMES_1 : Tok} (fv_HOMES : PySem.W.nsIn K mainGlobals "HOMES" = some (some (.ref fx_HOMES))) (fl_HOMES : K.lookup fx_HOMES = some ⟨.type "tuple", fo_HOMES, .seq (List.toArray [.str "goal" ft_HOMES_0, .str "book" ft_HOMES_1]) fn_HOMES, fs_HOMES⟩)
    {ft_LETTERS : Tok} (fv_LETTERS : PySem.W.nsIn K mainGlobals "LETTERS" = some (some (.str "abcdefghijklmnopqrstuvwxyz" ft_LETTERS)))
    {ft_MOST_LETTERS : Tok} (fv_MOST_LETTERS : PySem.W.nsIn K mainGlobals "MOST_LETTERS" = some (some (.int 8 ft_MOST_LETTERS)))
    {fx_RELATIONS : Addr} {fo_RELATIONS : Option Addr} {fn_RELATIONS : Nat} {fs_RELATIONS : Array (Option Value)} {ft_RELATIONS_0 : Tok} {ft_RELATIONS_1 : Tok} {ft_RELATIONS_2 : Tok} (fv_RELATIONS : PySem.W.nsIn K mainGlobals "RELATIONS" = some (some (.ref fx_RELATIONS))) (fl_RELATIONS : K.lookup fx_RELATIONS = some ⟨.type "tuple", fo_RELATIONS, .seq (List.toArray [.str "eq" ft_RELATIONS_0, .str "lt" ft_RELATIONS_1, .str "gt" ft_RELATIONS_2]) fn_RELATIONS, fs_RELATIONS⟩)
    (z_abs : PySem.W.nsIn K mainGlobals "abs" = some none)
    (z_all : PySem.W.nsIn K mainGlobals "all" = some none)
    (z_bool : PySem.W.nsIn K mainGlobals "bool" = some none)
    (z_int : PySem.W.nsIn K mainGlobals "int" = some none)
    (z_isinstance : PySem.W.nsIn K mainGlobals "isinstance" = some none)
    (z_len : PySem.W.nsIn K mainGlobals "len" = some none)
    (z_list : PySem.W.nsIn K mainGlobals "list" = some none)
    (z_range : PySem.W.nsIn K mainGlobals "range" = some none)
    (z_repr : PySem.W.nsIn K mainGlobals "repr" = some none)
    (z_set : PySem.W.nsIn K mainGlobals "set" = some none)
    (z_sorted : PySem.W.nsIn K mainGlobals "sorted" = some none)
    (z_str : PySem.W.nsIn K mainGlobals "str" = some none)
    (z_sum : PySem.W.nsIn K mainGlobals "sum" = some none) :
    ∃ fd : FuncData, (∀ (s : Shared) (v : Value), BindsTo s fd ⟨[v], []⟩ [("_law_script", v)]) ∧ ∀ base : Heap, K.In base → base.Ns mainGlobals mg → SysAt base → FnG l.prog w K mg base CX0 4 fz fd ["_law_script"] (spP K 1 f_law) := by
  have ez := hfz.symm.trans (PySem.W.mg_of inK ns a17)
  cases ez
  have F1 := fun_mk (st := s__law_bag) l1 c1 k1
  have F2 := fun_mk (st := s__law_take) l2 c2 k2
  have F3 := fun_mk (st := s__law_some) l3 c3 k3
  have F4 := fun_mk (st := s__law_names) l4 c4 k4
  have F5 := fun_mk (st := s__law_listed) l5 c5 k5
  have F6 := fun_mk (st := s__law_near) l6 c6 k6
  have F7 := fun_mk (st := s__law_odd) l7 c7 k7
  have F8 := fun_mk (st := s__law_is_name) l8 c8 k8
  have F9 := fun_mk (st := s__law_rank) l9 c9 k9
  have F10 := fun_mk (st := s__law_fresh_right) l10 c10 k10
  have F11 := fun_mk (st := s_fresh) l11 c11 k11
  have F12 := fun_mk (st := s__law_alike) l12 c12 k12
  have F13 := fun_mk (st := s_is_integer) l13 c13 k13
  have F14 := fun_mk (st := s_is_name) l14 c14 k14
  have F15 := fun_mk (st := s_is_relation) l15 c15 k15
  have F16 := fun_mk (st := s_is_home) l16 c16 k16
  have F17 := fun_mk (st := s_law) l17 c17 k17
  refine ⟨PySem.W.fnOf "law" "law" (defArgs s_law) (defBody s_law) (defScope s_law) .none kV17 dc17 pm17 an17 cd17 ct17, fun s v => .of_eq rfl, fun base _ _ sy => ?_⟩
  have fa : Fa K w mg base := {
    sy := sy,
    v_HOMES := .ref fx_HOMES,
    u_HOMES := _,
    m_HOMES := PySem.W.mg_of inK ns fv_HOMES,
    r_HOMES := rfl,
    d_HOMES := fun F => .tup (xs := [.str "goal", .str "book"]) (.inr ⟨_, _, fn_HOMES, fl_HOMES, rfl, rfl, by show 2 ≤ sizeLine; decide, (.cons ⟨_, rfl⟩ (.cons ⟨_, rfl⟩ .nil))⟩) (.cons (.str _) (.cons (.str _) .nil)),
    v_LETTERS := .str "abcdefghijklmnopqrstuvwxyz",
    u_LETTERS := _,
    m_LETTERS := PySem.W.mg_of inK ns fv_LETTERS,
    r_LETTERS := ⟨_, rfl⟩,
    d_LETTERS := fun F => .str _,
    v_MOST_LETTERS := .int 8,
    u_MOST_LETTERS := _,
    m_MOST_LETTERS := PySem.W.mg_of inK ns fv_MOST_LETTERS,
    r_MOST_LETTERS := ⟨_, rfl⟩,
    d_MOST_LETTERS := fun F => .int _,
    v_RELATIONS := .ref fx_RELATIONS,
    u_RELATIONS := _,
    m_RELATIONS := PySem.W.mg_of inK ns fv_RELATIONS,
    r_RELATIONS := rfl,
    d_RELATIONS := fun F => .tup (xs := [.str "eq", .str "lt", .str "gt"]) (.inr ⟨_, _, fn_RELATIONS, fl_RELATIONS, rfl, rfl, by show 3 ≤ sizeLine; decide, (.cons ⟨_, rfl⟩ (.cons ⟨_, rfl⟩ (.cons ⟨_, rfl⟩ .nil)))⟩) (.cons (.str _) (.cons (.str _) (.cons (.str _) .nil))),
    b_abs := PySem.W.mg_none_of inK ns z_abs,
    b_all := PySem.W.mg_none_of inK ns z_all,
    b_bool := PySem.W.mg_none_of inK ns z_bool,
    b_int := PySem.W.mg_none_of inK ns z_int,
    b_isinstance := PySem.W.mg_none_of inK ns z_isinstance,
    b_len := PySem.W.mg_none_of inK ns z_len,
    b_list := PySem.W.mg_none_of inK ns z_list,
    b_range := PySem.W.mg_none_of inK ns z_range,
    b_repr := PySem.W.mg_none_of inK ns z_repr,
    b_set := PySem.W.mg_none_of inK ns z_set,
    b_sorted := PySem.W.mg_none_of inK ns z_sorted,
    b_str := PySem.W.mg_none_of inK ns z_str,
    b_sum := PySem.W.mg_none_of inK ns z_sum }
  have h__law_bag := has__law_bag (P := l.prog) (base := base) fa  ⟨_, _, F1, PySem.W.mg_of inK ns a1⟩
  have h__law_take := has__law_take (P := l.prog) (base := base) fa  ⟨_, _, F2, PySem.W.mg_of inK ns a2⟩
  have h__law_some := has__law_some (P := l.prog) (base := base) fa h__law_take ⟨_, _, F3, PySem.W.mg_of inK ns a3⟩
  have h__law_names := has__law_names (P := l.prog) (base := base) fa h__law_take ⟨_, _, F4, PySem.W.mg_of inK ns a4⟩
  have h__law_listed := has__law_listed (P := l.prog) (base := base) fa h__law_names h__law_take ⟨_, _, F5, PySem.W.mg_of inK ns a5⟩
  have h__law_near := has__law_near (P := l.prog) (base := base) fa h__law_take h__law_some ⟨_, _, F6, PySem.W.mg_of inK ns a6⟩
  have h__law_odd := has__law_odd (P := l.prog) (base := base) fa h__law_some ⟨_, _, F7, PySem.W.mg_of inK ns a7⟩
  have h__law_is_name := has__law_is_name (P := l.prog) (base := base) fa  ⟨_, _, F8, PySem.W.mg_of inK ns a8⟩
  have h__law_rank := has__law_rank (P := l.prog) (base := base) fa  ⟨_, _, F9, PySem.W.mg_of inK ns a9⟩
  have h__law_fresh_right := has__law_fresh_right (P := l.prog) (base := base) fa h__law_is_name h__law_rank ⟨_, _, F10, PySem.W.mg_of inK ns a10⟩
  have h_fresh := has_fresh (P := l.prog) (base := base) fa  ⟨_, _, F11, PySem.W.mg_of inK ns a11⟩
  have h__law_alike := has__law_alike (P := l.prog) (base := base) fa  ⟨_, _, F12, PySem.W.mg_of inK ns a12⟩
  have h_is_integer := has_is_integer (P := l.prog) (base := base) fa  ⟨_, _, F13, PySem.W.mg_of inK ns a13⟩
  have h_is_name := has_is_name (P := l.prog) (base := base) fa  ⟨_, _, F14, PySem.W.mg_of inK ns a14⟩
  have h_is_relation := has_is_relation (P := l.prog) (base := base) fa  ⟨_, _, F15, PySem.W.mg_of inK ns a15⟩
  have h_is_home := has_is_home (P := l.prog) (base := base) fa  ⟨_, _, F16, PySem.W.mg_of inK ns a16⟩
  exact ok_law fa h__law_bag h__law_some h__law_names h__law_near h__law_odd h__law_is_name h__law_alike h_is_integer h_is_name h_is_relation h_is_home h__law_listed h_fresh h__law_fresh_right F17
end T

-- needs: _law_bag _law_take
namespace T
open PySem L2 DL
/-! ### the bag -/
structure BagOk (bs : List D) : Prop where
  ex : ∃ (b0 b1 b2 : Int) (cs : List Int), bs = [.int b0, .int b1, .int b2, .lst (cs.map D.int)] ∧ 0 ≤ b0 ∧ 0 ≤ b1 ∧ b1 < 2147483647 ∧ 0 ≤ b2 ∧ (∀ c ∈ cs, 0 ≤ c) ∧ cs.length ≤ 63
set_option maxHeartbeats 2000000 in
theorem take1 (b0 b1 b2 n : Int) (cs : List Int) (h0 : 0 < b0) (hn : 0 < n) (hn2 : n < 1073741824) : f__law_take [.int b0, .int b1, .int b2, .lst (cs.map D.int)] [.int n] = some (.sh (.int (b0 % n)), [.int (b0 / n), .int b1, .int b2, .lst (cs.map D.int)]) := by
  have e0 : b0 ≠ 0 := by omega
  simp [f__law_take, m__law_take, fnB, fnP, Rs.noE, startE, seqS, ifS, thenS, toB, op2, opN, op1, Opd.run, fill, lookV, look, Rs.bind, Rs.map, ofO, cD, vD, semIx, semEq, semNe, eqB, D.sc, D.asB, atI, ixN, semGt, semGe, semLt, semLe, setS, putS, DL.putF, shD, frzD, mvD, rtS, chgS, fillW, OV.lst?, OV.d, nxS, runs, looks, semInt, semMod, semFdiv, semAdd, semSub, semMul, semAbs, semLen, semTuple, semList, lstD, tupD, evs, callP, callB, slD, poN, poS, semSl, D.asI, appS, appF, extS, extF, augS, augF, exS, ifD, andT, orT, notT, notD, andD, orD, par2, par3, asgS, gN, gT, gsCons, gsNil, forD, rg1, rg2, itA, D.items, zpD, zip2, zipD, lcD, yesT, wipeE, m1D, tabD, semIs, semIsNot, D.isN, semAt, semIn2, semNotIn2, inB2, toT, orV, andV, notV, D.tru, chD, isiD, D.isi, D.ty, isTy, D.key, evPs, dicD, semDict, pairD, mergeD, putD, valD, semRepr, callL, op2O, slO, opNO, lrgO, OV.flt, D.flt, semAddL, semMulL, semListL, mLD, popF, popS, insF, insS, clrS, revO, e0, h0, hn, hn2]
set_option maxHeartbeats 4000000 in
theorem take0 (b1 b2 n : Int) (cs : List Int) (h1 : 0 ≤ b1) (h2 : b1 < 2147483647) (hb2 : 0 ≤ b2) (hc : ∀ c ∈ cs, 0 ≤ c) (hl : cs.length ≤ 63) (hn : 0 < n) (hn2 : n < 1073741824) :
    ∃ v bs', f__law_take [.int 0, .int b1, .int b2, .lst (cs.map D.int)] [.int n] = some (.sh (.int v), bs') ∧ 0 ≤ v ∧ v < n ∧ BagOk bs' := by
  obtain ⟨c, hcell, hc0⟩ : ∃ c : Int, (∃ rest, ((cutL cs (some b2) none).map D.int) ++ [D.int 0] = D.int c :: rest) ∧ 0 ≤ c := by
    cases e : cutL cs (some b2) none with
    | nil => exact ⟨0, ⟨[], rfl⟩, Int.le_refl 0⟩
    | cons c r => exact ⟨c, ⟨_, rfl⟩, hc c (cutL_mem (lo := some b2) (hi := none) (by rw [e]; exact List.mem_cons_self ..))⟩
  have hlen : (cutL cs (some b2) none).length + 1 ≤ 1000000 := by have := cutL_len cs (some b2) none; omega
  obtain ⟨rest, hcell⟩ := hcell
  have hm1 : -18446744073709551616 < b1 ∧ b1 < 18446744073709551616 := by omega
  have hm2 : -18446744073709551616 < b1 + 1 ∧ b1 + 1 < 18446744073709551616 := by omega
  have mix : ∀ x : Int, 0 ≤ x % 2147483647 ∧ x % 2147483647 < 2147483647 := fun x => ⟨Int.emod_nonneg _ (by decide), Int.emod_lt_of_pos _ (by decide)⟩
  by_cases hbig : 1000000000000000000 ≤ c
  · have hc1 : c ≠ 0 := by omega
    have hc2 : 0 < c := by omega
    refine ⟨c % n, [.int (c / n), .int ((b1 * 48271 + c % 2147483647 + 7919 * (b2 + 1)) % 2147483647), .int (b2 + 1), .lst (cs.map D.int)], ?_, Int.emod_nonneg _ (by omega), Int.emod_lt_of_pos _ hn, ⟨_, _, _, _, rfl, Int.ediv_nonneg (by omega) (by omega), (mix _).1, (mix _).2, by omega, hc, hl⟩⟩
    simp [f__law_take, m__law_take, fnB, fnP, Rs.noE, startE, seqS, ifS, thenS, toB, op2, opN, op1, Opd.run, fill, lookV, look, Rs.bind, Rs.map, ofO, cD, vD, semIx, semEq, semNe, eqB, D.sc, D.asB, atI, ixN, semGt, semGe, semLt, semLe, setS, putS, DL.putF, shD, frzD, mvD, rtS, chgS, fillW, OV.lst?, OV.d, nxS, runs, looks, semInt, semMod, semFdiv, semAdd, semSub, semMul, semAbs, semLen, semTuple, semList, lstD, tupD, evs, callP, callB, slD, poN, poS, semSl, D.asI, appS, appF, extS, extF, augS, augF, exS, ifD, andT, orT, notT, notD, andD, orD, par2, par3, asgS, gN, gT, gsCons, gsNil, forD, rg1, rg2, itA, D.items, zpD, zip2, zipD, lcD, yesT, wipeE, m1D, tabD, semIs, semIsNot, D.isN, semAt, semIn2, semNotIn2, inB2, toT, orV, andV, notV, D.tru, chD, isiD, D.isi, D.ty, isTy, D.key, evPs, dicD, semDict, pairD, mergeD, putD, valD, semRepr, callL, op2O, slO, opNO, lrgO, OV.flt, D.flt, semAddL, semMulL, semListL, mLD, popF, popS, insF, insS, clrS, revO, cutL_map, hcell, hlen, hbig, hc1, hc2, hn, hn2, hm1]
  · have hbig' : ¬ 1000000000000000000 ≤ c := hbig
    have key : ∀ x : Int, 0 ≤ x → x < 2147483647 → (-18446744073709551616 < x + 1 ∧ x + 1 < 18446744073709551616) := fun x a b => by omega
    have hq := mix (b1 * 48271 + c % 2147483647 + 7919 * (b2 + 1))
    generalize hm : (b1 * 48271 + c % 2147483647 + 7919 * (b2 + 1)) % 2147483647 = m at hq
    have g1 : ∀ x : Int, (-18446744073709551616 < x % 1000000007 ∧ x % 1000000007 < 18446744073709551616) := fun x => by omega
    have g2 : ∀ x : Int, (-18446744073709551616 < x % 998244353 ∧ x % 998244353 < 18446744073709551616) := fun x => by omega
    refine ⟨(((((m + 1) * 39373) % 1000000007 * (((m + 1) * 39373) % 1000000007)) % 998244353 * 30011) % 998244353 / 7) % n, [.int 0, .int m, .int (b2 + 1), .lst (cs.map D.int)], ?_, Int.emod_nonneg _ (by omega), Int.emod_lt_of_pos _ hn, ⟨_, _, _, _, rfl, Int.le_refl 0, hq.1, hq.2, by omega, hc, hl⟩⟩
    simp [f__law_take, m__law_take, fnB, fnP, Rs.noE, startE, seqS, ifS, thenS, toB, op2, opN, op1, Opd.run, fill, lookV, look, Rs.bind, Rs.map, ofO, cD, vD, semIx, semEq, semNe, eqB, D.sc, D.asB, atI, ixN, semGt, semGe, semLt, semLe, setS, putS, DL.putF, shD, frzD, mvD, rtS, chgS, fillW, OV.lst?, OV.d, nxS, runs, looks, semInt, semMod, semFdiv, semAdd, semSub, semMul, semAbs, semLen, semTuple, semList, lstD, tupD, evs, callP, callB, slD, poN, poS, semSl, D.asI, appS, appF, extS, extF, augS, augF, exS, ifD, andT, orT, notT, notD, andD, orD, par2, par3, asgS, gN, gT, gsCons, gsNil, forD, rg1, rg2, itA, D.items, zpD, zip2, zipD, lcD, yesT, wipeE, m1D, tabD, semIs, semIsNot, D.isN, semAt, semIn2, semNotIn2, inB2, toT, orV, andV, notV, D.tru, chD, isiD, D.isi, D.ty, isTy, D.key, evPs, dicD, semDict, pairD, mergeD, putD, valD, semRepr, callL, op2O, slO, opNO, lrgO, OV.flt, D.flt, semAddL, semMulL, semListL, mLD, popF, popS, insF, insS, clrS, revO, cutL_map, hcell, hlen, hbig, hn, hn2, hm1, hm, key m hq.1 hq.2, g1, g2]
theorem take_ok {bs : List D} (h : BagOk bs) {n : Int} (hn : 0 < n) (hn2 : n < 1073741824) : ∃ v bs', f__law_take bs [.int n] = some (.sh (.int v), bs') ∧ 0 ≤ v ∧ v < n ∧ BagOk bs' := by
  obtain ⟨b0, b1, b2, cs, rfl, h0, h1, h2, h3, h4, h5⟩ := h.ex
  by_cases e : b0 = 0
  · subst e
    exact take0 b1 b2 n cs h1 h2 h3 h4 h5 hn hn2
  · exact ⟨_, _, take1 b0 b1 b2 n cs (by omega) hn hn2, Int.emod_nonneg _ (by omega), Int.emod_lt_of_pos _ hn, ⟨_, _, _, _, rfl, Int.ediv_nonneg h0 (by omega), h1, h2, h3, h4, h5⟩⟩
/-! ### the bag made -/
set_option maxHeartbeats 2000000 in
theorem bag_ok (ns : List Int) : ∃ bs, f__law_bag [.scr ns] = some (.ow bs) ∧ BagOk bs := by
  have e := lcS_map (vs := [1]) (h := gN 1) (t := yesT) (elt := opN [.va 1] semAbs) (fun _ => true) (fun d => match d with | .int i => .int (if i < 0 then -i else i) | d => d) [some (.sh (.scr ns)), none] ((cutL ns none (some 63)).map D.int) (fun d hd => by
    obtain ⟨c, _, rfl⟩ := List.mem_map.mp hd
    refine ⟨[some (.sh (.scr ns)), some (.sh (.int c))], [some (.sh (.scr ns)), some (.sh (.int c))], rfl, rfl, rfl, fun _ => ⟨[some (.sh (.scr ns)), some (.sh (.int c))], ?_, rfl⟩⟩
    simp [fnB, fnP, Rs.noE, startE, seqS, ifS, thenS, toB, op2, opN, op1, Opd.run, fill, lookV, look, Rs.bind, Rs.map, ofO, cD, vD, semIx, semEq, semNe, eqB, D.sc, D.asB, atI, ixN, semGt, semGe, semLt, semLe, setS, putS, DL.putF, shD, frzD, mvD, rtS, chgS, fillW, OV.lst?, OV.d, nxS, runs, looks, semInt, semMod, semFdiv, semAdd, semSub, semMul, semAbs, semLen, semTuple, semList, lstD, tupD, evs, callP, callB, slD, poN, poS, semSl, D.asI, appS, appF, extS, extF, augS, augF, exS, ifD, andT, orT, notT, notD, andD, orD, par2, par3, asgS, gN, gT, gsCons, gsNil, forD, rg1, rg2, itA, D.items, zpD, zip2, zipD, lcD, yesT, wipeE, m1D, tabD, semIs, semIsNot, D.isN, semAt, semIn2, semNotIn2, inB2, toT, orV, andV, notV, D.tru, chD, isiD, D.isi, D.ty, isTy, D.key, evPs, dicD, semDict, pairD, mergeD, putD, valD, semRepr, callL, op2O, slO, opNO, lrgO, OV.flt, D.flt, semAddL, semMulL, semListL, mLD, popF, popS, insF, insS, clrS, revO])
  have hl : (cutL ns none (some 63)).length ≤ 63 := by
    unfold cutL
    rw [List.length_take, HT.sIx_none, show HT.sIx ns.length ns.length (some 63) = min 63 ns.length from HT.sIx_nat ns.length ns.length 63]
    omega
  have hl2 : (cutL ns none (some 63)).length ≤ 1000000 := by omega
  refine ⟨[.int 0, .int 1234567891, .int 0, .lst (((cutL ns none (some 63)).map fun i => if i < 0 then -i else i).map D.int)], ?_, ⟨0, 1234567891, 0, _, rfl, Int.le_refl 0, by decide, by decide, Int.le_refl 0, fun c hc => ?_, by rw [List.length_map]; exact hl⟩⟩
  · have e2 : List.map (fun d => match d with | .int i => D.int (if i < 0 then -i else i) | d => d) ((List.map D.int (cutL ns none (some 63))).filter fun _ => true) = ((cutL ns none (some 63)).map fun i => if i < 0 then -i else i).map D.int := by
      rw [List.filter_eq_self.mpr (fun _ _ => rfl), List.map_map, List.map_map]
      rfl
    rw [e2] at e
    have e1 : lcS [1] (gN 1) yesT (opN [.va 1] semAbs) ((cutL ns none (some 63)).map D.int) (some (.sh (.scr ns)) :: [none]) = .ok (((cutL ns none (some 63)).map fun i => if i < 0 then -i else i).map D.int) (some (.sh (.scr ns)) :: [none]) := e
    simp only [f__law_bag, m__law_bag, lc__law_bag_1, it__law_bag_1, el__law_bag_1, fnP, startE, rtS, thenS, lstD, evs, cD, Rs.bind, frzD, lcD, itA, slD, poN, poS, Opd.run, fill, look, lookV, ofO, semSl, D.asI, D.items, Rs.map, OV.d, List.map_cons, List.map_nil, List.length_cons, List.length_nil, List.replicate, List.cons_append, List.nil_append, List.getElem?_cons_zero, Option.bind_some, Option.map_some, List.length_map, Nat.sub_self, Nat.add_sub_cancel, Nat.zero_add, Nat.reduceSub, hl2, if_true, e1, wipeE, List.set_cons_succ, List.set_cons_zero]
    rfl
  · obtain ⟨i, _, rfl⟩ := List.mem_map.mp hc
    show 0 ≤ if i < 0 then -i else i
    split <;> omega

/-! ### names -/
abbrev LET : Str := "abcdefghijklmnopqrstuvwxyz"
abbrev WST : Str := "at as last like all name book goal with turn part drop call copy chain close eq lt gt put"
def WRD : List Str := ["at", "as", "last", "like", "all", "name", "book", "goal", "with", "turn", "part", "drop", "call", "copy", "chain", "close", "eq", "lt", "gt", "put"]
theorem let_codes : LET.cps.toList = (List.range 26).map (97 + ·) := by decide +kernel
theorem let_len : LET.length = 26 := by decide +kernel
theorem wst_split : Txt.split WST " " = WRD := by decide +kernel
theorem wst_len : WST.length ≤ 1000000 := by decide +kernel
theorem let_index : ∀ k : Fin 26, Builtin.Str.occurrences LET ⟨#[97 + k.val]⟩ 0 LET.length 1 = [k.val] := by decide +kernel
structure NameOk (x : Str) : Prop where
  pos : 0 < x.length
  most : x.length ≤ 8
  low : ∀ c ∈ x.cps.toList, 97 ≤ c ∧ c ≤ 122
def nameB (x : Str) : Bool := decide (0 < x.length) && decide (x.length ≤ 8) && x.cps.toList.all fun c => decide (97 ≤ c) && decide (c ≤ 122)
theorem nameB_ok {x : Str} (h : nameB x = true) : NameOk x := by
  unfold nameB at h
  simp only [Bool.and_eq_true, decide_eq_true_eq, List.all_eq_true] at h
  exact ⟨h.1.1, h.1.2, h.2⟩
theorem wrd_ok : ∀ x ∈ WRD, NameOk x := by
  have : WRD.all nameB = true := by decide +kernel
  exact fun x hx => nameB_ok (List.all_eq_true.mp this x hx)
theorem NameOk.fit {x : Str} (h : NameOk x) : (D.str x).fit = true := fit_str fun c hc => by have := h.low c hc; omega
theorem NameOk.pl {x : Str} (h : NameOk x) : (D.str x).pl = true := pl_of_fit h.fit
end T

-- needs: _law_names
namespace T
open PySem L2 DL
/-! ### one turn of names -/
def one (c : Nat) : Str := ⟨#[c]⟩
/-- the environment of names: the bag, how many, the names so far, the other slots -/
def envN (bs : List D) (m : Int) (xs : List Str) (o5 o6 o7 o8 o9 o10 o11 : Option OV) : En :=
  [some (.ow bs), some (.sh (.int m)), some (.sh (.str LET)), some (.ow (xs.map D.str)), some (.sh (.lst (WRD.map D.str))), o5, o6, o7, o8, o9, o10, o11]
theorem let_at {v : Int} (h0 : 0 ≤ v) (h : v < 26) : atI LET.cps.toList v = some (97 + v.toNat) := by
  have hl : LET.cps.toList.length = 26 := by rw [let_codes]; rfl
  unfold atI ixN
  rw [hl, if_pos h0, if_pos (show v < ((26 : Nat) : Int) from h)]
  show LET.cps.toList[v.toNat]? = _
  rw [let_codes, List.getElem?_map, List.getElem?_range (by omega)]
  rfl
set_option maxHeartbeats 2000000 in
/-- a sign drawn -/
theorem sign_ok {bs : List D} (hb : BagOk bs) (m : Int) (xs : List Str) (o5 o6 o7 o8 o9 o10 o11 : Option OV) :
    ∃ c bs', el__law_names_1 (envN bs m xs o5 o6 o7 o8 o9 o10 o11) = .ok (.str (one c)) (envN bs' m xs o5 o6 o7 o8 o9 o10 o11) ∧ 97 ≤ c ∧ c ≤ 122 ∧ BagOk bs' := by
  obtain ⟨v, bs', e, h0, h1, hb'⟩ := take_ok hb (n := 26) (by decide) (by decide)
  have hi := let_at h0 h1
  refine ⟨97 + v.toNat, bs', ?_, by omega, by omega, hb'⟩
  simp only [el__law_names_1, envN, fnB, fnP, Rs.noE, startE, seqS, ifS, thenS, toB, op2, opN, op1, Opd.run, fill, lookV, look, Rs.bind, Rs.map, ofO, cD, vD, D.asB, semGt, semGe, semLt, semLe, setS, putS, DL.putF, shD, frzD, mvD, rtS, chgS, fillW, OV.lst?, OV.d, nxS, runs, looks, semInt, semMod, semFdiv, semAdd, semSub, semMul, semAbs, semLen, semTuple, semList, lstD, tupD, evs, callP, callB, slD, poN, poS, semSl, D.asI, appS, appF, extS, extF, augS, augF, exS, ifD, andT, orT, notT, notD, andD, orD, par2, par3, asgS, gN, gT, gsCons, gsNil, forD, rg1, rg2, itA, zpD, zip2, zipD, lcD, yesT, wipeE, m1D, tabD, semIs, semIsNot, D.isN, toT, orV, andV, notV, D.tru, chD, isiD, D.key, evPs, dicD, semDict, pairD, semRepr, callL, op2O, slO, opNO, lrgO, OV.flt, D.flt, semAddL, semMulL, semListL, mLD, popF, popS, insF, insS, clrS, revO, Rs.noE, List.map_cons, List.map_nil, List.length_cons, List.length_nil, List.length_map, List.replicate, List.cons_append, List.nil_append, List.append_nil, List.getElem?_cons_zero, List.getElem?_cons_succ, List.set_cons_zero, List.set_cons_succ, Option.bind_some, Option.bind_none, Option.map_some, Option.map_none, Nat.zero_add, Nat.add_zero, Nat.reduceAdd, Nat.reduceSub, Nat.sub_self, Nat.reduceLeDiff, Nat.reduceEqDiff, Nat.le_refl, Nat.add_sub_cancel, if_true, if_false, Bool.false_eq_true, Bool.not_true, Bool.not_false, Bool.not_not, reduceIte, reduceCtorEq, and_self, and_true, true_and, decide_true, decide_false, semEq_str, semNe_str, semEq_int, semNe_int, semEq_bl, semNe_bl, atI0, atI1, atI2, atI3, atI4, OkS_nx, post_ok, items_lst, items_tup, semAt_lst, semAt_tup, semAt_str, semAt_dic, e, let_len, hi]
  rfl
set_option maxHeartbeats 2000000 in
theorem signs_ok {bs : List D} (hb : BagOk bs) (m : Int) (xs : List Str) (o5 o6 o7 o8 o9 o10 o11 : Option OV) :
    ∃ (cs : List Nat) (bs' : List D), lc__law_names_1 (envN bs m xs o5 o6 o7 o8 o9 o10 o11) = .ok (.ow (cs.map fun c => D.str (one c))) (envN bs' m xs o5 o6 none o8 o9 o10 o11) ∧ 0 < cs.length ∧ cs.length ≤ 8 ∧ cs.length ≠ 5 ∧ (∀ c ∈ cs, 97 ≤ c ∧ c ≤ 122) ∧ BagOk bs' := by
  obtain ⟨v, b1, e, h0, h1, hb1⟩ := take_ok hb (n := 4) (by decide) (by decide)
  obtain ⟨n, hn, hn1, hn2, hn5⟩ : ∃ n : Int, atI [D.int 1, D.int 2, D.int 8, D.int 4] v = some (.int n) ∧ 1 ≤ n ∧ n ≤ 8 ∧ n ≠ 5 := by
    have : v = 0 ∨ v = 1 ∨ v = 2 ∨ v = 3 := by omega
    rcases this with rfl | rfl | rfl | rfl
    · exact ⟨1, rfl, by decide, by decide, by decide⟩
    · exact ⟨2, rfl, by decide, by decide, by decide⟩
    · exact ⟨8, rfl, by decide, by decide, by decide⟩
    · exact ⟨4, rfl, by decide, by decide, by decide⟩
  have ei : it__law_names_1 (envN bs m xs o5 o6 o7 o8 o9 o10 o11) = .ok (rangeD 0 n.toNat) (envN b1 m xs o5 o6 o7 o8 o9 o10 o11) := by
    have hc : -1000000 ≤ n ∧ n ≤ 1000000 := by omega
    simp only [it__law_names_1, envN, fnB, fnP, Rs.noE, startE, seqS, ifS, thenS, toB, op2, opN, op1, Opd.run, fill, lookV, look, Rs.bind, Rs.map, ofO, cD, vD, D.asB, semGt, semGe, semLt, semLe, setS, putS, DL.putF, shD, frzD, mvD, rtS, chgS, fillW, OV.lst?, OV.d, nxS, runs, looks, semInt, semMod, semFdiv, semAdd, semSub, semMul, semAbs, semLen, semTuple, semList, lstD, tupD, evs, callP, callB, slD, poN, poS, semSl, D.asI, appS, appF, extS, extF, augS, augF, exS, ifD, andT, orT, notT, notD, andD, orD, par2, par3, asgS, gN, gT, gsCons, gsNil, forD, rg1, rg2, itA, zpD, zip2, zipD, lcD, yesT, wipeE, m1D, tabD, semIs, semIsNot, D.isN, toT, orV, andV, notV, D.tru, chD, isiD, D.key, evPs, dicD, semDict, pairD, semRepr, callL, op2O, slO, opNO, lrgO, OV.flt, D.flt, semAddL, semMulL, semListL, mLD, popF, popS, insF, insS, clrS, revO, Rs.noE, List.map_cons, List.map_nil, List.length_cons, List.length_nil, List.length_map, List.replicate, List.cons_append, List.nil_append, List.append_nil, List.getElem?_cons_zero, List.getElem?_cons_succ, List.set_cons_zero, List.set_cons_succ, Option.bind_some, Option.bind_none, Option.map_some, Option.map_none, Nat.zero_add, Nat.add_zero, Nat.reduceAdd, Nat.reduceSub, Nat.sub_self, Nat.reduceLeDiff, Nat.reduceEqDiff, Nat.le_refl, Nat.add_sub_cancel, if_true, if_false, Bool.false_eq_true, Bool.not_true, Bool.not_false, Bool.not_not, reduceIte, reduceCtorEq, and_self, and_true, true_and, decide_true, decide_false, semEq_str, semNe_str, semEq_int, semNe_int, semEq_bl, semNe_bl, atI0, atI1, atI2, atI3, atI4, OkS_nx, post_ok, items_lst, items_tup, semAt_lst, semAt_tup, semAt_str, semAt_dic, e, hn, hc]
  obtain ⟨ys, r', e1, e2, e3, e4⟩ := lcD_inv (vs := [7]) (h := gN 7) (elt := el__law_names_1)
    (fun r => ∃ b, r = envN b m xs o5 o6 none o8 o9 o10 o11 ∧ BagOk b) (fun y => ∃ c, y = .str (one c) ∧ 97 ≤ c ∧ c ≤ 122) ei (by rw [rangeD_len]; omega) ⟨b1, rfl, hb1⟩ (by rintro r ⟨b, rfl, _⟩; rfl) (by
      rintro d _ r ⟨b, rfl, hb⟩
      obtain ⟨c, b', e5, c1, c2, hb'⟩ := sign_ok hb m xs o5 o6 (some (.sh d)) o8 o9 o10 o11
      exact ⟨envN b m xs o5 o6 (some (.sh d)) o8 o9 o10 o11, _, _, rfl, e5, ⟨c, rfl, c1, c2⟩, b', rfl, hb'⟩)
  obtain ⟨b', rfl, hb'⟩ := e4
  have hl : ys.length = n.toNat := by rw [e2, rangeD_len]
  obtain ⟨cs, rfl, hcs⟩ : ∃ cs : List Nat, ys = cs.map (fun c => D.str (one c)) ∧ ∀ c ∈ cs, 97 ≤ c ∧ c ≤ 122 := by
    clear e1 e2 hl
    induction ys with
    | nil => exact ⟨[], rfl, fun _ z => absurd z List.not_mem_nil⟩
    | cons y ys ih =>
      obtain ⟨c, rfl, c1, c2⟩ := e3 y (List.mem_cons_self ..)
      obtain ⟨cs, rfl, h⟩ := ih fun z hz => e3 z (List.mem_cons_of_mem _ hz)
      refine ⟨c :: cs, rfl, fun z hz => ?_⟩
      rcases List.mem_cons.mp hz with rfl | hz
      · exact ⟨c1, c2⟩
      · exact h z hz
  rw [List.length_map] at hl
  exact ⟨cs, b', e1, by omega, by omega, by omega, hcs, hb'⟩
theorem join_codes : ∀ cs : List Nat, (Txt.join "" (cs.map one)).cps.toList = cs := by
  have key : ∀ cs : List Nat, (Str.join "" (cs.map one)).cps.toList = cs := by
    intro cs
    induction cs with
    | nil => rfl
    | cons c cs ih =>
      cases cs with
      | nil => rfl
      | cons d ds =>
        have ih : (Str.join "" (one d :: ds.map one)).cps.toList = d :: ds := ih
        show ((one c ++ ("" : Str)) ++ Str.join "" (one d :: ds.map one)).cps.toList = _
        have e : ∀ a b : Str, (a ++ b).cps.toList = a.cps.toList ++ b.cps.toList := fun a b => by
          show (a.cps ++ b.cps).toList = _
          simp
        rw [e, e, ih]
        rfl
  intro cs
  have e : Txt.join ("" : Str) (cs.map one) = Str.join ("" : Str) (cs.map one) := PySem.StrLaws.glued_eq_join _ _
  rw [e]
  exact key cs
theorem app_codes (a b : Str) : (a ++ b).cps.toList = a.cps.toList ++ b.cps.toList := by
  show (a.cps ++ b.cps).toList = _
  simp
theorem len_codes (a : Str) : a.length = a.cps.toList.length := by
  show a.cps.size = _
  simp
/-- the letters from one on, round -/
def rot (k : Nat) : Str := cutS LET (some (k : Int)) none ++ cutS LET none (some (k : Int))
theorem rot_ok : ∀ k : Fin 26, (rot k.val).cps.toList.Nodup ∧ (rot k.val).length = 26 ∧ ((rot k.val).cps.toList.all fun c => decide (97 ≤ c) && decide (c ≤ 122)) = true ∧ (cutS LET (some (k.val : Int)) none).length + (cutS LET none (some (k.val : Int))).length ≤ 1000000 := by decide +kernel
set_option maxHeartbeats 2000000 in
theorem par_ok {bs : List D} (m : Int) (xs : List Str) (o5 o7 o8 o9 o10 o11 : Option OV) (c : Nat) (cs : List Nat) (h1 : 97 ≤ c) (h2 : c ≤ 122) (hl : cs.length ≤ 7) :
    par2 8 9 (m1D (.va 2) (.ex (op2 (.va 6) (.ex (cD (.int 0))) semAt)) semSIndex) (shD (m1D (.ex (cD (.str ""))) (.ex (slD (.va 6) (poS (cD (.int 1))) poN semSl)) semJoin)) (envN bs m xs o5 (some (.sh (.lst ((c :: cs).map fun c => D.str (one c))))) o7 o8 o9 o10 o11)
      = .nx (envN bs m xs o5 (some (.sh (.lst ((c :: cs).map fun c => D.str (one c))))) o7 (some (.sh (.int ((c - 97 : Nat) : Int)))) (some (.sh (.str (Txt.join "" (cs.map one))))) o10 o11) := by
  have ho : Builtin.Str.occurrences LET (one c) 0 LET.length 1 = [c - 97] := by
    have := let_index ⟨c - 97, by omega⟩
    have e : 97 + (c - 97) = c := by omega
    simp only [e] at this
    exact this
  have hcut : cutL ((c :: cs).map fun c => D.str (one c)) (some 1) none = (cs.map one).map D.str := by
    unfold cutL
    rw [show HT.sIx ((c :: cs).map fun c => D.str (one c)).length 0 (some 1) = min 1 ((c :: cs).map fun c => D.str (one c)).length from HT.sIx_nat _ 0 1, HT.sIx_none, List.map_map]
    have hm : min 1 ((c :: cs).map fun c => D.str (one c)).length = 1 := by rw [List.length_map, List.length_cons]; omega
    rw [hm, List.length_map, List.length_cons, Nat.add_sub_cancel]
    show List.take cs.length (cs.map fun c => D.str (one c)) = _
    rw [List.take_of_length_le (by rw [List.length_map]; exact Nat.le_refl _)]
    rfl
  have hj : ((cs.map one).map (·.length)).sum + (cs.map one).length * (Str.ofString "").length ≤ 1000000 := by
    have e1 : ∀ l : List Nat, ((l.map one).map (·.length)).sum = l.length := fun l => by
      induction l with
      | nil => rfl
      | cons a l ih =>
        rw [List.map_cons, List.map_cons, List.sum_cons, ih, List.length_cons]
        show 1 + _ = _
        omega
    rw [e1, show (Str.ofString "").length = 0 by decide +kernel]
    omega
  have hst := strsOf_map (cs.map one)
  have hat : atI ((c :: cs).map fun c => D.str (one c)) 0 = some (.str (one c)) := atI_nat (j := 0) rfl
  simp only [par2, thenS, m1D, Opd.run, fill, envN, Rs.bind, look, lookV, op2, cD, ofO, Rs.map, OV.d, semAt, semIx, hat, semSIndex, ho, shD, slD, poS, poN, D.asI, semSl, hcut, semJoin, hst, hj, List.getElem?_cons_zero, List.getElem?_cons_succ, Option.bind_some, Option.map_some, List.set_cons_succ, List.set_cons_zero, if_true]
/-- the names from which the next one is taken -/
def cands (w : Bool) (k : Nat) (rest : Str) : List Str := (if w then cutL WRD (some (k : Int)) none else []) ++ (rot k).cps.toList.map fun c => one c ++ rest
theorem signs_eq (x : Str) : signs x = x.cps.toList.map fun c => D.str (one c) := rfl
/-- what is stored as the names to choose from -/
def step10 : En → SRs := setS 10 (shD (op2 (.ex (op2 (.ex (slD (.va 4) (poS (vD 8)) poN semSl)) (.ex (opN [(.ex (op2 (.ex (frzD (callB 1 f__law_take 0 [(cD (.int 8))]))) (.ex (cD (.int 0))) semEq))] semInt)) semMul)) (.ex (frzD lc__law_names_2)) semAdd))
set_option maxHeartbeats 4000000 in
theorem cands_ok {bs : List D} (hb : BagOk bs) (m : Int) (xs : List Str) (o5 o6 o7 o10 o11 : Option OV) (k : Nat) (hk : k < 26) (rest : Str) (hr : rest.length ≤ 7) :
    ∃ w bs', step10 (envN bs m xs o5 o6 o7 (some (.sh (.int k))) (some (.sh (.str rest))) o10 o11) = .nx (envN bs' m xs o5 o6 o7 (some (.sh (.int k))) (some (.sh (.str rest))) (some (.sh (.lst ((cands w k rest).map D.str)))) none) ∧ BagOk bs' := by
  obtain ⟨v, b1, e, h0, h1, hb1⟩ := take_ok hb (n := 8) (by decide) (by decide)
  obtain ⟨rn, rl, rc, rz⟩ := rot_ok ⟨k, hk⟩
  have hlet : LET.length ≤ 1000000 := by rw [let_len]; decide
  have hrot : (rot k).length ≤ 1000000 := by
    have : (rot k).length = 26 := rl
    omega
  have hW : (cutL (WRD.map D.str) (some (k : Int)) none) = (cutL WRD (some (k : Int)) none).map D.str := cutL_map _ _ _ _
  have hWl : (cutL WRD (some (k : Int)) none).length ≤ 20 := cutL_len _ _ _
  have eA : op2 (.ex (slD (.va 4) (poS (vD 8)) poN semSl)) (.ex (opN [(.ex (op2 (.ex (frzD (callB 1 f__law_take 0 [(cD (.int 8))]))) (.ex (cD (.int 0))) semEq))] semInt)) semMul (envN bs m xs o5 o6 o7 (some (.sh (.int k))) (some (.sh (.str rest))) o10 o11)
      = .ok (.lst ((if decide (v = 0) then cutL WRD (some (k : Int)) none else []).map D.str)) (envN b1 m xs o5 o6 o7 (some (.sh (.int k))) (some (.sh (.str rest))) o10 o11) := by
    have hl2 : (cutL WRD (some (k : Int)) none).length ≤ 1000 := by omega
    by_cases hv : v = 0
    · subst hv
      simp [envN, fnB, fnP, Rs.noE, startE, seqS, ifS, thenS, toB, op2, opN, op1, Opd.run, fill, lookV, look, Rs.bind, Rs.map, ofO, cD, vD, semIx, semEq, semNe, eqB, D.sc, D.asB, atI, ixN, semGt, semGe, semLt, semLe, setS, putS, DL.putF, shD, frzD, mvD, rtS, chgS, fillW, OV.lst?, OV.d, nxS, runs, looks, semInt, semMod, semFdiv, semAdd, semSub, semMul, semAbs, semLen, semTuple, semList, lstD, tupD, evs, callP, callB, slD, poN, poS, semSl, D.asI, appS, appF, extS, extF, augS, augF, exS, ifD, andT, orT, notT, notD, andD, orD, par2, par3, asgS, gN, gT, gsCons, gsNil, forD, rg1, rg2, itA, D.items, zpD, zip2, zipD, lcD, yesT, wipeE, m1D, tabD, semIs, semIsNot, D.isN, semAt, semIn2, semNotIn2, inB2, toT, orV, andV, notV, D.tru, chD, isiD, D.isi, D.ty, isTy, D.key, evPs, dicD, semDict, pairD, mergeD, putD, valD, semRepr, callL, op2O, slO, opNO, lrgO, OV.flt, D.flt, semAddL, semMulL, semListL, mLD, popF, popS, insF, insS, clrS, revO, e, hW, hl2, List.length_map]
    · simp [envN, fnB, fnP, Rs.noE, startE, seqS, ifS, thenS, toB, op2, opN, op1, Opd.run, fill, lookV, look, Rs.bind, Rs.map, ofO, cD, vD, semIx, semEq, semNe, eqB, D.sc, D.asB, atI, ixN, semGt, semGe, semLt, semLe, setS, putS, DL.putF, shD, frzD, mvD, rtS, chgS, fillW, OV.lst?, OV.d, nxS, runs, looks, semInt, semMod, semFdiv, semAdd, semSub, semMul, semAbs, semLen, semTuple, semList, lstD, tupD, evs, callP, callB, slD, poN, poS, semSl, D.asI, appS, appF, extS, extF, augS, augF, exS, ifD, andT, orT, notT, notD, andD, orD, par2, par3, asgS, gN, gT, gsCons, gsNil, forD, rg1, rg2, itA, D.items, zpD, zip2, zipD, lcD, yesT, wipeE, m1D, tabD, semIs, semIsNot, D.isN, semAt, semIn2, semNotIn2, inB2, toT, orV, andV, notV, D.tru, chD, isiD, D.isi, D.ty, isTy, D.key, evPs, dicD, semDict, pairD, mergeD, putD, valD, semRepr, callL, op2O, slO, opNO, lrgO, OV.flt, D.flt, semAddL, semMulL, semListL, mLD, popF, popS, insF, insS, clrS, revO, e, hW, hl2, hv, List.length_map]
  have eB : lc__law_names_2 (envN b1 m xs o5 o6 o7 (some (.sh (.int k))) (some (.sh (.str rest))) o10 o11)
      = .ok (.ow (((rot k).cps.toList.map fun c => one c ++ rest).map D.str)) (envN b1 m xs o5 o6 o7 (some (.sh (.int k))) (some (.sh (.str rest))) o10 none) := by
    have ei : it__law_names_2 (envN b1 m xs o5 o6 o7 (some (.sh (.int k))) (some (.sh (.str rest))) o10 o11) = .ok ((rot k).cps.toList.map fun c => D.str (one c)) (envN b1 m xs o5 o6 o7 (some (.sh (.int k))) (some (.sh (.str rest))) o10 o11) := by
      have e1 : cutS LET (some (k : Int)) none ++ cutS LET none (some (k : Int)) = rot k := rfl
      simp only [it__law_names_2, fnB, fnP, Rs.noE, startE, seqS, ifS, thenS, toB, op2, opN, op1, Opd.run, fill, lookV, look, Rs.bind, Rs.map, ofO, cD, vD, semIx, semEq, semNe, eqB, D.sc, D.asB, atI, ixN, semGt, semGe, semLt, semLe, setS, putS, DL.putF, shD, frzD, mvD, rtS, chgS, fillW, OV.lst?, OV.d, nxS, runs, looks, semInt, semMod, semFdiv, semAdd, semSub, semMul, semAbs, semLen, semTuple, semList, lstD, tupD, evs, callP, callB, slD, poN, poS, semSl, D.asI, appS, appF, extS, extF, augS, augF, exS, ifD, andT, orT, notT, notD, andD, orD, par2, par3, asgS, gN, gT, gsCons, gsNil, forD, rg1, rg2, itA, D.items, zpD, zip2, zipD, lcD, yesT, wipeE, m1D, tabD, semIs, semIsNot, D.isN, semAt, semIn2, semNotIn2, inB2, toT, orV, andV, notV, D.tru, chD, isiD, D.isi, D.ty, isTy, D.key, evPs, dicD, semDict, pairD, mergeD, putD, valD, semRepr, callL, op2O, slO, opNO, lrgO, OV.flt, D.flt, semAddL, semMulL, semListL, mLD, popF, popS, insF, insS, clrS, revO, Rs.noE, List.map_cons, List.map_nil, List.length_cons, List.length_nil, List.length_map, List.replicate, List.cons_append, List.nil_append, List.append_nil, List.getElem?_cons_zero, List.getElem?_cons_succ, List.set_cons_zero, List.set_cons_succ, Option.bind_some, Option.bind_none, Option.map_some, Option.map_none, Nat.zero_add, Nat.add_zero, Nat.reduceAdd, Nat.reduceSub, Nat.sub_self, Nat.reduceLeDiff, Nat.reduceEqDiff, Nat.le_refl, Nat.add_sub_cancel, if_true, if_false, Bool.false_eq_true, Bool.not_true, Bool.not_false, Bool.not_not, reduceIte, reduceCtorEq, and_self, and_true, true_and, decide_true, decide_false, semEq_str, semNe_str, semEq_int, semNe_int, semEq_bl, semNe_bl, atI0, atI1, atI2, atI3, atI4, OkS_nx, post_ok, items_lst, items_tup, semAt_lst, semAt_tup, semAt_str, semAt_dic, envN, hlet, rz, e1, hrot, signs_eq]
    have := lcD_map1 (vs := [11]) (h := gN 11) (elt := el__law_names_2) (envN b1 m xs o5 o6 o7 (some (.sh (.int k))) (some (.sh (.str rest))) o10 none) (rot k).cps.toList (fun c => D.str (one c)) (fun c => D.str (one c ++ rest)) ei (by rw [← len_codes]; exact hrot) rfl rfl (fun c _ => by
      refine ⟨envN b1 m xs o5 o6 o7 (some (.sh (.int k))) (some (.sh (.str rest))) o10 (some (.sh (.str (one c)))), rfl, rfl, envN b1 m xs o5 o6 o7 (some (.sh (.int k))) (some (.sh (.str rest))) o10 (some (.sh (.str (one c)))), ?_, rfl⟩
      have hl : (one c).length + rest.length ≤ 1000000 := by show 1 + rest.length ≤ _; omega
      simp only [el__law_names_2, envN, fnB, fnP, Rs.noE, startE, seqS, ifS, thenS, toB, op2, opN, op1, Opd.run, fill, lookV, look, Rs.bind, Rs.map, ofO, cD, vD, semIx, semEq, semNe, eqB, D.sc, D.asB, atI, ixN, semGt, semGe, semLt, semLe, setS, putS, DL.putF, shD, frzD, mvD, rtS, chgS, fillW, OV.lst?, OV.d, nxS, runs, looks, semInt, semMod, semFdiv, semAdd, semSub, semMul, semAbs, semLen, semTuple, semList, lstD, tupD, evs, callP, callB, slD, poN, poS, semSl, D.asI, appS, appF, extS, extF, augS, augF, exS, ifD, andT, orT, notT, notD, andD, orD, par2, par3, asgS, gN, gT, gsCons, gsNil, forD, rg1, rg2, itA, D.items, zpD, zip2, zipD, lcD, yesT, wipeE, m1D, tabD, semIs, semIsNot, D.isN, semAt, semIn2, semNotIn2, inB2, toT, orV, andV, notV, D.tru, chD, isiD, D.isi, D.ty, isTy, D.key, evPs, dicD, semDict, pairD, mergeD, putD, valD, semRepr, callL, op2O, slO, opNO, lrgO, OV.flt, D.flt, semAddL, semMulL, semListL, mLD, popF, popS, insF, insS, clrS, revO, Rs.noE, List.map_cons, List.map_nil, List.length_cons, List.length_nil, List.length_map, List.replicate, List.cons_append, List.nil_append, List.append_nil, List.getElem?_cons_zero, List.getElem?_cons_succ, List.set_cons_zero, List.set_cons_succ, Option.bind_some, Option.bind_none, Option.map_some, Option.map_none, Nat.zero_add, Nat.add_zero, Nat.reduceAdd, Nat.reduceSub, Nat.sub_self, Nat.reduceLeDiff, Nat.reduceEqDiff, Nat.le_refl, Nat.add_sub_cancel, if_true, if_false, Bool.false_eq_true, Bool.not_true, Bool.not_false, Bool.not_not, reduceIte, reduceCtorEq, and_self, and_true, true_and, decide_true, decide_false, semEq_str, semNe_str, semEq_int, semNe_int, semEq_bl, semNe_bl, atI0, atI1, atI2, atI3, atI4, OkS_nx, post_ok, items_lst, items_tup, semAt_lst, semAt_tup, semAt_str, semAt_dic, hl])
    rw [List.map_map]
    exact this
  refine ⟨decide (v = 0), b1, ?_, hb1⟩
  have hlen : ((if decide (v = 0) then cutL WRD (some (k : Int)) none else []).map D.str).length + (((rot k).cps.toList.map fun c => one c ++ rest).map D.str).length ≤ 1000000 := by
    rw [List.length_map, List.length_map, List.length_map, ← len_codes]
    have : (rot k).length = 26 := rl
    split
    · omega
    · simp; omega
  unfold step10 setS shD
  rw [op2_ee, eA]
  simp only [Rs.bind, frzD]
  rw [eB]
  simp only [Rs.map, Rs.bind, OV.d, semAdd, hlen, if_true, ofO, thenS, ← List.map_append]
  rfl
theorem rest_name {w : Bool} {k : Nat} (hk : k < 26) {rest : Str} (hr : rest.length ≤ 7) (hl : ∀ c ∈ rest.cps.toList, 97 ≤ c ∧ c ≤ 122) : ∀ x ∈ cands w k rest, NameOk x := by
  intro x hx
  obtain ⟨rn, rl, rc, rz⟩ := rot_ok ⟨k, hk⟩
  rcases List.mem_append.mp hx with hx | hx
  · cases w with
    | true => exact wrd_ok x (cutL_mem hx)
    | false => cases hx
  · obtain ⟨c, hc, rfl⟩ := List.mem_map.mp hx
    have hc2 := List.all_eq_true.mp rc c hc
    simp only [Bool.and_eq_true, decide_eq_true_eq] at hc2
    have e : (one c ++ rest).cps.toList = c :: rest.cps.toList := by rw [app_codes]; rfl
    refine ⟨?_, ?_, fun d hd => ?_⟩
    · rw [len_codes, e, List.length_cons]; omega
    · rw [len_codes, e, List.length_cons, ← len_codes]; omega
    · rw [e] at hd
      rcases List.mem_cons.mp hd with rfl | hd
      · exact hc2
      · exact hl d hd
theorem wrd_z : ∀ x ∈ WRD, x ≠ ("zzzzz" : Str) := by decide +kernel
theorem rest_z {w : Bool} {k : Nat} (hk : k < 26) {rest : Str} (hr : rest.length ≠ 4) : ∀ x ∈ cands w k rest, x ≠ ("zzzzz" : Str) := by
  intro x hx e
  rcases List.mem_append.mp hx with hx | hx
  · cases w with
    | true => exact wrd_z x (cutL_mem hx) e
    | false => cases hx
  · obtain ⟨c, hc, rfl⟩ := List.mem_map.mp hx
    have h1 : (one c ++ rest).length = rest.length + 1 := by
      rw [len_codes, app_codes, List.length_append, ← len_codes, ← len_codes]
      show 1 + rest.length = _
      omega
    have h2 : (Str.ofString "zzzzz").length = 5 := by decide +kernel
    rw [e, h2] at h1
    omega
theorem fresh_cand {w : Bool} {k : Nat} (hk : k < 26) {rest : Str} {xs : List Str} (hx : xs.length < 26) : ∃ x ∈ cands w k rest, x ∉ xs := by
  obtain ⟨rn, rl, rc, rz⟩ := rot_ok ⟨k, hk⟩
  have nd : ((rot k).cps.toList.map fun c => one c ++ rest).Nodup := by
    refine List.Pairwise.map _ (fun a b hab e => hab ?_) rn
    have e2 : (one a ++ rest).cps.toList = (one b ++ rest).cps.toList := by rw [e]
    rw [app_codes, app_codes] at e2
    have : a :: rest.cps.toList = b :: rest.cps.toList := e2
    exact (List.cons.inj this).1
  have hl : ((rot k).cps.toList.map fun c => one c ++ rest).length = 26 := by
    rw [List.length_map, ← len_codes]; exact rl
  obtain ⟨x, h1, h2⟩ := exists_not_mem _ xs nd (by rw [hl]; exact hx)
  exact ⟨x, List.mem_append_right _ h1, h2⟩
theorem sm_str {x : Str} (h : NameOk x) : Sm 0 82 (.str x) := ⟨h.pl, rfl, Nat.zero_le _, by show 10 * x.length + 2 ≤ 82; have := h.most; omega⟩
theorem fit_strs {xs : List Str} (h : ∀ x ∈ xs, NameOk x) : (D.lst (xs.map D.str)).fit = true := (Sm.all (n := 0) (w := 82) fun d hd => by
  obtain ⟨x, hx, rfl⟩ := List.mem_map.mp hd
  exact sm_str (h x hx)).1
theorem mem_strs {x : Str} {xs : List Str} : D.str x ∈ xs.map D.str ↔ x ∈ xs := by
  rw [List.mem_map]
  exact ⟨fun ⟨y, h, e⟩ => by cases e; exact h, fun h => ⟨x, h, rfl⟩⟩
theorem cl_strs {k : Bool} {xs : List Str} : ∀ e ∈ xs.map D.str, e.cl k = true := fun e he => by
  obtain ⟨x, _, rfl⟩ := List.mem_map.mp he
  rfl
theorem notIn_strs {xs : List Str} {x : Str} (hx : NameOk x) (h : ∀ x ∈ xs, NameOk x) : semNotIn2 (.str x) (.lst (xs.map D.str)) = some (.bl (decide (x ∉ xs))) := by
  rw [semNotIn_lst true hx.fit (fit_strs h) rfl cl_strs]
  simp only [mem_strs, decide_not]
set_option maxHeartbeats 4000000 in
theorem app_ok {bs : List D} (m : Int) (xs ys : List Str) (o5 o6 o7 o8 o9 o11 : Option OV) (hx : ∀ x ∈ xs, NameOk x) (hy : ∀ y ∈ ys, NameOk y) (hl : xs.length ≤ 1000) (hl2 : ys.length ≤ 1000) (hf : ∃ y ∈ ys, y ∉ xs) :
    ∃ x, appS 3 (op2 (.ex (frzD lc__law_names_3)) (.ex (cD (.int 0))) semAt) (envN bs m xs o5 o6 o7 o8 o9 (some (.sh (.lst (ys.map D.str)))) o11)
      = .nx (envN bs m (xs ++ [x]) o5 o6 o7 o8 o9 (some (.sh (.lst (ys.map D.str)))) none) ∧ x ∈ ys ∧ x ∉ xs := by
  have em := lcD_map (it := it__law_names_3) (vs := [11]) (h := gN 11) (t := ts__law_names_1) (elt := el__law_names_3) (r := envN bs m xs o5 o6 o7 o8 o9 (some (.sh (.lst (ys.map D.str)))) o11) (envN bs m xs o5 o6 o7 o8 o9 (some (.sh (.lst (ys.map D.str)))) none) ys D.str (fun y => decide (y ∉ xs)) D.str rfl (by omega) rfl rfl (fun y hyy => by
    refine ⟨envN bs m xs o5 o6 o7 o8 o9 (some (.sh (.lst (ys.map D.str)))) (some (.sh (.str y))), envN bs m xs o5 o6 o7 o8 o9 (some (.sh (.lst (ys.map D.str)))) (some (.sh (.str y))), rfl, ?_, rfl, fun _ => ⟨_, rfl, rfl⟩⟩
    have hin := notIn_strs (hy y hyy) hx
    simp only [ts__law_names_1, toB, op2, Opd.run, fill, envN, Rs.bind, look, lookV, ofO, OV.d, hin, D.asB, Rs.noE, List.map_cons, List.map_nil, List.length_cons, List.length_nil, List.length_map, List.replicate, List.cons_append, List.nil_append, List.append_nil, List.getElem?_cons_zero, List.getElem?_cons_succ, List.set_cons_zero, List.set_cons_succ, Option.bind_some, Option.bind_none, Option.map_some, Option.map_none, Nat.zero_add, Nat.add_zero, Nat.reduceAdd, Nat.reduceSub, Nat.sub_self, Nat.reduceLeDiff, Nat.reduceEqDiff, Nat.le_refl, Nat.add_sub_cancel, if_true, if_false, Bool.false_eq_true, Bool.not_true, Bool.not_false, Bool.not_not, reduceIte, reduceCtorEq, and_self, and_true, true_and, decide_true, decide_false, semEq_str, semNe_str, semEq_int, semNe_int, semEq_bl, semNe_bl, atI0, atI1, atI2, atI3, atI4, OkS_nx, post_ok, items_lst, items_tup, semAt_lst, semAt_tup, semAt_str, semAt_dic])
  obtain ⟨y0, hy0, hn0⟩ := hf
  cases hfl : ys.filter fun y => decide (y ∉ xs) with
  | nil =>
    have : y0 ∈ ys.filter fun y => decide (y ∉ xs) := List.mem_filter.mpr ⟨hy0, decide_eq_true hn0⟩
    rw [hfl] at this
    cases this
  | cons x r =>
    have hx2 : x ∈ ys.filter fun y => decide (y ∉ xs) := by rw [hfl]; exact List.mem_cons_self ..
    obtain ⟨h1, h2⟩ := List.mem_filter.mp hx2
    have h2 := of_decide_eq_true h2
    refine ⟨x, ?_, h1, h2⟩
    rw [hfl] at em
    have em : lc__law_names_3 (envN bs m xs o5 o6 o7 o8 o9 (some (.sh (.lst (ys.map D.str)))) o11) = _ := em
    have hat : atI ((x :: r).map D.str) 0 = some (.str x) := atI_nat (j := 0) rfl
    have hla : (xs.map D.str).length ≤ 1000000 := by rw [List.length_map]; omega
    unfold appS
    have hfw : fillW (envN bs m xs o5 o6 o7 o8 o9 (some (.sh (.lst (ys.map D.str)))) o11) 3 = .ok () (envN bs m xs o5 o6 o7 o8 o9 (some (.sh (.lst (ys.map D.str)))) o11) := rfl
    rw [hfw]
    simp only [thenS]
    rw [op2_ee]
    simp only [frzD, em, Rs.map, OV.d, Rs.bind, cD, semAt, semIx, hat, ofO]
    simp only [chgS, envN, lookV, List.getElem?_cons_zero, List.getElem?_cons_succ, Option.bind_some, OV.lst?, appF, hla, if_true, List.set_cons_succ, List.set_cons_zero, List.map_append, List.map_cons, List.map_nil]
/-- the state between two turns of names -/
def NInv (m : Int) (k : Nat) (r : En) : Prop := ∃ bs xs o5 o6 o7 o8 o9 o10 o11, r = envN bs m xs o5 o6 o7 o8 o9 o10 o11 ∧ BagOk bs ∧ xs.length = k ∧ xs.Nodup ∧ ∀ x ∈ xs, NameOk x ∧ x ≠ ("zzzzz" : Str)
theorem cands_len (w : Bool) {k : Nat} (hk : k < 26) (rest : Str) : (cands w k rest).length ≤ 1000 := by
  obtain ⟨rn, rl, rc, rz⟩ := rot_ok ⟨k, hk⟩
  unfold cands
  rw [List.length_append, List.length_map, ← len_codes, show (rot k).length = 26 from rl]
  have := cutL_len WRD (some (k : Int)) none
  have h20 : WRD.length = 20 := rfl
  split
  · omega
  · simp
set_option maxHeartbeats 4000000 in
theorem names_okZ {bs : List D} (hb : BagOk bs) (m : Nat) (hm : m ≤ 12) : ∃ (xs : List Str) (bs' : List D), f__law_names bs [.int m] = some (.ow (xs.map D.str), bs') ∧ xs.length = m ∧ xs.Nodup ∧ (∀ x ∈ xs, NameOk x ∧ x ≠ ("zzzzz" : Str)) ∧ BagOk bs' := by
  have st : ∀ (i : Nat) (d : D), (rangeD 0 m)[i]? = some d → ∀ r, NInv m i r → ∃ r1 r2, gN 5 d r = some r1 ∧ bd__law_names_1 r1 = .nx r2 ∧ NInv m (i + 1) r2 := by
    rintro i d hd r ⟨bs, xs, o5, o6, o7, o8, o9, o10, o11, rfl, hb, hl, hnd, hok⟩
    obtain ⟨hi, rfl⟩ := rangeD_get hd
    obtain ⟨cs, b1, e1, c1, c2, c5, c3, hb1⟩ := signs_ok hb m xs (some (.sh (.int (0 + i)))) o6 o7 o8 o9 o10 o11
    cases cs with
    | nil => cases c1
    | cons c cs =>
      have hc := c3 c (List.mem_cons_self ..)
      have hcs : ∀ x ∈ cs, 97 ≤ x ∧ x ≤ 122 := fun x hx => c3 x (List.mem_cons_of_mem _ hx)
      rw [List.length_cons] at c2 c5
      have e2 := par_ok (bs := b1) m xs (some (.sh (.int (0 + i)))) none o8 o9 o10 o11 c cs hc.1 hc.2 (by omega)
      have hjl : (Txt.join "" (cs.map one)).length ≤ 7 := by rw [len_codes, join_codes]; omega
      have hj4 : (Txt.join "" (cs.map one)).length ≠ 4 := by rw [len_codes, join_codes]; omega
      have hjc : ∀ x ∈ (Txt.join "" (cs.map one)).cps.toList, 97 ≤ x ∧ x ≤ 122 := by rw [join_codes]; exact hcs
      have hk : c - 97 < 26 := by omega
      obtain ⟨w, b2, e3, hb2⟩ := cands_ok hb1 m xs (some (.sh (.int (0 + i)))) (some (.sh (.lst ((c :: cs).map fun c => D.str (one c))))) none o10 o11 (c - 97) hk _ hjl
      obtain ⟨x, e4, x1, x2⟩ := app_ok (bs := b2) m xs (cands w (c - 97) (Txt.join "" (cs.map one))) (some (.sh (.int (0 + i)))) (some (.sh (.lst ((c :: cs).map fun c => D.str (one c))))) none (some (.sh (.int ((c - 97 : Nat) : Int)))) (some (.sh (.str (Txt.join "" (cs.map one))))) none (fun x hx => (hok x hx).1) (rest_name hk hjl hjc) (by omega) (cands_len w hk _) (fresh_cand hk (by omega))
      refine ⟨envN bs m xs (some (.sh (.int (0 + i)))) o6 o7 o8 o9 o10 o11, envN b2 m (xs ++ [x]) (some (.sh (.int (0 + i)))) (some (.sh (.lst ((c :: cs).map fun c => D.str (one c))))) none (some (.sh (.int ((c - 97 : Nat) : Int)))) (some (.sh (.str (Txt.join "" (cs.map one))))) (some (.sh (.lst ((cands w (c - 97) (Txt.join "" (cs.map one))).map D.str)))) none, rfl, ?_, b2, xs ++ [x], _, _, _, _, _, _, _, rfl, hb2, by rw [List.length_append, hl]; rfl, ?_, fun y hy => ?_⟩
      · have es : setS 6 (shD (frzD lc__law_names_1)) (envN bs m xs (some (.sh (.int (0 + i)))) o6 o7 o8 o9 o10 o11) = .nx (envN b1 m xs (some (.sh (.int (0 + i)))) (some (.sh (.lst ((c :: cs).map fun c => D.str (one c))))) none o8 o9 o10 o11) := by
          unfold setS shD frzD
          rw [e1]
          rfl
        unfold bd__law_names_1
        unfold step10 at e3
        rw [seqS_nx es, seqS_nx e2, seqS_nx e3]
        exact e4
      · rw [List.nodup_append]
        refine ⟨hnd, List.nodup_cons.mpr ⟨List.not_mem_nil, List.nodup_nil⟩, fun a ha b hb => ?_⟩
        rw [List.mem_singleton.mp hb]
        exact fun e => x2 (e ▸ ha)
      · rcases List.mem_append.mp hy with hy | hy
        · exact hok y hy
        · rw [List.mem_singleton.mp hy]
          exact ⟨rest_name hk hjl hjc x x1, rest_z hk hj4 x x1⟩
  have h0 : NInv m 0 (envN bs m [] none none none none none none none) := ⟨bs, [], none, none, none, none, none, none, none, rfl, hb, rfl, List.nodup_nil, fun _ z => absurd z List.not_mem_nil⟩
  obtain ⟨r', e, bs', xs, o5, o6, o7, o8, o9, o10, o11, rfl, hb', hl, hnd, hok⟩ := forS_inv (rangeD 0 m) (NInv m) st _ h0
  rw [rangeD_len] at hl
  refine ⟨xs, bs', ?_, hl, hnd, hok, hb'⟩
  have hm1 : -1000000 ≤ (m : Int) ∧ (m : Int) ≤ 1000000 := by omega
  have ep : par2 2 3 (cD (.str LET)) (lstD []) [some (.ow bs), some (.sh (.int m)), none, none, none, none, none, none, none, none, none, none] = .nx [some (.ow bs), some (.sh (.int m)), some (.sh (.str LET)), some (.ow []), none, none, none, none, none, none, none, none] := rfl
  have ew : setS 4 (shD (m1D (.ex (cD (.str WST))) (.ex (cD (.str " "))) semSplit)) [some (.ow bs), some (.sh (.int m)), some (.sh (.str LET)), some (.ow []), none, none, none, none, none, none, none, none] = .nx (envN bs m [] none none none none none none none) := by
    have h1 : (Str.ofString " ").length ≠ 0 ∧ WST.length ≤ 1000000 := ⟨by decide +kernel, wst_len⟩
    simp only [setS, shD, m1D, Opd.run, cD, Rs.map, Rs.bind, look, semSplit, h1, if_true, wst_split, ofO, thenS, Option.bind_some, ne_eq, not_false_eq_true, and_self]
    rfl
  have ef : it__law_names_4 (envN bs m [] none none none none none none none) = .ok (rangeD 0 m) (envN bs m [] none none none none none none none) := by
    simp only [it__law_names_4, rg1, vD, envN, List.getElem?_cons_zero, List.getElem?_cons_succ, Rs.bind, D.asI, ofO, hm1, and_self, if_true, Int.toNat_natCast]
  have es : startE 12 (.ow bs :: [D.int m].map OV.sh) = [some (.ow bs), some (.sh (.int m)), none, none, none, none, none, none, none, none, none, none] := rfl
  unfold f__law_names fnB
  rw [es]
  unfold m__law_names
  rw [seqS_nx ep, seqS_nx ew]
  unfold fr__law_names_1
  rw [seqS_nx (forD_of ef e)]
  rfl
theorem names_ok {bs : List D} (hb : BagOk bs) (m : Nat) (hm : m ≤ 12) : ∃ (xs : List Str) (bs' : List D), f__law_names bs [.int m] = some (.ow (xs.map D.str), bs') ∧ xs.length = m ∧ xs.Nodup ∧ (∀ x ∈ xs, NameOk x) ∧ BagOk bs' := by
  obtain ⟨xs, b, e, h1, h2, h3, h4⟩ := names_okZ hb m hm
  exact ⟨xs, b, e, h1, h2, fun x hx => (h3 x hx).1, h4⟩
end T

-- needs: _law_names
namespace T
open PySem L2 DL
/-- an atom, a pattern: relation, left, right -/
abbrev At := Str × Str × Str
def isRel (r : Str) : Prop := r = "eq" ∨ r = "lt" ∨ r = "gt"
structure AtOk (x : At) : Prop where
  rel : isRel x.1
  l : NameOk x.2.1
  r : NameOk x.2.2
structure PtOk (x : At) : Prop where
  rel : isRel x.1 ∨ x.1 = ""
  l : NameOk x.2.1 ∨ x.2.1 = ""
  r : NameOk x.2.2 ∨ x.2.2 = ""
theorem AtOk.pt {x : At} (h : AtOk x) : PtOk x := ⟨.inl h.rel, .inl h.l, .inl h.r⟩
/-- an atom over some names -/
structure AtIn (xs : List Str) (x : At) : Prop where
  rel : isRel x.1
  l : x.2.1 ∈ xs
  r : x.2.2 ∈ xs
theorem AtIn.ok {xs : List Str} {x : At} (h : AtIn xs x) (hx : ∀ x ∈ xs, NameOk x) : AtOk x := ⟨h.rel, hx _ h.l, hx _ h.r⟩
/-! ### patterns -/
/-- a pattern over some names -/
structure PtIn (xs : List Str) (x : At) : Prop where
  rel : isRel x.1 ∨ x.1 = ""
  l : x.2.1 ∈ xs ∨ x.2.1 = ""
  r : x.2.2 ∈ xs ∨ x.2.2 = ""
theorem PtIn.ok {xs : List Str} {x : At} (h : PtIn xs x) (hx : ∀ x ∈ xs, NameOk x) : PtOk x := ⟨h.rel, h.l.imp_left (hx _), h.r.imp_left (hx _)⟩
/-! ### facts -/
structure FtIn (xs : List Str) (fs : List At) : Prop where
  all : ∀ x ∈ fs, AtIn xs x
  len : fs.length = 1 ∨ fs.length = 2
structure FtOk (fs : List At) : Prop where
  all : ∀ x ∈ fs, AtOk x
  len : fs.length = 1 ∨ fs.length = 2
theorem FtIn.ok {xs : List Str} {fs : List At} (h : FtIn xs fs) (hx : ∀ x ∈ xs, NameOk x) : FtOk fs := ⟨fun x hm => (h.all x hm).ok hx, h.len⟩
/-! ### turned, fits -/
/-- the turned relation -/
def bk (r : Str) : Str := if r = "lt" then "gt" else if r = "gt" then "lt" else r
def turn (x : At) : At := (bk x.1, x.2.2, x.2.1)
theorem bk_rel {r : Str} (h : isRel r) : isRel (bk r) := by
  rcases h with rfl | rfl | rfl
  · exact .inl (by decide +kernel)
  · exact .inr (.inr (by decide +kernel))
  · exact .inr (.inl (by decide +kernel))
theorem bk_0 : bk "" = "" := by decide +kernel
theorem AtOk.turn {x : At} (h : AtOk x) : AtOk (turn x) := ⟨bk_rel h.rel, h.r, h.l⟩
theorem PtOk.turn {x : At} (h : PtOk x) : PtOk (turn x) := ⟨h.rel.elim (fun z => .inl (bk_rel z)) fun z => .inr (by show bk x.1 = ""; rw [z, bk_0]), h.r, h.l⟩
theorem AtIn.turn {xs : List Str} {x : At} (h : AtIn xs x) : AtIn xs (turn x) := ⟨bk_rel h.rel, h.r, h.l⟩
theorem FtOk.turn {fs : List At} (h : FtOk fs) : FtOk (fs.map turn) := ⟨fun x hx => by
  obtain ⟨y, hy, rfl⟩ := List.mem_map.mp hx
  exact (h.all y hy).turn, by rw [List.length_map]; exact h.len⟩
def ft (p q : Str) : Bool := decide (p = "") || decide (p = q)
end T

-- needs: _law_some
namespace T
open PySem L2 DL
/-! ### drawing: some, atoms -/
set_option maxHeartbeats 2000000 in
theorem some_ok {bs : List D} (hb : BagOk bs) (ds : List D) (h0 : ds ≠ []) (hl : ds.length ≤ 1000) : ∃ d bs', f__law_some bs [.lst ds] = some (.sh d, bs') ∧ d ∈ ds ∧ BagOk bs' := by
  have hp : 0 < ds.length := List.length_pos_iff.mpr h0
  obtain ⟨v, b1, e, v0, v1, hb1⟩ := take_ok hb (n := (ds.length : Int)) (by omega) (by omega)
  obtain ⟨d, e1, hd⟩ := atI_mem v0 v1
  refine ⟨d, b1, ?_, hd, hb1⟩
  simp only [f__law_some, m__law_some, fnB, fnP, Rs.noE, startE, seqS, ifS, thenS, toB, op2, opN, op1, Opd.run, fill, lookV, look, Rs.bind, Rs.map, ofO, cD, vD, D.asB, semGt, semGe, semLt, semLe, setS, putS, DL.putF, shD, frzD, mvD, rtS, chgS, fillW, OV.lst?, OV.d, nxS, runs, looks, semInt, semMod, semFdiv, semAdd, semSub, semMul, semAbs, semLen, semTuple, semList, lstD, tupD, evs, callP, callB, slD, poN, poS, semSl, D.asI, appS, appF, extS, extF, augS, augF, exS, ifD, andT, orT, notT, notD, andD, orD, par2, par3, asgS, gN, gT, gsCons, gsNil, forD, rg1, rg2, itA, zpD, zip2, zipD, lcD, yesT, wipeE, m1D, tabD, semIs, semIsNot, D.isN, toT, orV, andV, notV, D.tru, chD, isiD, D.key, evPs, dicD, semDict, pairD, semRepr, callL, op2O, slO, opNO, lrgO, OV.flt, D.flt, semAddL, semMulL, semListL, mLD, popF, popS, insF, insS, clrS, revO, Rs.noE, List.map_cons, List.map_nil, List.length_cons, List.length_nil, List.length_map, List.replicate, List.cons_append, List.nil_append, List.append_nil, List.getElem?_cons_zero, List.getElem?_cons_succ, List.set_cons_zero, List.set_cons_succ, Option.bind_some, Option.bind_none, Option.map_some, Option.map_none, Nat.zero_add, Nat.add_zero, Nat.reduceAdd, Nat.reduceSub, Nat.sub_self, Nat.reduceLeDiff, Nat.reduceEqDiff, Nat.le_refl, Nat.add_sub_cancel, if_true, if_false, Bool.false_eq_true, Bool.not_true, Bool.not_false, Bool.not_not, reduceIte, reduceCtorEq, and_self, and_true, true_and, decide_true, decide_false, semEq_str, semNe_str, semEq_int, semNe_int, semEq_bl, semNe_bl, atI0, atI1, atI2, atI3, atI4, OkS_nx, post_ok, items_lst, items_tup, semAt_lst, semAt_tup, semAt_str, semAt_dic, e, e1]
theorem someS_ok {bs : List D} (hb : BagOk bs) (xs : List Str) (h0 : xs ≠ []) (hl : xs.length ≤ 1000) : ∃ x bs', f__law_some bs [.lst (xs.map D.str)] = some (.sh (.str x), bs') ∧ x ∈ xs ∧ BagOk bs' := by
  obtain ⟨d, b, e, hd, hb'⟩ := some_ok hb (xs.map D.str) (fun z => h0 (List.map_eq_nil_iff.mp z)) (by rw [List.length_map]; exact hl)
  obtain ⟨x, hx, rfl⟩ := List.mem_map.mp hd
  exact ⟨x, b, e, hx, hb'⟩
end T

-- needs: _law_alike
namespace T
open PySem L2 DL
theorem semEqX_str (x y : Str) : semEqX (.str x) (.str y) = some (.bl (decide (x = y))) := semEqX_of (semEq_str x y)
theorem alike_gen {d : D} {t : Str} (h1 : semEqX d d = some (.bl true)) (h2 : semRepr [d] = some (.str t)) : f__law_alike [d, d] = some (.sh (.bl true)) := by
  unfold f__law_alike
  refine fnP_w ?_
  unfold m__law_alike
  (repeat (first | (with_reducible refine Gi.of h1 ?_) | (with_reducible refine Gi.of h2 ?_) | (with_reducible refine Gi.of (semEqX_str _ _) ?_) | walk_at "go1"))
  show OV.sh (.bl (decide (t = t))) = _
  rw [decide_eq_true rfl]
theorem alike_ok {d : D} (h : d.shw = true) (hf : d.fit = true) : f__law_alike [d, d] = some (.sh (.bl true)) :=
  alike_gen (semEqX_of (semEq_self hf)) (t := d.py.shown) (by show (if d.shw = true then _ else _) = _; rw [if_pos h])
theorem alike_sm {d : D} {n w : Nat} (h : Sm n w d) (hn : n ≤ 64 := by decide) (hw : w ≤ 1000000 := by decide) : f__law_alike [d, d] = some (.sh (.bl true)) := alike_ok (h.shw hn hw) (h.fit hn)
end T

-- needs: is_name is_relation _law_names
namespace T
open PySem L2 DL
/-! ### any values: names, relations -/
/-- any value: it can be shown, of a depth and a weight -/
structure Gd (n w : Nat) (d : D) : Prop where
  rp : d.rp = true
  dq : d.dq ≤ n
  wq : d.wq ≤ w
theorem Gd.mono {n w n' w' : Nat} {d : D} (h : Gd n w d) (h1 : n ≤ n') (h2 : w ≤ w') : Gd n' w' d := ⟨h.rp, Nat.le_trans h.dq h1, Nat.le_trans h.wq h2⟩
theorem Gd.shx {n w : Nat} {d : D} (h : Gd n w d) (hn : n ≤ 64 := by decide) (hw : w ≤ 1000000 := by decide) : d.shx = true := by
  unfold D.shx
  rw [h.rp, decide_eq_true (Nat.le_trans h.dq hn), decide_eq_true (Nat.le_trans h.wq hw)]; rfl
def nmB : D → Bool
  | .str x => nameB x
  | _ => false
def relB : D → Bool
  | .str x => decide (x = "eq") || (decide (x = "lt") || decide (x = "gt"))
  | _ => false
theorem isi_str (d : D) : d.isi ["str"] = match d with | .str _ => true | _ => false := by cases d <;> rfl
theorem in_let (c : Nat) : semIn2 (.str (one c)) (.str LET) = some (.bl (decide (97 ≤ c) && decide (c ≤ 122))) := by
  have h := StrLaws.found_one LET c
  have hm : decide (c ∈ LET.cps.toList) = (decide (97 ≤ c) && decide (c ≤ 122)) := by
    rw [let_codes, Bool.eq_iff_iff, decide_eq_true_eq, Bool.and_eq_true, decide_eq_true_eq, decide_eq_true_eq, List.mem_map]
    constructor
    · rintro ⟨k, hk, rfl⟩
      have := List.mem_range.mp hk
      omega
    · intro ⟨h1, h2⟩
      exact ⟨c - 97, List.mem_range.mpr (by omega), by omega⟩
  show some (D.bl (!(Builtin.Str.occurrences LET (one c) 0 LET.length 1).isEmpty)) = _
  rw [← hm]
  exact congrArg (fun b => some (D.bl b)) h
theorem str_wq {x : Str} {w : Nat} (h : (D.str x).wq ≤ w) : 10 * x.length + 2 ≤ w := h
set_option maxHeartbeats 4000000 in
theorem isName_eq {n w : Nat} {d : D} (h : Gd n w d) (hw : w ≤ 1000000) : f_is_name [d] = some (.sh (.bl (nmB d))) := by
  cases d with
  | str x =>
    have hl : x.length ≤ 1000000 := by have := str_wq h.wq; omega
    by_cases c1 : 1 ≤ x.length ∧ x.length ≤ 8
    · have e : lc_is_name_1 [some (.sh (.str x)), none] = .ok (.ow (x.cps.toList.map fun c => .bl (decide (97 ≤ c) && decide (c ≤ 122)))) [some (.sh (.str x)), none] :=
        lcD_mp1 (it := it_is_name_1) (vs := [1]) (h := gN 1) (elt := el_is_name_1) (r := [some (.sh (.str x)), none]) _ x.cps.toList (fun c => D.str (one c)) _ (by
          have hi : (D.str x).items = some (signs x) := if_pos hl
          simp only [it_is_name_1, itA, vD, Rs.bind, ofO, Rs.noE, List.map_cons, List.map_nil, List.length_cons, List.length_nil, List.length_map, List.replicate, List.cons_append, List.nil_append, List.append_nil, List.getElem?_cons_zero, List.getElem?_cons_succ, List.set_cons_zero, List.set_cons_succ, Option.bind_some, Option.bind_none, Option.map_some, Option.map_none, Nat.zero_add, Nat.add_zero, Nat.reduceAdd, Nat.reduceSub, Nat.sub_self, Nat.reduceLeDiff, Nat.reduceEqDiff, Nat.le_refl, Nat.add_sub_cancel, if_true, if_false, Bool.false_eq_true, Bool.not_true, Bool.not_false, Bool.not_not, reduceIte, reduceCtorEq, and_self, and_true, true_and, decide_true, decide_false, semEq_str, semNe_str, semEq_int, semNe_int, semEq_bl, semNe_bl, atI0, atI1, atI2, atI3, atI4, OkS_nx, post_ok, items_lst, items_tup, semAt_lst, semAt_tup, semAt_str, semAt_dic, hi]
          rfl) (by rw [← len_codes]; exact hl) rfl rfl (fun c _ => ⟨_, rfl, rfl, by
            have := in_let c
            simp only [el_is_name_1, gN, c_LETTERS, fnB, fnP, Rs.noE, startE, seqS, ifS, thenS, toB, op2, opN, op1, Opd.run, fill, lookV, look, Rs.bind, Rs.map, ofO, cD, vD, D.asB, semGt, semGe, semLt, semLe, setS, putS, DL.putF, shD, frzD, mvD, rtS, chgS, fillW, OV.lst?, OV.d, nxS, runs, looks, semInt, semMod, semFdiv, semAdd, semSub, semMul, semAbs, semLen, semTuple, semList, lstD, tupD, evs, callP, callB, slD, poN, poS, semSl, D.asI, appS, appF, extS, extF, augS, augF, exS, ifD, andT, orT, notT, notD, andD, orD, par2, par3, asgS, gN, gT, gsCons, gsNil, forD, rg1, rg2, itA, zpD, zip2, zipD, lcD, yesT, wipeE, m1D, tabD, semIs, semIsNot, D.isN, toT, orV, andV, notV, D.tru, chD, isiD, D.key, evPs, dicD, semDict, pairD, semRepr, callL, op2O, slO, opNO, lrgO, OV.flt, D.flt, semAddL, semMulL, semListL, mLD, popF, popS, insF, insS, clrS, revO, Rs.noE, List.map_cons, List.map_nil, List.length_cons, List.length_nil, List.length_map, List.replicate, List.cons_append, List.nil_append, List.append_nil, List.getElem?_cons_zero, List.getElem?_cons_succ, List.set_cons_zero, List.set_cons_succ, Option.bind_some, Option.bind_none, Option.map_some, Option.map_none, Nat.zero_add, Nat.add_zero, Nat.reduceAdd, Nat.reduceSub, Nat.sub_self, Nat.reduceLeDiff, Nat.reduceEqDiff, Nat.le_refl, Nat.add_sub_cancel, if_true, if_false, Bool.false_eq_true, Bool.not_true, Bool.not_false, Bool.not_not, reduceIte, reduceCtorEq, and_self, and_true, true_and, decide_true, decide_false, semEq_str, semNe_str, semEq_int, semNe_int, semEq_bl, semNe_bl, atI0, atI1, atI2, atI3, atI4, OkS_nx, post_ok, items_lst, items_tup, semAt_lst, semAt_tup, semAt_str, semAt_dic, this]⟩)
      have h1 : (1 : Int) ≤ (x.length : Int) := by omega
      have h2 : (x.length : Int) ≤ 8 := by omega
      have hb : bools (x.cps.toList.map fun c => D.bl (decide (97 ≤ c) && decide (c ≤ 122))) = some (x.cps.toList.map fun c => decide (97 ≤ c) && decide (c ≤ 122)) := bools_map _ _
      have hfin : (x.cps.toList.map fun c => decide (97 ≤ c) && decide (c ≤ 122)).all id = nmB (.str x) := by
        show _ = (decide (0 < x.length) && decide (x.length ≤ 8) && x.cps.toList.all fun c => decide (97 ≤ c) && decide (c ≤ 122))
        rw [List.all_map, decide_eq_true (show 0 < x.length by omega), decide_eq_true c1.2]
        rfl
      simp only [f_is_name, m_is_name, c_MOST_LETTERS, fnB, fnP, Rs.noE, startE, seqS, ifS, thenS, toB, op2, opN, op1, Opd.run, fill, lookV, look, Rs.bind, Rs.map, ofO, cD, vD, D.asB, semGt, semGe, semLt, semLe, setS, putS, DL.putF, shD, frzD, mvD, rtS, chgS, fillW, OV.lst?, OV.d, nxS, runs, looks, semInt, semMod, semFdiv, semAdd, semSub, semMul, semAbs, semLen, semTuple, semList, lstD, tupD, evs, callP, callB, slD, poN, poS, semSl, D.asI, appS, appF, extS, extF, augS, augF, exS, ifD, andT, orT, notT, notD, andD, orD, par2, par3, asgS, gN, gT, gsCons, gsNil, forD, rg1, rg2, itA, zpD, zip2, zipD, lcD, yesT, wipeE, m1D, tabD, semIs, semIsNot, D.isN, toT, orV, andV, notV, D.tru, chD, isiD, D.key, evPs, dicD, semDict, pairD, semRepr, callL, op2O, slO, opNO, lrgO, OV.flt, D.flt, semAddL, semMulL, semListL, mLD, popF, popS, insF, insS, clrS, revO, Rs.noE, List.map_cons, List.map_nil, List.length_cons, List.length_nil, List.length_map, List.replicate, List.cons_append, List.nil_append, List.append_nil, List.getElem?_cons_zero, List.getElem?_cons_succ, List.set_cons_zero, List.set_cons_succ, Option.bind_some, Option.bind_none, Option.map_some, Option.map_none, Nat.zero_add, Nat.add_zero, Nat.reduceAdd, Nat.reduceSub, Nat.sub_self, Nat.reduceLeDiff, Nat.reduceEqDiff, Nat.le_refl, Nat.add_sub_cancel, if_true, if_false, Bool.false_eq_true, Bool.not_true, Bool.not_false, Bool.not_not, reduceIte, reduceCtorEq, and_self, and_true, true_and, decide_true, decide_false, semEq_str, semNe_str, semEq_int, semNe_int, semEq_bl, semNe_bl, atI0, atI1, atI2, atI3, atI4, OkS_nx, post_ok, items_lst, items_tup, semAt_lst, semAt_tup, semAt_str, semAt_dic, isi_str, hl, h1, h2, e, semAll, hb, hfin]
    · have hn : nmB (.str x) = false := by
        unfold nmB nameB
        by_cases c2 : 0 < x.length
        · have : ¬ x.length ≤ 8 := fun z => c1 ⟨c2, z⟩
          simp [this]
        · simp [c2]
      rw [hn]
      by_cases h1 : (1 : Int) ≤ (x.length : Int)
      · have h2 : ¬ (x.length : Int) ≤ 8 := fun z => c1 ⟨by omega, by omega⟩
        simp only [f_is_name, m_is_name, c_MOST_LETTERS, fnB, fnP, Rs.noE, startE, seqS, ifS, thenS, toB, op2, opN, op1, Opd.run, fill, lookV, look, Rs.bind, Rs.map, ofO, cD, vD, D.asB, semGt, semGe, semLt, semLe, setS, putS, DL.putF, shD, frzD, mvD, rtS, chgS, fillW, OV.lst?, OV.d, nxS, runs, looks, semInt, semMod, semFdiv, semAdd, semSub, semMul, semAbs, semLen, semTuple, semList, lstD, tupD, evs, callP, callB, slD, poN, poS, semSl, D.asI, appS, appF, extS, extF, augS, augF, exS, ifD, andT, orT, notT, notD, andD, orD, par2, par3, asgS, gN, gT, gsCons, gsNil, forD, rg1, rg2, itA, zpD, zip2, zipD, lcD, yesT, wipeE, m1D, tabD, semIs, semIsNot, D.isN, toT, orV, andV, notV, D.tru, chD, isiD, D.key, evPs, dicD, semDict, pairD, semRepr, callL, op2O, slO, opNO, lrgO, OV.flt, D.flt, semAddL, semMulL, semListL, mLD, popF, popS, insF, insS, clrS, revO, Rs.noE, List.map_cons, List.map_nil, List.length_cons, List.length_nil, List.length_map, List.replicate, List.cons_append, List.nil_append, List.append_nil, List.getElem?_cons_zero, List.getElem?_cons_succ, List.set_cons_zero, List.set_cons_succ, Option.bind_some, Option.bind_none, Option.map_some, Option.map_none, Nat.zero_add, Nat.add_zero, Nat.reduceAdd, Nat.reduceSub, Nat.sub_self, Nat.reduceLeDiff, Nat.reduceEqDiff, Nat.le_refl, Nat.add_sub_cancel, if_true, if_false, Bool.false_eq_true, Bool.not_true, Bool.not_false, Bool.not_not, reduceIte, reduceCtorEq, and_self, and_true, true_and, decide_true, decide_false, semEq_str, semNe_str, semEq_int, semNe_int, semEq_bl, semNe_bl, atI0, atI1, atI2, atI3, atI4, OkS_nx, post_ok, items_lst, items_tup, semAt_lst, semAt_tup, semAt_str, semAt_dic, isi_str, hl, h1, h2]
      · simp only [f_is_name, m_is_name, c_MOST_LETTERS, fnB, fnP, Rs.noE, startE, seqS, ifS, thenS, toB, op2, opN, op1, Opd.run, fill, lookV, look, Rs.bind, Rs.map, ofO, cD, vD, D.asB, semGt, semGe, semLt, semLe, setS, putS, DL.putF, shD, frzD, mvD, rtS, chgS, fillW, OV.lst?, OV.d, nxS, runs, looks, semInt, semMod, semFdiv, semAdd, semSub, semMul, semAbs, semLen, semTuple, semList, lstD, tupD, evs, callP, callB, slD, poN, poS, semSl, D.asI, appS, appF, extS, extF, augS, augF, exS, ifD, andT, orT, notT, notD, andD, orD, par2, par3, asgS, gN, gT, gsCons, gsNil, forD, rg1, rg2, itA, zpD, zip2, zipD, lcD, yesT, wipeE, m1D, tabD, semIs, semIsNot, D.isN, toT, orV, andV, notV, D.tru, chD, isiD, D.key, evPs, dicD, semDict, pairD, semRepr, callL, op2O, slO, opNO, lrgO, OV.flt, D.flt, semAddL, semMulL, semListL, mLD, popF, popS, insF, insS, clrS, revO, Rs.noE, List.map_cons, List.map_nil, List.length_cons, List.length_nil, List.length_map, List.replicate, List.cons_append, List.nil_append, List.append_nil, List.getElem?_cons_zero, List.getElem?_cons_succ, List.set_cons_zero, List.set_cons_succ, Option.bind_some, Option.bind_none, Option.map_some, Option.map_none, Nat.zero_add, Nat.add_zero, Nat.reduceAdd, Nat.reduceSub, Nat.sub_self, Nat.reduceLeDiff, Nat.reduceEqDiff, Nat.le_refl, Nat.add_sub_cancel, if_true, if_false, Bool.false_eq_true, Bool.not_true, Bool.not_false, Bool.not_not, reduceIte, reduceCtorEq, and_self, and_true, true_and, decide_true, decide_false, semEq_str, semNe_str, semEq_int, semNe_int, semEq_bl, semNe_bl, atI0, atI1, atI2, atI3, atI4, OkS_nx, post_ok, items_lst, items_tup, semAt_lst, semAt_tup, semAt_str, semAt_dic, isi_str, hl, h1]
  | scr _ => exact absurd h.rp Bool.false_ne_true
  | obj _ _ => exact absurd h.rp Bool.false_ne_true
  | _ => simp only [f_is_name, m_is_name, fnP, startE, seqS, ifS, orT, notT, toB, isiD, Opd.run, fill, lookV, look, Rs.bind, Rs.map, ofO, OV.d, thenS, rtS, shD, cD, D.asB, Rs.noE, List.map_cons, List.map_nil, List.length_cons, List.length_nil, List.length_map, List.replicate, List.cons_append, List.nil_append, List.append_nil, List.getElem?_cons_zero, List.getElem?_cons_succ, List.set_cons_zero, List.set_cons_succ, Option.bind_some, Option.bind_none, Option.map_some, Option.map_none, Nat.zero_add, Nat.add_zero, Nat.reduceAdd, Nat.reduceSub, Nat.sub_self, Nat.reduceLeDiff, Nat.reduceEqDiff, Nat.le_refl, Nat.add_sub_cancel, if_true, if_false, Bool.false_eq_true, Bool.not_true, Bool.not_false, Bool.not_not, reduceIte, reduceCtorEq, and_self, and_true, true_and, decide_true, decide_false, semEq_str, semNe_str, semEq_int, semNe_int, semEq_bl, semNe_bl, atI0, atI1, atI2, atI3, atI4, OkS_nx, post_ok, items_lst, items_tup, semAt_lst, semAt_tup, semAt_str, semAt_dic, isi_str, nmB]
theorem in_rel {x : Str} {w : Nat} (h : Gd 0 w (.str x)) : semIn2 (.str x) (.tup [.str "eq", .str "lt", .str "gt"]) = some (.bl (relB (.str x))) := by
  have hf : (D.str x).fit = true := by
    unfold D.fit
    rw [show (D.str x).pl = true from h.rp]; rfl
  have he : (D.tup [.str "eq", .str "lt", .str "gt"]).fit = true := by decide +kernel
  rw [semIn_tup true hf he rfl (fun e he => by
    simp only [List.mem_cons, List.not_mem_nil, or_false] at he
    rcases he with rfl | rfl | rfl <;> rfl)]
  simp [relB]
set_option maxHeartbeats 4000000 in
theorem isRel_eq {n w : Nat} {d : D} (h : Gd n w d) : f_is_relation [d] = some (.sh (.bl (relB d))) := by
  cases d with
  | str x =>
    have := in_rel (w := w) ⟨h.rp, Nat.le_refl _, h.wq⟩
    simp only [f_is_relation, m_is_relation, c_RELATIONS, fnB, fnP, Rs.noE, startE, seqS, ifS, thenS, toB, op2, opN, op1, Opd.run, fill, lookV, look, Rs.bind, Rs.map, ofO, cD, vD, D.asB, semGt, semGe, semLt, semLe, setS, putS, DL.putF, shD, frzD, mvD, rtS, chgS, fillW, OV.lst?, OV.d, nxS, runs, looks, semInt, semMod, semFdiv, semAdd, semSub, semMul, semAbs, semLen, semTuple, semList, lstD, tupD, evs, callP, callB, slD, poN, poS, semSl, D.asI, appS, appF, extS, extF, augS, augF, exS, ifD, andT, orT, notT, notD, andD, orD, par2, par3, asgS, gN, gT, gsCons, gsNil, forD, rg1, rg2, itA, zpD, zip2, zipD, lcD, yesT, wipeE, m1D, tabD, semIs, semIsNot, D.isN, toT, orV, andV, notV, D.tru, chD, isiD, D.key, evPs, dicD, semDict, pairD, semRepr, callL, op2O, slO, opNO, lrgO, OV.flt, D.flt, semAddL, semMulL, semListL, mLD, popF, popS, insF, insS, clrS, revO, Rs.noE, List.map_cons, List.map_nil, List.length_cons, List.length_nil, List.length_map, List.replicate, List.cons_append, List.nil_append, List.append_nil, List.getElem?_cons_zero, List.getElem?_cons_succ, List.set_cons_zero, List.set_cons_succ, Option.bind_some, Option.bind_none, Option.map_some, Option.map_none, Nat.zero_add, Nat.add_zero, Nat.reduceAdd, Nat.reduceSub, Nat.sub_self, Nat.reduceLeDiff, Nat.reduceEqDiff, Nat.le_refl, Nat.add_sub_cancel, if_true, if_false, Bool.false_eq_true, Bool.not_true, Bool.not_false, Bool.not_not, reduceIte, reduceCtorEq, and_self, and_true, true_and, decide_true, decide_false, semEq_str, semNe_str, semEq_int, semNe_int, semEq_bl, semNe_bl, atI0, atI1, atI2, atI3, atI4, OkS_nx, post_ok, items_lst, items_tup, semAt_lst, semAt_tup, semAt_str, semAt_dic, isi_str, this]
  | scr _ => exact absurd h.rp Bool.false_ne_true
  | obj _ _ => exact absurd h.rp Bool.false_ne_true
  | _ => simp only [f_is_relation, m_is_relation, fnP, startE, andD, isiD, Opd.run, fill, lookV, look, Rs.bind, Rs.map, ofO, OV.d, thenS, rtS, shD, cD, D.asB, Rs.noE, List.map_cons, List.map_nil, List.length_cons, List.length_nil, List.length_map, List.replicate, List.cons_append, List.nil_append, List.append_nil, List.getElem?_cons_zero, List.getElem?_cons_succ, List.set_cons_zero, List.set_cons_succ, Option.bind_some, Option.bind_none, Option.map_some, Option.map_none, Nat.zero_add, Nat.add_zero, Nat.reduceAdd, Nat.reduceSub, Nat.sub_self, Nat.reduceLeDiff, Nat.reduceEqDiff, Nat.le_refl, Nat.add_sub_cancel, if_true, if_false, Bool.false_eq_true, Bool.not_true, Bool.not_false, Bool.not_not, reduceIte, reduceCtorEq, and_self, and_true, true_and, decide_true, decide_false, semEq_str, semNe_str, semEq_int, semNe_int, semEq_bl, semNe_bl, atI0, atI1, atI2, atI3, atI4, OkS_nx, post_ok, items_lst, items_tup, semAt_lst, semAt_tup, semAt_str, semAt_dic, isi_str, relB]
end T

-- needs: is_name is_relation _law_names
namespace T
open PySem L2 DL
/-! ### any values: atoms, facts, patterns, rows -/
end T

-- needs: is_name is_relation _law_names
namespace T
open PySem L2 DL
theorem sm_gd {n w : Nat} {d : D} (h : Sm n w d) : Gd n w d := ⟨pl_rp d h.pl h.six, by rw [pl_dq d h.pl]; exact h.dp, by rw [pl_wq d h.pl]; exact h.wt⟩
theorem repr_gd {n w : Nat} {d : D} (h : Gd n w d) (hn : n ≤ 64 := by decide) (hw : w ≤ 1000000 := by decide) : semRepr [d] = some (.str d.py.shown) := by
  show (if d.shw then some (D.str d.py.shown) else if d.shx then some (D.str d.py.shown) else none) = _
  rw [h.shx hn hw]
  split <;> rfl
end T

-- needs: is_name is_relation _law_names
namespace T
open PySem L2 DL
/-! ### any values: further looks -/
end T

-- needs: is_name is_relation _law_names _law_is_name@84626e
namespace T
open PySem L2 DL
theorem notIn_let (c : Nat) : semNotIn2 (.str (one c)) (.str LET) = some (.bl (!(decide (97 ≤ c) && decide (c ≤ 122)))) := by
  have := in_let c
  unfold semIn2 at this
  unfold semNotIn2
  obtain ⟨b, h1, h2⟩ := Option.map_eq_some_iff.mp this
  cases h2
  rw [h1]; rfl
set_option maxHeartbeats 4000000 in
theorem lawIsName_eq {n w : Nat} {d : D} (h : Gd n w d) (hw : w ≤ 1000000) : f__law_is_name [d] = some (.sh (.bl (nmB d))) := by
  cases d with
  | str x =>
    have hl : x.length ≤ 1000000 := by have := str_wq h.wq; omega
    by_cases c1 : 1 ≤ x.length ∧ x.length ≤ 8
    · have e : lc__law_is_name_1 [some (.sh (.str x)), none] = .ok (.ow ((x.cps.toList.filter fun c => !(decide (97 ≤ c) && decide (c ≤ 122))).map fun c => D.str (one c))) [some (.sh (.str x)), none] :=
        lcD_mp (it := it__law_is_name_1) (vs := [1]) (h := gN 1) (t := ts__law_is_name_1) (elt := el__law_is_name_1) (r := [some (.sh (.str x)), none]) _ x.cps.toList (fun c => D.str (one c)) _ _ (by
          have hi : (D.str x).items = some (signs x) := if_pos hl
          simp only [it__law_is_name_1, itA, vD, Rs.bind, ofO, Rs.noE, List.map_cons, List.map_nil, List.length_cons, List.length_nil, List.length_map, List.replicate, List.cons_append, List.nil_append, List.append_nil, List.getElem?_cons_zero, List.getElem?_cons_succ, List.set_cons_zero, List.set_cons_succ, Option.bind_some, Option.bind_none, Option.map_some, Option.map_none, Nat.zero_add, Nat.add_zero, Nat.reduceAdd, Nat.reduceSub, Nat.sub_self, Nat.reduceLeDiff, Nat.reduceEqDiff, Nat.le_refl, Nat.add_sub_cancel, if_true, if_false, Bool.false_eq_true, Bool.not_true, Bool.not_false, Bool.not_not, reduceIte, reduceCtorEq, and_self, and_true, true_and, decide_true, decide_false, semEq_str, semNe_str, semEq_int, semNe_int, semEq_bl, semNe_bl, atI0, atI1, atI2, atI3, atI4, OkS_nx, post_ok, items_lst, items_tup, semAt_lst, semAt_tup, semAt_str, semAt_dic, hi]
          rfl) (by rw [← len_codes]; exact hl) rfl rfl (fun c _ => ⟨_, rfl, by
            have := notIn_let c
            simp only [ts__law_is_name_1, el__law_is_name_1, gN, fnB, fnP, Rs.noE, startE, seqS, ifS, thenS, toB, op2, opN, op1, Opd.run, fill, lookV, look, Rs.bind, Rs.map, ofO, cD, vD, D.asB, semGt, semGe, semLt, semLe, setS, putS, DL.putF, shD, frzD, mvD, rtS, chgS, fillW, OV.lst?, OV.d, nxS, runs, looks, semInt, semMod, semFdiv, semAdd, semSub, semMul, semAbs, semLen, semTuple, semList, lstD, tupD, evs, callP, callB, slD, poN, poS, semSl, D.asI, appS, appF, extS, extF, augS, augF, exS, ifD, andT, orT, notT, notD, andD, orD, par2, par3, asgS, gN, gT, gsCons, gsNil, forD, rg1, rg2, itA, zpD, zip2, zipD, lcD, yesT, wipeE, m1D, tabD, semIs, semIsNot, D.isN, toT, orV, andV, notV, D.tru, chD, isiD, D.key, evPs, dicD, semDict, pairD, semRepr, callL, op2O, slO, opNO, lrgO, OV.flt, D.flt, semAddL, semMulL, semListL, mLD, popF, popS, insF, insS, clrS, revO, Rs.noE, List.map_cons, List.map_nil, List.length_cons, List.length_nil, List.length_map, List.replicate, List.cons_append, List.nil_append, List.append_nil, List.getElem?_cons_zero, List.getElem?_cons_succ, List.set_cons_zero, List.set_cons_succ, Option.bind_some, Option.bind_none, Option.map_some, Option.map_none, Nat.zero_add, Nat.add_zero, Nat.reduceAdd, Nat.reduceSub, Nat.sub_self, Nat.reduceLeDiff, Nat.reduceEqDiff, Nat.le_refl, Nat.add_sub_cancel, if_true, if_false, Bool.false_eq_true, Bool.not_true, Bool.not_false, Bool.not_not, reduceIte, reduceCtorEq, and_self, and_true, true_and, decide_true, decide_false, semEq_str, semNe_str, semEq_int, semNe_int, semEq_bl, semNe_bl, atI0, atI1, atI2, atI3, atI4, OkS_nx, post_ok, items_lst, items_tup, semAt_lst, semAt_tup, semAt_str, semAt_dic, this]
            exact fun _ => trivial⟩)
      have h1 : (0 : Int) < (x.length : Int) := by omega
      have h2 : (x.length : Int) < 9 := by omega
      have hs : semEq (.lst ((x.cps.toList.filter fun c => !(decide (97 ≤ c) && decide (c ≤ 122))).map fun c => D.str (one c))) (.lst []) = some (.bl (nmB (.str x))) := by
        have hpl : ∀ c ∈ x.cps.toList, c < 1114112 := by
          have h := h.rp
          have h : x.cps.all (· < 1114112) = true := h
          intro c hc
          exact of_decide_eq_true (Array.all_eq_true_iff_forall_mem.mp h c (by simpa using hc))
        rw [semEq_of true (Sm.all (n := 0) (w := 12) fun d hd => by
          obtain ⟨c, hc, rfl⟩ := List.mem_map.mp hd
          refine ⟨pl_of_fit (fit_str fun c' hc' => ?_), rfl, Nat.zero_le _, Nat.le_refl _⟩
          have : c' = c := List.mem_singleton.mp hc'
          rw [this]
          exact hpl c (List.mem_filter.mp hc).1).1 (by decide) (clAll_iff.mpr fun d hd => by
            obtain ⟨c, _, rfl⟩ := List.mem_map.mp hd
            rfl) rfl]
        simp only [D.lst.injEq, List.map_eq_nil_iff, List.filter_eq_nil_iff, Bool.not_eq_true', Bool.not_eq_false]
        show some (D.bl (decide _)) = some (D.bl (decide (0 < x.length) && decide (x.length ≤ 8) && x.cps.toList.all fun c => decide (97 ≤ c) && decide (c ≤ 122)))
        rw [decide_eq_true (show 0 < x.length by omega), decide_eq_true c1.2, Bool.true_and, Bool.true_and]
        congr 2
        rw [Bool.eq_iff_iff, decide_eq_true_eq, List.all_eq_true]
      simp only [f__law_is_name, m__law_is_name, fnB, fnP, Rs.noE, startE, seqS, ifS, thenS, toB, op2, opN, op1, Opd.run, fill, lookV, look, Rs.bind, Rs.map, ofO, cD, vD, D.asB, semGt, semGe, semLt, semLe, setS, putS, DL.putF, shD, frzD, mvD, rtS, chgS, fillW, OV.lst?, OV.d, nxS, runs, looks, semInt, semMod, semFdiv, semAdd, semSub, semMul, semAbs, semLen, semTuple, semList, lstD, tupD, evs, callP, callB, slD, poN, poS, semSl, D.asI, appS, appF, extS, extF, augS, augF, exS, ifD, andT, orT, notT, notD, andD, orD, par2, par3, asgS, gN, gT, gsCons, gsNil, forD, rg1, rg2, itA, zpD, zip2, zipD, lcD, yesT, wipeE, m1D, tabD, semIs, semIsNot, D.isN, toT, orV, andV, notV, D.tru, chD, isiD, D.key, evPs, dicD, semDict, pairD, semRepr, callL, op2O, slO, opNO, lrgO, OV.flt, D.flt, semAddL, semMulL, semListL, mLD, popF, popS, insF, insS, clrS, revO, Rs.noE, List.map_cons, List.map_nil, List.length_cons, List.length_nil, List.length_map, List.replicate, List.cons_append, List.nil_append, List.append_nil, List.getElem?_cons_zero, List.getElem?_cons_succ, List.set_cons_zero, List.set_cons_succ, Option.bind_some, Option.bind_none, Option.map_some, Option.map_none, Nat.zero_add, Nat.add_zero, Nat.reduceAdd, Nat.reduceSub, Nat.sub_self, Nat.reduceLeDiff, Nat.reduceEqDiff, Nat.le_refl, Nat.add_sub_cancel, if_true, if_false, Bool.false_eq_true, Bool.not_true, Bool.not_false, Bool.not_not, reduceIte, reduceCtorEq, and_self, and_true, true_and, decide_true, decide_false, semEq_str, semNe_str, semEq_int, semNe_int, semEq_bl, semNe_bl, atI0, atI1, atI2, atI3, atI4, OkS_nx, post_ok, items_lst, items_tup, semAt_lst, semAt_tup, semAt_str, semAt_dic, isi_str, hl, h1, h2, e, hs]
    · have hn : nmB (.str x) = false := by
        unfold nmB nameB
        by_cases c2 : 0 < x.length
        · have : ¬ x.length ≤ 8 := fun z => c1 ⟨c2, z⟩
          simp [this]
        · simp [c2]
      rw [hn]
      by_cases h1 : (0 : Int) < (x.length : Int)
      · have h2 : ¬ (x.length : Int) < 9 := fun z => c1 ⟨by omega, by omega⟩
        simp only [f__law_is_name, m__law_is_name, fnB, fnP, Rs.noE, startE, seqS, ifS, thenS, toB, op2, opN, op1, Opd.run, fill, lookV, look, Rs.bind, Rs.map, ofO, cD, vD, D.asB, semGt, semGe, semLt, semLe, setS, putS, DL.putF, shD, frzD, mvD, rtS, chgS, fillW, OV.lst?, OV.d, nxS, runs, looks, semInt, semMod, semFdiv, semAdd, semSub, semMul, semAbs, semLen, semTuple, semList, lstD, tupD, evs, callP, callB, slD, poN, poS, semSl, D.asI, appS, appF, extS, extF, augS, augF, exS, ifD, andT, orT, notT, notD, andD, orD, par2, par3, asgS, gN, gT, gsCons, gsNil, forD, rg1, rg2, itA, zpD, zip2, zipD, lcD, yesT, wipeE, m1D, tabD, semIs, semIsNot, D.isN, toT, orV, andV, notV, D.tru, chD, isiD, D.key, evPs, dicD, semDict, pairD, semRepr, callL, op2O, slO, opNO, lrgO, OV.flt, D.flt, semAddL, semMulL, semListL, mLD, popF, popS, insF, insS, clrS, revO, Rs.noE, List.map_cons, List.map_nil, List.length_cons, List.length_nil, List.length_map, List.replicate, List.cons_append, List.nil_append, List.append_nil, List.getElem?_cons_zero, List.getElem?_cons_succ, List.set_cons_zero, List.set_cons_succ, Option.bind_some, Option.bind_none, Option.map_some, Option.map_none, Nat.zero_add, Nat.add_zero, Nat.reduceAdd, Nat.reduceSub, Nat.sub_self, Nat.reduceLeDiff, Nat.reduceEqDiff, Nat.le_refl, Nat.add_sub_cancel, if_true, if_false, Bool.false_eq_true, Bool.not_true, Bool.not_false, Bool.not_not, reduceIte, reduceCtorEq, and_self, and_true, true_and, decide_true, decide_false, semEq_str, semNe_str, semEq_int, semNe_int, semEq_bl, semNe_bl, atI0, atI1, atI2, atI3, atI4, OkS_nx, post_ok, items_lst, items_tup, semAt_lst, semAt_tup, semAt_str, semAt_dic, isi_str, hl, h1, h2]
      · simp only [f__law_is_name, m__law_is_name, fnB, fnP, Rs.noE, startE, seqS, ifS, thenS, toB, op2, opN, op1, Opd.run, fill, lookV, look, Rs.bind, Rs.map, ofO, cD, vD, D.asB, semGt, semGe, semLt, semLe, setS, putS, DL.putF, shD, frzD, mvD, rtS, chgS, fillW, OV.lst?, OV.d, nxS, runs, looks, semInt, semMod, semFdiv, semAdd, semSub, semMul, semAbs, semLen, semTuple, semList, lstD, tupD, evs, callP, callB, slD, poN, poS, semSl, D.asI, appS, appF, extS, extF, augS, augF, exS, ifD, andT, orT, notT, notD, andD, orD, par2, par3, asgS, gN, gT, gsCons, gsNil, forD, rg1, rg2, itA, zpD, zip2, zipD, lcD, yesT, wipeE, m1D, tabD, semIs, semIsNot, D.isN, toT, orV, andV, notV, D.tru, chD, isiD, D.key, evPs, dicD, semDict, pairD, semRepr, callL, op2O, slO, opNO, lrgO, OV.flt, D.flt, semAddL, semMulL, semListL, mLD, popF, popS, insF, insS, clrS, revO, Rs.noE, List.map_cons, List.map_nil, List.length_cons, List.length_nil, List.length_map, List.replicate, List.cons_append, List.nil_append, List.append_nil, List.getElem?_cons_zero, List.getElem?_cons_succ, List.set_cons_zero, List.set_cons_succ, Option.bind_some, Option.bind_none, Option.map_some, Option.map_none, Nat.zero_add, Nat.add_zero, Nat.reduceAdd, Nat.reduceSub, Nat.sub_self, Nat.reduceLeDiff, Nat.reduceEqDiff, Nat.le_refl, Nat.add_sub_cancel, if_true, if_false, Bool.false_eq_true, Bool.not_true, Bool.not_false, Bool.not_not, reduceIte, reduceCtorEq, and_self, and_true, true_and, decide_true, decide_false, semEq_str, semNe_str, semEq_int, semNe_int, semEq_bl, semNe_bl, atI0, atI1, atI2, atI3, atI4, OkS_nx, post_ok, items_lst, items_tup, semAt_lst, semAt_tup, semAt_str, semAt_dic, isi_str, hl, h1]
  | scr _ => exact absurd h.rp Bool.false_ne_true
  | obj _ _ => exact absurd h.rp Bool.false_ne_true
  | _ => simp only [f__law_is_name, m__law_is_name, fnP, startE, seqS, ifS, orT, notT, toB, isiD, Opd.run, fill, lookV, look, Rs.bind, Rs.map, ofO, OV.d, thenS, rtS, shD, cD, D.asB, Rs.noE, List.map_cons, List.map_nil, List.length_cons, List.length_nil, List.length_map, List.replicate, List.cons_append, List.nil_append, List.append_nil, List.getElem?_cons_zero, List.getElem?_cons_succ, List.set_cons_zero, List.set_cons_succ, Option.bind_some, Option.bind_none, Option.map_some, Option.map_none, Nat.zero_add, Nat.add_zero, Nat.reduceAdd, Nat.reduceSub, Nat.sub_self, Nat.reduceLeDiff, Nat.reduceEqDiff, Nat.le_refl, Nat.add_sub_cancel, if_true, if_false, Bool.false_eq_true, Bool.not_true, Bool.not_false, Bool.not_not, reduceIte, reduceCtorEq, and_self, and_true, true_and, decide_true, decide_false, semEq_str, semNe_str, semEq_int, semNe_int, semEq_bl, semNe_bl, atI0, atI1, atI2, atI3, atI4, OkS_nx, post_ok, items_lst, items_tup, semAt_lst, semAt_tup, semAt_str, semAt_dic, isi_str, nmB]
end T

-- needs: is_name is_relation _law_names _law_some _law_odd@b109c9
namespace T
open PySem L2 DL
/-! ### odd values -/
def oddL : List D := [.non, .int 5, .str "a", .str "", .tup [], .lst [], .dic [], .tup [.str "eq"], .bl true, .int (10 ^ 39), .lst [.non], .tup [.str "name", .str "a"], .str "eq", .int (-1), .tup [.int 0, .int 1],
  .str "a1", .str "aB", .str "a_", .str "a{", .str "a\n", .dic [(.inr "a", .int 1)], .str "ab b", .str "abcdefghi", .tup [.str "last"], .tup [.str "", .str "", .str ""]]
theorem odd_gd : ∀ d ∈ oddL, Gd 1 2000 d := by
  have h1 : (oddL.all fun d => d.rp) = true := by decide +kernel
  have h2 : (oddL.all fun d => decide (d.dq ≤ 1)) = true := by decide +kernel
  have h3 : (oddL.all fun d => decide (d.wq ≤ 2000)) = true := by decide +kernel
  exact fun d hd => ⟨List.all_eq_true.mp h1 d hd, of_decide_eq_true (List.all_eq_true.mp h2 d hd), of_decide_eq_true (List.all_eq_true.mp h3 d hd)⟩
set_option maxHeartbeats 8000000 in
theorem odd_ok {bs : List D} (hb : BagOk bs) : ∃ d bs', f__law_odd bs [] = some (.sh d, bs') ∧ d ∈ oddL ∧ BagOk bs' := by
  obtain ⟨d, b', e, hd, hb'⟩ := some_ok hb oddL (by decide) (by decide)
  refine ⟨d, b', ?_, hd, hb'⟩
  have hp : semPow (.int 10) (.int 39) = some (.int (10 ^ 39)) := rfl
  have hn : semNeg (.int 1) = some (.int (-1)) := rfl
  have hm : mergeD [] [((Sum.inr "a" : Key), D.int 1)] = [((Sum.inr "a" : Key), D.int 1)] := rfl
  unfold oddL at e
  simp only [f__law_odd, m__law_odd, fnB, fnP, Rs.noE, startE, seqS, ifS, thenS, toB, op2, opN, op1, Opd.run, fill, lookV, look, Rs.bind, Rs.map, ofO, cD, vD, D.asB, semGt, semGe, semLt, semLe, setS, putS, DL.putF, shD, frzD, mvD, rtS, chgS, fillW, OV.lst?, OV.d, nxS, runs, looks, semInt, semMod, semFdiv, semAdd, semSub, semMul, semAbs, semLen, semTuple, semList, lstD, tupD, evs, callP, callB, slD, poN, poS, semSl, D.asI, appS, appF, extS, extF, augS, augF, exS, ifD, andT, orT, notT, notD, andD, orD, par2, par3, asgS, gN, gT, gsCons, gsNil, forD, rg1, rg2, itA, zpD, zip2, zipD, lcD, yesT, wipeE, m1D, tabD, semIs, semIsNot, D.isN, toT, orV, andV, notV, D.tru, chD, isiD, D.key, evPs, dicD, semDict, pairD, semRepr, callL, op2O, slO, opNO, lrgO, OV.flt, D.flt, semAddL, semMulL, semListL, mLD, popF, popS, insF, insS, clrS, revO, Rs.noE, List.map_cons, List.map_nil, List.length_cons, List.length_nil, List.length_map, List.replicate, List.cons_append, List.nil_append, List.append_nil, List.getElem?_cons_zero, List.getElem?_cons_succ, List.set_cons_zero, List.set_cons_succ, Option.bind_some, Option.bind_none, Option.map_some, Option.map_none, Nat.zero_add, Nat.add_zero, Nat.reduceAdd, Nat.reduceSub, Nat.sub_self, Nat.reduceLeDiff, Nat.reduceEqDiff, Nat.le_refl, Nat.add_sub_cancel, if_true, if_false, Bool.false_eq_true, Bool.not_true, Bool.not_false, Bool.not_not, reduceIte, reduceCtorEq, and_self, and_true, true_and, decide_true, decide_false, semEq_str, semNe_str, semEq_int, semNe_int, semEq_bl, semNe_bl, atI0, atI1, atI2, atI3, atI4, OkS_nx, post_ok, items_lst, items_tup, semAt_lst, semAt_tup, semAt_str, semAt_dic, hp, hn, hm, e]
end T

-- needs: is_name is_relation _law_names is_integer
namespace T
open PySem L2 DL
theorem isInt_eq {d : D} (h : d.rp = true) : f_is_integer [d] = some (.sh (.bl (match d with | .int _ => true | _ => false))) := by
  cases d with
  | scr _ => exact absurd h Bool.false_ne_true
  | obj _ _ => exact absurd h Bool.false_ne_true
  | _ => simp only [f_is_integer, m_is_integer, fnP, startE, andD, notD, isiD, Opd.run, fill, lookV, look, Rs.bind, Rs.map, ofO, OV.d, thenS, rtS, shD, cD, D.asB, Rs.noE, List.map_cons, List.map_nil, List.length_cons, List.length_nil, List.length_map, List.replicate, List.cons_append, List.nil_append, List.append_nil, List.getElem?_cons_zero, List.getElem?_cons_succ, List.set_cons_zero, List.set_cons_succ, Option.bind_some, Option.bind_none, Option.map_some, Option.map_none, Nat.zero_add, Nat.add_zero, Nat.reduceAdd, Nat.reduceSub, Nat.sub_self, Nat.reduceLeDiff, Nat.reduceEqDiff, Nat.le_refl, Nat.add_sub_cancel, if_true, if_false, Bool.false_eq_true, Bool.not_true, Bool.not_false, Bool.not_not, reduceIte, reduceCtorEq, and_self, and_true, true_and, decide_true, decide_false, semEq_str, semNe_str, semEq_int, semNe_int, semEq_bl, semNe_bl, atI0, atI1, atI2, atI3, atI4, OkS_nx, post_ok, items_lst, items_tup, semAt_lst, semAt_tup, semAt_str, semAt_dic, D.isi, D.ty, isTy] <;> rfl
end T

-- needs: fresh _law_names
namespace T
open PySem L2 DL
/-! ### names in their order -/
def rkr : List Nat → Nat
  | [] => 0
  | c :: l => 26 * rkr l + (c - 96)
def rk (x : Str) : Nat := rkr x.cps.toList.reverse
def Low (l : List Nat) : Prop := ∀ c ∈ l, 97 ≤ c ∧ c ≤ 122
theorem Low.rev {l : List Nat} (h : Low l) : Low l.reverse := fun c hc => h c (List.mem_reverse.mp hc)
theorem rkr_pos {c : Nat} {l : List Nat} (h : Low (c :: l)) : 0 < rkr (c :: l) := by
  have := h c List.mem_cons_self
  show 0 < 26 * rkr l + (c - 96)
  omega
theorem rkr_inj : ∀ {l m : List Nat}, Low l → Low m → rkr l = rkr m → l = m
  | [], [], _, _, _ => rfl
  | [], c :: m, _, hm, e => by
    have := rkr_pos hm
    rw [← e] at this
    exact absurd this (by decide)
  | c :: l, [], hl, _, e => by
    have := rkr_pos hl
    rw [e] at this
    exact absurd this (by decide)
  | c :: l, d :: m, hl, hm, e => by
    have h1 := hl c List.mem_cons_self
    have h2 := hm d List.mem_cons_self
    have e : 26 * rkr l + (c - 96) = 26 * rkr m + (d - 96) := e
    have ec : c = d := by omega
    have el : rkr l = rkr m := by omega
    rw [ec, rkr_inj (fun x hx => hl x (List.mem_cons_of_mem _ hx)) (fun x hx => hm x (List.mem_cons_of_mem _ hx)) el]
theorem str_ext {x y : Str} (h : x.cps.toList = y.cps.toList) : x = y := PySem.W.str_of_cps h
theorem rk_inj {x y : Str} (hx : Low x.cps.toList) (hy : Low y.cps.toList) (e : rk x = rk y) : x = y := by
  refine str_ext ?_
  have := rkr_inj hx.rev hy.rev e
  exact List.reverse_inj.mp this
theorem rk_snoc (x : Str) (c : Nat) : rk (x ++ one c) = 26 * rk x + (c - 96) := by
  unfold rk
  rw [app_codes, List.reverse_append]
  rfl
theorem NameOk.low' {x : Str} (h : NameOk x) : Low x.cps.toList := h.low
def lts : List Str := LET.cps.toList.map one
def nxt (L : List Str) : List Str := L.flatMap fun x => LET.cps.toList.map fun c => x ++ one c
theorem lts_rk : lts.map rk = List.range' 1 26 := by decide +kernel
theorem let_rk (a : Nat) : (LET.cps.toList.map fun c => 26 * a + (c - 96)) = List.range' (26 * a + 1) 26 := by
  rw [let_codes]
  have e : ∀ n, ((List.range n).map (97 + ·)).map (fun c => 26 * a + (c - 96)) = List.range' (26 * a + 1) n := fun n => by
    rw [List.map_map, List.range'_eq_map_range]
    refine List.map_congr_left fun i _ => ?_
    show 26 * a + (97 + i - 96) = 26 * a + 1 + i
    omega
  exact e 26
theorem nxt_rk : ∀ (L : List Str) (a m : Nat), L.map rk = List.range' a m → (nxt L).map rk = List.range' (26 * a + 1) (26 * m)
  | [], a, m, h => by
    have : m = 0 := by
      have := congrArg List.length h
      simpa using this.symm
    subst this
    rfl
  | x :: L, a, m, h => by
    cases m with
    | zero => simp at h
    | succ m =>
      rw [List.map_cons, List.range'_succ] at h
      obtain ⟨h1, h2⟩ := List.cons.inj h
      have ih := nxt_rk L (a + 1) m h2
      have e : nxt (x :: L) = (LET.cps.toList.map fun c => x ++ one c) ++ nxt L := rfl
      have e1 : ((LET.cps.toList.map fun c => x ++ one c).map rk) = List.range' (26 * a + 1) 26 := by
        rw [List.map_map, ← let_rk a]
        refine List.map_congr_left fun c _ => ?_
        show rk (x ++ one c) = _
        rw [rk_snoc, h1]
      rw [e, List.map_append, e1, ih, show 26 * (a + 1) + 1 = (26 * a + 1) + 26 by omega, List.range'_append_1, show 26 * (m + 1) = 26 + 26 * m by omega]
def lev1 : List Str := nxt lts
def lev2 : List Str := nxt lev1
def allN : List Str := lts ++ (lev1 ++ lev2)
theorem lev1_rk : lev1.map rk = List.range' 27 676 := nxt_rk lts 1 26 lts_rk
theorem lev2_rk : lev2.map rk = List.range' 703 17576 := nxt_rk lev1 27 676 lev1_rk
theorem allN_rk : allN.map rk = List.range' 1 18278 := by
  unfold allN
  rw [List.map_append, List.map_append, lts_rk, lev1_rk, lev2_rk]
  have e1 : List.range' 27 676 ++ List.range' 703 17576 = List.range' 27 18252 := by
    have := @List.range'_append_1 27 676 17576
    exact this
  rw [e1]
  exact @List.range'_append_1 1 26 18252
theorem lts_ok : ∀ x ∈ lts, Low x.cps.toList ∧ x.length = 1 := fun x hx => by
  obtain ⟨c, hc, rfl⟩ := List.mem_map.mp hx
  have : 97 ≤ c ∧ c ≤ 122 := by
    rw [let_codes] at hc
    obtain ⟨i, hi, rfl⟩ := List.mem_map.mp hc
    have := List.mem_range.mp hi
    omega
  exact ⟨fun d hd => by
    have : d = c := by simpa [one] using hd
    rw [this]; assumption, rfl⟩
theorem nxt_ok {L : List Str} {n : Nat} (h : ∀ x ∈ L, Low x.cps.toList ∧ x.length = n) : ∀ x ∈ nxt L, Low x.cps.toList ∧ x.length = n + 1 := fun x hx => by
  obtain ⟨y, hy, hx⟩ := List.mem_flatMap.mp hx
  obtain ⟨c, hc, rfl⟩ := List.mem_map.mp hx
  obtain ⟨h1, h2⟩ := h y hy
  obtain ⟨g1, g2⟩ := lts_ok (one c) (List.mem_map.mpr ⟨c, hc, rfl⟩)
  refine ⟨fun d hd => ?_, ?_⟩
  · rw [app_codes] at hd
    rcases List.mem_append.mp hd with hd | hd
    · exact h1 d hd
    · exact g1 d hd
  · rw [len_codes, app_codes, List.length_append, ← len_codes, ← len_codes, h2, g2]
theorem name_of {x : Str} {n : Nat} (h : Low x.cps.toList ∧ x.length = n) (h0 : 0 < n) (h8 : n ≤ 8) : NameOk x := by
  refine nameB_ok ?_
  unfold nameB
  rw [h.2, decide_eq_true h0, decide_eq_true h8]
  exact List.all_eq_true.mpr fun c hc => by
    have := h.1 c hc
    simp [this.1, this.2]
theorem allN_ok : ∀ x ∈ allN, NameOk x := fun x hx => by
  rcases List.mem_append.mp hx with hx | hx
  · exact name_of (lts_ok x hx) (by decide) (by decide)
  · rcases List.mem_append.mp hx with hx | hx
    · exact name_of (nxt_ok lts_ok x hx) (by decide) (by decide)
    · exact name_of (nxt_ok (nxt_ok lts_ok) x hx) (by decide) (by decide)
theorem allN_len : allN.length = 18278 := by
  have := congrArg List.length allN_rk
  simpa using this
theorem allN_nodup : allN.Nodup := by
  have h : (allN.map rk).Nodup := by rw [allN_rk]; exact List.nodup_range'
  exact (List.pairwise_map.mp h).imp fun h e => h (by rw [e])
theorem allN_at {i : Nat} {x : Str} (h : allN[i]? = some x) : rk x = i + 1 := by
  have h2 : (allN.map rk)[i]? = some (rk x) := by rw [List.getElem?_map, h]; rfl
  rw [allN_rk] at h2
  obtain ⟨hi, e⟩ := List.getElem?_eq_some_iff.mp h2
  rw [List.getElem_range'] at e
  omega
/-- t is the first name that is none of xs -/
structure Fresh (xs : List Str) (t : Str) : Prop where
  nm : NameOk t
  out : t ∉ xs
  all : ∀ u, NameOk u → rk u < rk t → u ∈ xs
  some : ∀ j, 0 < j → j < rk t → ∃ u, NameOk u ∧ rk u = j
theorem Fresh.uniq {xs ys : List Str} {t u : Str} (h : Fresh xs t) (g : Fresh ys u) (e : ∀ x, x ∈ xs ↔ x ∈ ys) : t = u := by
  rcases Nat.lt_trichotomy (rk t) (rk u) with l | l | l
  · exact absurd ((e t).mpr (g.all t h.nm l)) h.out
  · exact rk_inj h.nm.low' g.nm.low' l
  · exact absurd ((e u).mp (h.all u g.nm l)) g.out
theorem fresh_of {xs : List Str} {t : Str} {A B : List Str} (e : allN = A ++ t :: B) (hA : ∀ x ∈ A, x ∈ xs) (ht : t ∉ xs) : Fresh xs t := by
  have hm : t ∈ allN := by rw [e]; simp
  have hr : rk t = A.length + 1 := allN_at (i := A.length) (by rw [e]; simp)
  have hlen : A.length < 18278 := by rw [← allN_len, e]; simp
  have at_ : ∀ j, 0 < j → j < rk t → ∃ u, u ∈ A ∧ rk u = j := fun j h0 hj => by
    have hja : j - 1 < A.length := by omega
    refine ⟨A[j - 1], List.getElem_mem hja, ?_⟩
    have : allN[j - 1]? = some A[j - 1] := by rw [e, List.getElem?_append_left hja, List.getElem?_eq_getElem hja]
    rw [allN_at this]
    omega
  refine ⟨allN_ok t hm, ht, fun u hu hl => ?_, fun j h0 hj => ?_⟩
  · have hp : 0 < rk u := by
      unfold rk
      have hlu := hu.low'.rev
      cases hc : u.cps.toList.reverse with
      | nil =>
        have h0 := hu.pos
        have : u.length = 0 := by rw [len_codes, ← List.length_reverse, hc]; rfl
        omega
      | cons c l => rw [hc] at hlu; exact rkr_pos hlu
    obtain ⟨v, hv, ev⟩ := at_ (rk u) hp hl
    have : u = v := rk_inj hu.low' (allN_ok v (by rw [e]; exact List.mem_append_left _ hv)).low' ev.symm
    rw [this]
    exact hA v hv
  · obtain ⟨u, hu, eu⟩ := at_ j h0 hj
    exact ⟨u, allN_ok u (by rw [e]; exact List.mem_append_left _ hu), eu⟩
/-! ### fresh -/
def envF (xs L : List Str) (o2 o3 : Option OV) : En := [some (.sh (.lst (xs.map D.str))), some (.sh (.lst (L.map D.str))), o2, o3]
theorem plAll_strs : ∀ {xs : List Str}, (∀ x ∈ xs, (D.str x).pl = true) → plAll (xs.map D.str) = true
  | [], _ => rfl
  | x :: xs, h => by
    show ((D.str x).pl && plAll (xs.map D.str)) = true
    rw [h x List.mem_cons_self, plAll_strs fun y hy => h y (List.mem_cons_of_mem _ hy)]
    rfl
theorem dpAll_strs : ∀ xs : List Str, dpAll (xs.map D.str) = 0
  | [] => rfl
  | x :: xs => by
    show max (D.str x).dp (dpAll (xs.map D.str)) = 0
    rw [dpAll_strs xs]
    rfl
theorem fit_strsP {xs : List Str} (h : ∀ x ∈ xs, (D.str x).pl = true) : (D.lst (xs.map D.str)).fit = true := by
  unfold D.fit
  rw [show (D.lst (xs.map D.str)).pl = plAll (xs.map D.str) from rfl, plAll_strs h, show (D.lst (xs.map D.str)).dp = dpAll (xs.map D.str) + 1 from rfl, dpAll_strs]
  rfl
theorem notIn_strsP {xs : List Str} {x : Str} (hx : NameOk x) (h : ∀ x ∈ xs, (D.str x).pl = true) : semNotIn2 (.str x) (.lst (xs.map D.str)) = some (.bl (decide (x ∉ xs))) := by
  rw [semNotIn_lst true hx.fit (fit_strsP h) rfl cl_strs]
  simp only [mem_strs, decide_not]
set_option maxHeartbeats 2000000 in
theorem fresh_for {xs L : List Str} (hx : ∀ x ∈ xs, (D.str x).pl = true) (hL : ∀ x ∈ L, NameOk x) (o2 o3 : Option OV) : ∃ o2', fr_fresh_1 (envF xs L o2 o3) = match L.find? (fun t => decide (t ∉ xs)) with
    | some t => .rt (.sh (.str t)) (envF xs L o2' o3)
    | none => .nx (envF xs L o2' o3) := by
  obtain ⟨g, e⟩ := forS_find (h := gN 2) (body := bd_fresh_1) L D.str (fun o => envF xs L o o3) (fun t => decide (t ∉ xs)) (fun t => .sh (.str t)) (fun o t ht => by
    refine ⟨envF xs L (some (.sh (.str t))) o3, some (.sh (.str t)), rfl, ?_⟩
    have hin := notIn_strsP (hL t ht) hx
    cases hd : decide (t ∉ xs) with
    | true =>
      rw [hd] at hin
      simp only [bd_fresh_1, envF, ifS, toB, op2, Opd.run, fill, Rs.bind, look, lookV, ofO, OV.d, hin, D.asB, thenS, rtS, mvD, Rs.noE, List.map_cons, List.map_nil, List.length_cons, List.length_nil, List.length_map, List.replicate, List.cons_append, List.nil_append, List.append_nil, List.getElem?_cons_zero, List.getElem?_cons_succ, List.set_cons_zero, List.set_cons_succ, Option.bind_some, Option.bind_none, Option.map_some, Option.map_none, Nat.zero_add, Nat.add_zero, Nat.reduceAdd, Nat.reduceSub, Nat.sub_self, Nat.reduceLeDiff, Nat.reduceEqDiff, Nat.le_refl, Nat.add_sub_cancel, if_true, if_false, Bool.false_eq_true, Bool.not_true, Bool.not_false, Bool.not_not, reduceIte, reduceCtorEq, and_self, and_true, true_and, decide_true, decide_false, semEq_str, semNe_str, semEq_int, semNe_int, semEq_bl, semNe_bl, atI0, atI1, atI2, atI3, atI4, OkS_nx, post_ok, items_lst, items_tup, semAt_lst, semAt_tup, semAt_str, semAt_dic, OV.flt, D.flt]
    | false =>
      rw [hd] at hin
      simp only [bd_fresh_1, envF, ifS, toB, op2, Opd.run, fill, Rs.bind, look, lookV, ofO, OV.d, hin, D.asB, thenS, nxS, Rs.noE, List.map_cons, List.map_nil, List.length_cons, List.length_nil, List.length_map, List.replicate, List.cons_append, List.nil_append, List.append_nil, List.getElem?_cons_zero, List.getElem?_cons_succ, List.set_cons_zero, List.set_cons_succ, Option.bind_some, Option.bind_none, Option.map_some, Option.map_none, Nat.zero_add, Nat.add_zero, Nat.reduceAdd, Nat.reduceSub, Nat.sub_self, Nat.reduceLeDiff, Nat.reduceEqDiff, Nat.le_refl, Nat.add_sub_cancel, if_true, if_false, Bool.false_eq_true, Bool.not_true, Bool.not_false, Bool.not_not, reduceIte, reduceCtorEq, and_self, and_true, true_and, decide_true, decide_false, semEq_str, semNe_str, semEq_int, semNe_int, semEq_bl, semNe_bl, atI0, atI1, atI2, atI3, atI4, OkS_nx, post_ok, items_lst, items_tup, semAt_lst, semAt_tup, semAt_str, semAt_dic]) o2
  refine ⟨g, ?_⟩
  have h2 : fr_fresh_1 (envF xs L o2 o3) = _ := forD_of (f := it_fresh_1) (h := gN 2) (b := bd_fresh_1) rfl e
  rw [h2]
  cases L.find? (fun t => decide (t ∉ xs)) <;> rfl
set_option maxHeartbeats 2000000 in
theorem fresh_next {xs L : List Str} (hL : ∀ x ∈ L, NameOk x) (hl : L.length * 26 ≤ 1000000) (o2 o3 : Option OV) : setS 1 (shD (frzD lc_fresh_1)) (envF xs L o2 o3) = .nx (envF xs (nxt L) none none) := by
  have hn : (nxt L).map D.str = L.flatMap fun x => LET.cps.toList.map fun c => D.str (x ++ one c) := by
    unfold nxt
    rw [List.map_flatMap]
    simp only [List.map_map]
    rfl
  have e26 : LET.cps.toList.length = 26 := by rw [let_codes]; rfl
  have hlen : (L.flatMap fun x => LET.cps.toList.map fun c => D.str (x ++ one c)).length ≤ 1000000 := by
    rw [List.length_flatMap]
    have : (L.map fun a => (LET.cps.toList.map fun c => D.str (a ++ one c)).length) = L.map fun _ => 26 := List.map_congr_left fun a _ => by rw [List.length_map, e26]
    rw [this, List.map_const', List.sum_replicate_nat]
    exact hl
  have hit : ∀ x : Str, x.length ≤ 1000000 → (D.str x).items = some (signs x) := fun x h => if_pos h
  have hlet := hit LET (by rw [let_len]; decide)
  have := lc2D_mp1 (it := it_fresh_2) (it1 := it_fresh_3) (vs := [2, 3]) (vs1 := [3]) (h := gN 2) (h1 := gN 3) (elt := el_fresh_1) (r := envF xs L o2 o3) (r1 := envF xs L o2 o3) (envF xs L none none) L D.str (fun _ => LET.cps.toList) (fun _ c => D.str (one c)) (fun x c => D.str (x ++ one c)) (fun x => envF xs L (some (.sh (.str x))) none) (by decide) rfl rfl rfl hlen (fun x hx => by
    refine ⟨envF xs L (some (.sh (.str x))) none, rfl, rfl, ?_⟩
    have e : it_fresh_3 (envF xs L (some (.sh (.str x))) none) = .ok (signs LET) (envF xs L (some (.sh (.str x))) none) := by
      have hlet : (D.str "abcdefghijklmnopqrstuvwxyz").items = some (signs LET) := hlet
      simp only [it_fresh_3, itA, cD, c_LETTERS, Rs.bind, hlet, ofO]
    rw [e]
    exact ⟨rfl, rfl, rfl, rfl⟩) (fun x hx c _ => by
    refine ⟨envF xs L (some (.sh (.str x))) (some (.sh (.str (one c)))), rfl, rfl, ?_⟩
    have h8 := (hL x hx).most
    have hl : x.length + (one c).length ≤ 1000000 := by show x.length + 1 ≤ _; omega
    have : el_fresh_1 (envF xs L (some (.sh (.str x))) (some (.sh (.str (one c))))) = .ok (.str (x ++ one c)) (envF xs L (some (.sh (.str x))) (some (.sh (.str (one c))))) := by
      simp only [el_fresh_1, envF, fnB, fnP, Rs.noE, startE, seqS, ifS, thenS, toB, op2, opN, op1, Opd.run, fill, lookV, look, Rs.bind, Rs.map, ofO, cD, vD, D.asB, semGt, semGe, semLt, semLe, setS, putS, DL.putF, shD, frzD, mvD, rtS, chgS, fillW, OV.lst?, OV.d, nxS, runs, looks, semInt, semMod, semFdiv, semAdd, semSub, semMul, semAbs, semLen, semTuple, semList, lstD, tupD, evs, callP, callB, slD, poN, poS, semSl, D.asI, appS, appF, extS, extF, augS, augF, exS, ifD, andT, orT, notT, notD, andD, orD, par2, par3, asgS, gN, gT, gsCons, gsNil, forD, rg1, rg2, itA, zpD, zip2, zipD, lcD, yesT, wipeE, m1D, tabD, semIs, semIsNot, D.isN, toT, orV, andV, notV, D.tru, chD, isiD, D.key, evPs, dicD, semDict, pairD, semRepr, callL, op2O, slO, opNO, lrgO, OV.flt, D.flt, semAddL, semMulL, semListL, mLD, popF, popS, insF, insS, clrS, revO, Rs.noE, List.map_cons, List.map_nil, List.length_cons, List.length_nil, List.length_map, List.replicate, List.cons_append, List.nil_append, List.append_nil, List.getElem?_cons_zero, List.getElem?_cons_succ, List.set_cons_zero, List.set_cons_succ, Option.bind_some, Option.bind_none, Option.map_some, Option.map_none, Nat.zero_add, Nat.add_zero, Nat.reduceAdd, Nat.reduceSub, Nat.sub_self, Nat.reduceLeDiff, Nat.reduceEqDiff, Nat.le_refl, Nat.add_sub_cancel, if_true, if_false, Bool.false_eq_true, Bool.not_true, Bool.not_false, Bool.not_not, reduceIte, reduceCtorEq, and_self, and_true, true_and, decide_true, decide_false, semEq_str, semNe_str, semEq_int, semNe_int, semEq_bl, semNe_bl, atI0, atI1, atI2, atI3, atI4, OkS_nx, post_ok, items_lst, items_tup, semAt_lst, semAt_tup, semAt_str, semAt_dic, hl]
    rw [this]
    exact ⟨rfl, rfl⟩)
  have e : lc_fresh_1 (envF xs L o2 o3) = .ok (.ow ((nxt L).map D.str)) (envF xs L none none) := by rw [hn]; exact this
  simp only [setS, shD, frzD, e, Rs.map, OV.d, thenS]
  rfl
theorem whS_t {c : En → Rs Bool} {b : En → SRs} {n : Nat} {r r1 : En} (hc : c r = .ok true r) (hb : b r = .nx r1) : whS c b (n + 1) r = whS c b n r1 := by
  show thenS (c r) _ = _
  rw [hc]
  simp only [thenS, if_true, hb]
theorem whS_r {c : En → Rs Bool} {b : En → SRs} {n : Nat} {r r1 : En} {o : OV} (hc : c r = .ok true r) (hb : b r = .rt o r1) : whS c b (n + 1) r = .rt o r1 := by
  show thenS (c r) _ = _
  rw [hc]
  simp only [thenS, if_true, hb]
theorem find_split {L xs : List Str} {t : Str} (h : L.find? (fun t => decide (t ∉ xs)) = some t) : ∃ A B, L = A ++ t :: B ∧ (∀ x ∈ A, x ∈ xs) ∧ t ∉ xs := by
  obtain ⟨h1, A, B, e, h2⟩ := List.find?_eq_some_iff_append.mp h
  exact ⟨A, B, e, fun x hx => by
    have := h2 x hx
    simpa using this, of_decide_eq_true h1⟩
theorem find_none {L xs : List Str} (h : L.find? (fun t => decide (t ∉ xs)) = none) : ∀ x ∈ L, x ∈ xs := fun x hx => by
  have := List.find?_eq_none.mp h x hx
  simpa using this
set_option maxHeartbeats 2000000 in
theorem fresh_turn {xs L : List Str} (hx : ∀ x ∈ xs, (D.str x).pl = true) (hL : ∀ x ∈ L, NameOk x) (hl : L.length * 26 ≤ 1000000) (n : Nat) (o2 o3 : Option OV) :
    (∃ t r A B, whS ts_fresh_1 bd_fresh_2 (n + 1) (envF xs L o2 o3) = .rt (.sh (.str t)) r ∧ L = A ++ t :: B ∧ (∀ x ∈ A, x ∈ xs) ∧ t ∉ xs) ∨ (whS ts_fresh_1 bd_fresh_2 (n + 1) (envF xs L o2 o3) = whS ts_fresh_1 bd_fresh_2 n (envF xs (nxt L) none none) ∧ ∀ x ∈ L, x ∈ xs) := by
  obtain ⟨o2', e⟩ := fresh_for hx hL o2 o3
  have hc : ts_fresh_1 (envF xs L o2 o3) = .ok true (envF xs L o2 o3) := rfl
  cases hf : L.find? (fun t => decide (t ∉ xs)) with
  | some t =>
    obtain ⟨A, B, e1, e2, e3⟩ := find_split hf
    rw [hf] at e
    refine .inl ⟨t, envF xs L o2' o3, A, B, whS_r hc ?_, e1, e2, e3⟩
    unfold bd_fresh_2 seqS
    rw [e]
  | none =>
    rw [hf] at e
    refine .inr ⟨whS_t hc ?_, find_none hf⟩
    unfold bd_fresh_2
    rw [seqS_nx e]
    exact fresh_next hL hl o2' o3
set_option maxHeartbeats 2000000 in
theorem fresh_ok {xs : List Str} (hx : ∀ x ∈ xs, (D.str x).pl = true) (hl : xs.length ≤ 10000) : ∃ t, f_fresh [.lst (xs.map D.str)] = some (.sh (.str t)) ∧ Fresh xs t := by
  have h0 : ∀ x ∈ lts, NameOk x := fun x h => allN_ok x (List.mem_append_left _ h)
  have h1 : ∀ x ∈ lev1, NameOk x := fun x h => allN_ok x (List.mem_append_right _ (List.mem_append_left _ h))
  have h2 : ∀ x ∈ lev2, NameOk x := fun x h => allN_ok x (List.mem_append_right _ (List.mem_append_right _ h))
  have l0 : lts.length = 26 := by have := congrArg List.length lts_rk; simpa using this
  have l1 : lev1.length = 676 := by have := congrArg List.length lev1_rk; simpa using this
  have l2 : lev2.length = 17576 := by have := congrArg List.length lev2_rk; simpa using this
  have est : setS 1 (shD (frzD (opNO [(.ex (cD c_LETTERS))] semListS))) (startE 4 ([D.lst (xs.map D.str)].map OV.sh)) = .nx (envF xs lts none none) := by
    have : semListS [.str "abcdefghijklmnopqrstuvwxyz"] = some (lts.map D.str) := by
      have hl : LET.length ≤ 1000000 := by rw [let_len]; decide
      show (if LET.length ≤ 1000000 then some (signs LET) else none) = _
      rw [if_pos hl]
      unfold lts
      rw [List.map_map]
      rfl
    simp only [setS, shD, frzD, opNO, runs, looks, Opd.run, cD, c_LETTERS, Rs.bind, Rs.map, look, ofO, this, OV.d, thenS, Rs.noE, List.map_cons, List.map_nil, List.length_cons, List.length_nil, List.length_map, List.replicate, List.cons_append, List.nil_append, List.append_nil, List.getElem?_cons_zero, List.getElem?_cons_succ, List.set_cons_zero, List.set_cons_succ, Option.bind_some, Option.bind_none, Option.map_some, Option.map_none, Nat.zero_add, Nat.add_zero, Nat.reduceAdd, Nat.reduceSub, Nat.sub_self, Nat.reduceLeDiff, Nat.reduceEqDiff, Nat.le_refl, Nat.add_sub_cancel, if_true, if_false, Bool.false_eq_true, Bool.not_true, Bool.not_false, Bool.not_not, reduceIte, reduceCtorEq, and_self, and_true, true_and, decide_true, decide_false, semEq_str, semNe_str, semEq_int, semNe_int, semEq_bl, semNe_bl, atI0, atI1, atI2, atI3, atI4, OkS_nx, post_ok, items_lst, items_tup, semAt_lst, semAt_tup, semAt_str, semAt_dic]
    rfl
  have fin : ∀ {t : Str} {r : En}, whS ts_fresh_1 bd_fresh_2 100 (envF xs lts none none) = .rt (.sh (.str t)) r → f_fresh [.lst (xs.map D.str)] = some (.sh (.str t)) := fun {t r} h => by
    unfold f_fresh fnP m_fresh
    rw [seqS_nx est, h]
  rcases fresh_turn hx h0 (by rw [l0]; decide) 99 none none with ⟨t, r, A, B, e, e1, e2, e3⟩ | ⟨e, a0⟩
  · exact ⟨t, fin e, fresh_of (A := A) (B := B ++ (lev1 ++ lev2)) (by unfold allN; rw [e1]; simp) e2 e3⟩
  rcases fresh_turn hx (L := nxt lts) h1 (by show lev1.length * 26 ≤ _; rw [l1]; decide) 98 none none with ⟨t, r, A, B, f, e1, e2, e3⟩ | ⟨f, a1⟩
  · refine ⟨t, fin (e.trans f), fresh_of (A := lts ++ A) (B := B ++ lev2) ?_ (fun x hx => (List.mem_append.mp hx).elim (a0 x) (e2 x)) e3⟩
    have e1 : lev1 = A ++ t :: B := e1
    unfold allN
    rw [e1]
    simp
  rcases fresh_turn hx (L := nxt (nxt lts)) h2 (by show lev2.length * 26 ≤ _; rw [l2]; decide) 97 none none with ⟨t, r, A, B, k, e1, e2, e3⟩ | ⟨k, a2⟩
  · refine ⟨t, fin (e.trans (f.trans k)), fresh_of (A := lts ++ (lev1 ++ A)) (B := B) ?_ (fun x hx => ?_) e3⟩
    · have e1 : lev2 = A ++ t :: B := e1
      unfold allN
      rw [e1]
      simp
    · rcases List.mem_append.mp hx with hx | hx
      · exact a0 x hx
      · rcases List.mem_append.mp hx with hx | hx
        · exact a1 x hx
        · exact e2 x hx
  · exfalso
    obtain ⟨y, hy, hn⟩ := exists_not_mem allN xs allN_nodup (by rw [allN_len]; omega)
    refine hn ?_
    rcases List.mem_append.mp hy with hx | hx
    · exact a0 y hx
    · rcases List.mem_append.mp hx with hx | hx
      · exact a1 y hx
      · exact a2 y hx
end T

-- needs: _law_names
namespace T
open PySem L2 DL
/-! ### atoms and patterns in their order -/
end T

namespace T
open PySem L2 DL
/-! ### rank -/
theorem rkr_lt : ∀ {l : List Nat}, Low l → rkr l + 1 ≤ 27 ^ l.length
  | [], _ => Nat.le_refl _
  | c :: l, h => by
    have h1 := h c List.mem_cons_self
    have ih := rkr_lt (l := l) fun x hx => h x (List.mem_cons_of_mem _ hx)
    show 26 * rkr l + (c - 96) + 1 ≤ 27 ^ (l.length + 1)
    rw [Nat.pow_succ]
    omega
theorem idx_let {c : Nat} (h1 : 97 ≤ c) (h2 : c ≤ 122) : semSIndex (.str LET) (.str (one c)) = some (.int ((c - 97 : Nat) : Int)) := by
  have ho : Builtin.Str.occurrences LET (one c) 0 LET.length 1 = [c - 97] := by
    have := let_index ⟨c - 97, by omega⟩
    have e : 97 + (c - 97) = c := by omega
    simp only [e] at this
    exact this
  show (match Builtin.Str.occurrences LET (one c) 0 LET.length 1 with
    | i :: _ => some (D.int ((i : Nat) : Int))
    | [] => none) = _
  rw [ho]
def envR (x : Str) (s : Int) (g : Option OV) : En := [some (.sh (.str x)), some (.sh (.int s)), g]
theorem rank_step (x : Str) (s : Int) {c : Nat} (h1 : 97 ≤ c) (h2 : c ≤ 122) (hm : -18446744073709551616 < s ∧ s < 18446744073709551616) :
    bd__law_rank_1 (envR x s (some (.sh (.str (one c))))) = .nx (envR x (s * 26 + ((c - 97 : Nat) : Int) + 1) (some (.sh (.str (one c))))) := by
  have hx := idx_let h1 h2
  have hx : semSIndex (.str "abcdefghijklmnopqrstuvwxyz") (.str (one c)) = some (.int ((c - 97 : Nat) : Int)) := hx
  have hmul := semMul_ints s 26 hm
  have ha1 : semAdd (.int (s * 26)) (.int ((c - 97 : Nat) : Int)) = some (.int (s * 26 + ((c - 97 : Nat) : Int))) := rfl
  have ha2 : semAdd (.int (s * 26 + ((c - 97 : Nat) : Int))) (.int 1) = some (.int (s * 26 + ((c - 97 : Nat) : Int) + 1)) := rfl
  simp only [bd__law_rank_1, envR, setS, shD, op2, m1D, cD, Opd.run, fill, lookV, look, Rs.bind, Rs.map, ofO, OV.d, thenS, Rs.noE, List.map_cons, List.map_nil, List.length_cons, List.length_nil, List.length_map, List.replicate, List.cons_append, List.nil_append, List.append_nil, List.getElem?_cons_zero, List.getElem?_cons_succ, List.set_cons_zero, List.set_cons_succ, Option.bind_some, Option.bind_none, Option.map_some, Option.map_none, Nat.zero_add, Nat.add_zero, Nat.reduceAdd, Nat.reduceSub, Nat.sub_self, Nat.reduceLeDiff, Nat.reduceEqDiff, Nat.le_refl, Nat.add_sub_cancel, if_true, if_false, Bool.false_eq_true, Bool.not_true, Bool.not_false, Bool.not_not, reduceIte, reduceCtorEq, and_self, and_true, true_and, decide_true, decide_false, semEq_str, semNe_str, semEq_int, semNe_int, semEq_bl, semNe_bl, atI0, atI1, atI2, atI3, atI4, OkS_nx, post_ok, items_lst, items_tup, semAt_lst, semAt_tup, semAt_str, semAt_dic, hmul, hx, ha1, ha2]
set_option maxHeartbeats 2000000 in
theorem rank_ok {x : Str} (h : NameOk x) : f__law_rank [.str x] = some (.sh (.int ((rk x : Int) - 1))) := by
  have h8 := h.most
  have hlen : x.cps.toList.length ≤ 8 := by rw [← len_codes]; exact h8
  have hit : (D.str x).items = some (signs x) := if_pos (by omega)
  obtain ⟨r', e, g, rfl⟩ := forS_list (h := gN 2) (body := bd__law_rank_1) x.cps.toList (fun c => D.str (one c)) (fun i r => ∃ g, r = envR x (rkr (x.cps.toList.take i).reverse) g) (by
    rintro i c hc r ⟨g, rfl⟩
    have hm := List.mem_of_getElem? hc
    obtain ⟨h1, h2⟩ := h.low c hm
    refine ⟨envR x (rkr (x.cps.toList.take i).reverse) (some (.sh (.str (one c)))), _, rfl, ?_, some (.sh (.str (one c))), rfl⟩
    have hlow : Low (x.cps.toList.take i).reverse := Low.rev fun d hd => h.low d (List.mem_of_mem_take hd)
    have hb := rkr_lt hlow
    have hli : (x.cps.toList.take i).reverse.length ≤ 8 := by rw [List.length_reverse]; exact Nat.le_trans (List.length_take_le' _ _) hlen
    have hp : 27 ^ (x.cps.toList.take i).reverse.length ≤ 27 ^ 8 := Nat.pow_le_pow_right (by decide) hli
    have hp8 : 27 ^ 8 = 282429536481 := by decide
    have e1 : rkr (x.cps.toList.take (i + 1)).reverse = 26 * rkr (x.cps.toList.take i).reverse + (c - 96) := by
      rw [List.take_add_one, hc]
      simp only [Option.toList_some, List.reverse_append, List.reverse_cons, List.reverse_nil, List.nil_append, List.cons_append]
      rfl
    rw [e1]
    generalize rkr (x.cps.toList.take i).reverse = s at *
    have hm : -18446744073709551616 < (s : Int) ∧ (s : Int) < 18446744073709551616 := by omega
    have e2 : ((s : Int) * 26 + ((c - 97 : Nat) : Int) + 1) = ((26 * s + (c - 96) : Nat) : Int) := by omega
    rw [← e2]
    exact rank_step x (s : Int) h1 h2 hm) (envR x 0 none) ⟨none, rfl⟩
  rw [List.take_length] at e
  rw [← signs_eq] at e
  have e1 : fr__law_rank_1 (envR x 0 none) = .nx (envR x (rkr x.cps.toList.reverse) g) := forD_of (f := it__law_rank_1) (h := gN 2) (b := bd__law_rank_1) (ds := signs x) (r1 := envR x 0 none) (by simp only [it__law_rank_1, itA, envR, vD, Rs.bind, ofO, Rs.noE, List.map_cons, List.map_nil, List.length_cons, List.length_nil, List.length_map, List.replicate, List.cons_append, List.nil_append, List.append_nil, List.getElem?_cons_zero, List.getElem?_cons_succ, List.set_cons_zero, List.set_cons_succ, Option.bind_some, Option.bind_none, Option.map_some, Option.map_none, Nat.zero_add, Nat.add_zero, Nat.reduceAdd, Nat.reduceSub, Nat.sub_self, Nat.reduceLeDiff, Nat.reduceEqDiff, Nat.le_refl, Nat.add_sub_cancel, if_true, if_false, Bool.false_eq_true, Bool.not_true, Bool.not_false, Bool.not_not, reduceIte, reduceCtorEq, and_self, and_true, true_and, decide_true, decide_false, semEq_str, semNe_str, semEq_int, semNe_int, semEq_bl, semNe_bl, atI0, atI1, atI2, atI3, atI4, OkS_nx, post_ok, items_lst, items_tup, semAt_lst, semAt_tup, semAt_str, semAt_dic, hit]) e
  have s1 : setS 1 (shD (cD (.int 0))) (startE 3 ([D.str x].map OV.sh)) = .nx (envR x 0 none) := rfl
  unfold f__law_rank fnP m__law_rank
  rw [seqS_nx s1, seqS_nx e1]
  rfl
/-! ### the look at fresh -/
structure LabOk (x : Str) : Prop where
  pl : (D.str x).pl = true
  most : x.length ≤ 8
theorem NameOk.lab {x : Str} (h : NameOk x) : LabOk x := ⟨h.pl, h.most⟩
theorem LabOk.sm {x : Str} (h : LabOk x) : Sm 0 82 (.str x) := ⟨h.pl, rfl, Nat.zero_le _, by show 10 * x.length + 2 ≤ 82; have := h.most; omega⟩
theorem nmB_iff {x : Str} : nmB (.str x) = true ↔ NameOk x := by
  refine ⟨nameB_ok, fun h => ?_⟩
  show nameB x = true
  unfold nameB
  rw [decide_eq_true h.pos, decide_eq_true h.most]
  exact List.all_eq_true.mpr fun c hc => by
    have := h.low c hc
    simp [this.1, this.2]
def knP (t u : Str) : Bool := nmB (.str u) && decide (rk u < rk t)
theorem known_len {xs : List Str} {t : Str} (h : Fresh xs t) : ((srtT xs).filter (knP t)).length = rk t - 1 := by
  have mem : ∀ u, u ∈ (srtT xs).filter (knP t) ↔ NameOk u ∧ rk u < rk t := fun u => by
    rw [List.mem_filter, srtT_mem]
    unfold knP
    rw [Bool.and_eq_true, nmB_iff, decide_eq_true_eq]
    exact ⟨fun z => z.2, fun z => ⟨h.all u z.1 z.2, z⟩⟩
  have nd : ((srtT xs).filter (knP t)).Nodup := (srtT_nodup xs).filter _
  have nd2 : (((srtT xs).filter (knP t)).map rk).Nodup := by
    have : ((srtT xs).filter (knP t)).Pairwise fun a b => rk a ≠ rk b := by
      refine List.Pairwise.imp_of_mem (R := fun a b => a ≠ b) (fun {a b} ha hb hne e => hne ?_) nd
      exact rk_inj ((mem a).mp ha).1.low' ((mem b).mp hb).1.low' e
    exact List.pairwise_map.mpr this
  have perm : (((srtT xs).filter (knP t)).map rk).Perm (List.range' 1 (rk t - 1)) := by
    refine (List.perm_ext_iff_of_nodup nd2 List.nodup_range').mpr fun j => ?_
    rw [List.mem_map, List.mem_range'_1]
    constructor
    · rintro ⟨u, hu, rfl⟩
      obtain ⟨h1, h2⟩ := (mem u).mp hu
      have hp : 0 < rk u := by
        unfold rk
        have hlu := h1.low'.rev
        cases hc : u.cps.toList.reverse with
        | nil =>
          have h0 := h1.pos
          have : u.length = 0 := by rw [len_codes, ← List.length_reverse, hc]; rfl
          omega
        | cons c l => rw [hc] at hlu; exact rkr_pos hlu
      omega
    · intro hj
      obtain ⟨u, h1, h2⟩ := h.some j (by omega) (by omega)
      exact ⟨u, (mem u).mpr ⟨h1, by omega⟩, h2⟩
  have := perm.length_eq
  rw [List.length_map, List.length_range'] at this
  exact this
theorem in_strsP {xs : List Str} {x : Str} (hx : NameOk x) (h : ∀ x ∈ xs, (D.str x).pl = true) : semIn2 (.str x) (.lst (xs.map D.str)) = some (.bl (decide (x ∈ xs))) := by
  rw [semIn_lst true hx.fit (fit_strsP h) rfl cl_strs]
  simp only [mem_strs]
set_option maxHeartbeats 4000000 in
theorem right_ok {xs : List Str} {t : Str} (hx : ∀ x ∈ xs, LabOk x) (hl : xs.length ≤ 4000) (hf : Fresh xs t) : f__law_fresh_right [.lst (xs.map D.str), .str t] = some (.sh (.bl true)) := by
  have e0 : f__law_is_name [.str t] = some (.sh (.bl true)) := by
    rw [lawIsName_eq (n := 0) (w := 82) (sm_gd (sm_str hf.nm)) (by decide), nmB_iff.mpr hf.nm]
  have e1 : semIn2 (.str t) (.lst (xs.map D.str)) = some (.bl false) := by
    rw [in_strsP hf.nm fun x h => (hx x h).pl, decide_eq_false hf.out]
  have e2 := rank_ok hf.nm
  have hsl : (srtT xs).length ≤ 4000 := by
    unfold srtT
    rw [List.length_mergeSort]
    have := addT_len xs []
    simp at this
    omega
  have e3 : lc__law_fresh_right_1 [some (.sh (.lst (xs.map D.str))), some (.sh (.str t)), none, none] = .ok (.ow (((srtT xs).filter (knP t)).map D.str)) [some (.sh (.lst (xs.map D.str))), some (.sh (.str t)), none, none] := by
    refine lcD_mp (it := it__law_fresh_right_1) (vs := [3]) (h := gN 3) (t := ts__law_fresh_right_1) (elt := el__law_fresh_right_1) (r := [some (.sh (.lst (xs.map D.str))), some (.sh (.str t)), none, none]) (r1 := [some (.sh (.lst (xs.map D.str))), some (.sh (.str t)), none, none]) _ (srtT xs) D.str (knP t) D.str ?_ (by omega) rfl rfl fun u hu => ⟨_, rfl, ?_⟩
    · have := semSrtSet_of xs hl
      simp only [it__law_fresh_right_1, itA, frzD, opNO, runs, looks, Opd.run, fill, lookV, look, Rs.bind, Rs.map, ofO, OV.d, Rs.noE, List.map_cons, List.map_nil, List.length_cons, List.length_nil, List.length_map, List.replicate, List.cons_append, List.nil_append, List.append_nil, List.getElem?_cons_zero, List.getElem?_cons_succ, List.set_cons_zero, List.set_cons_succ, Option.bind_some, Option.bind_none, Option.map_some, Option.map_none, Nat.zero_add, Nat.add_zero, Nat.reduceAdd, Nat.reduceSub, Nat.sub_self, Nat.reduceLeDiff, Nat.reduceEqDiff, Nat.le_refl, Nat.add_sub_cancel, if_true, if_false, Bool.false_eq_true, Bool.not_true, Bool.not_false, Bool.not_not, reduceIte, reduceCtorEq, and_self, and_true, true_and, decide_true, decide_false, semEq_str, semNe_str, semEq_int, semNe_int, semEq_bl, semNe_bl, atI0, atI1, atI2, atI3, atI4, OkS_nx, post_ok, items_lst, items_tup, semAt_lst, semAt_tup, semAt_str, semAt_dic, this]
    · have hu' := hx u ((srtT_mem xs u).mp hu)
      have e4 : f__law_is_name [.str u] = some (.sh (.bl (nmB (.str u)))) := lawIsName_eq (n := 0) (w := 82) (sm_gd hu'.sm) (by decide)
      cases hb : nmB (.str u) with
      | false =>
        rw [hb] at e4
        have hk : knP t u = false := by unfold knP; rw [hb]; rfl
        rw [hk]
        simp only [ts__law_fresh_right_1, gN, andT, toB, frzD, callP, evs, vD, Rs.bind, Rs.map, ofO, OV.d, D.asB, thenS, Rs.noE, List.map_cons, List.map_nil, List.length_cons, List.length_nil, List.length_map, List.replicate, List.cons_append, List.nil_append, List.append_nil, List.getElem?_cons_zero, List.getElem?_cons_succ, List.set_cons_zero, List.set_cons_succ, Option.bind_some, Option.bind_none, Option.map_some, Option.map_none, Nat.zero_add, Nat.add_zero, Nat.reduceAdd, Nat.reduceSub, Nat.sub_self, Nat.reduceLeDiff, Nat.reduceEqDiff, Nat.le_refl, Nat.add_sub_cancel, if_true, if_false, Bool.false_eq_true, Bool.not_true, Bool.not_false, Bool.not_not, reduceIte, reduceCtorEq, and_self, and_true, true_and, decide_true, decide_false, semEq_str, semNe_str, semEq_int, semNe_int, semEq_bl, semNe_bl, atI0, atI1, atI2, atI3, atI4, OkS_nx, post_ok, items_lst, items_tup, semAt_lst, semAt_tup, semAt_str, semAt_dic, e4]
        exact ⟨rfl, fun z => by cases z⟩
      | true =>
        rw [hb] at e4
        have e5 := rank_ok (nmB_iff.mp hb)
        have hk : knP t u = decide ((rk u : Int) - 1 < (rk t : Int) - 1) := by
          unfold knP
          rw [hb, Bool.true_and]
          exact decide_eq_decide.mpr (by omega)
        rw [hk]
        simp only [ts__law_fresh_right_1, el__law_fresh_right_1, gN, andT, toB, frzD, callP, evs, vD, op2, Opd.run, fill, lookV, look, Rs.bind, Rs.map, ofO, OV.d, D.asB, thenS, Rs.noE, List.map_cons, List.map_nil, List.length_cons, List.length_nil, List.length_map, List.replicate, List.cons_append, List.nil_append, List.append_nil, List.getElem?_cons_zero, List.getElem?_cons_succ, List.set_cons_zero, List.set_cons_succ, Option.bind_some, Option.bind_none, Option.map_some, Option.map_none, Nat.zero_add, Nat.add_zero, Nat.reduceAdd, Nat.reduceSub, Nat.sub_self, Nat.reduceLeDiff, Nat.reduceEqDiff, Nat.le_refl, Nat.add_sub_cancel, if_true, if_false, Bool.false_eq_true, Bool.not_true, Bool.not_false, Bool.not_not, reduceIte, reduceCtorEq, and_self, and_true, true_and, decide_true, decide_false, semEq_str, semNe_str, semEq_int, semNe_int, semEq_bl, semNe_bl, atI0, atI1, atI2, atI3, atI4, OkS_nx, post_ok, items_lst, items_tup, semAt_lst, semAt_tup, semAt_str, semAt_dic, e2, e4, e5, semLt]
        exact ⟨rfl, fun _ => rfl⟩
  have hn : (((((srtT xs).filter (knP t)).map D.str).length : Nat) : Int) = (rk t : Int) - 1 := by
    rw [List.length_map, known_len hf]
    have hp : 0 < rk t := by
      unfold rk
      have hlu := hf.nm.low'.rev
      cases hc : t.cps.toList.reverse with
      | nil =>
        have h0 := hf.nm.pos
        have : t.length = 0 := by rw [len_codes, ← List.length_reverse, hc]; rfl
        omega
      | cons c l => rw [hc] at hlu; exact rkr_pos hlu
    omega
  have s1 : setS 2 (shD (frzD lc__law_fresh_right_1)) [some (.sh (.lst (xs.map D.str))), some (.sh (.str t)), none, none] = .nx [some (.sh (.lst (xs.map D.str))), some (.sh (.str t)), some (.sh (.lst (((srtT xs).filter (knP t)).map D.str))), none] := by
    simp only [setS, shD, frzD, e3, Rs.map, OV.d, thenS]
    rfl
  have t1 : orT (notT (toB (frzD (callP 1 f__law_is_name [(vD 1)])))) (toB (op2 (.va 1) (.va 0) semIn2)) (startE 4 ([D.lst (xs.map D.str), .str t].map OV.sh)) = .ok false [some (.sh (.lst (xs.map D.str))), some (.sh (.str t)), none, none] := by
    simp only [fnB, fnP, Rs.noE, startE, seqS, ifS, thenS, toB, op2, opN, op1, Opd.run, fill, lookV, look, Rs.bind, Rs.map, ofO, cD, vD, D.asB, semGt, semGe, semLt, semLe, setS, putS, DL.putF, shD, frzD, mvD, rtS, chgS, fillW, OV.lst?, OV.d, nxS, runs, looks, semInt, semMod, semFdiv, semAdd, semSub, semMul, semAbs, semLen, semTuple, semList, lstD, tupD, evs, callP, callB, slD, poN, poS, semSl, D.asI, appS, appF, extS, extF, augS, augF, exS, ifD, andT, orT, notT, notD, andD, orD, par2, par3, asgS, gN, gT, gsCons, gsNil, forD, rg1, rg2, itA, zpD, zip2, zipD, lcD, yesT, wipeE, m1D, tabD, semIs, semIsNot, D.isN, toT, orV, andV, notV, D.tru, chD, isiD, D.key, evPs, dicD, semDict, pairD, semRepr, callL, op2O, slO, opNO, lrgO, OV.flt, D.flt, semAddL, semMulL, semListL, mLD, popF, popS, insF, insS, clrS, revO, Rs.noE, List.map_cons, List.map_nil, List.length_cons, List.length_nil, List.length_map, List.replicate, List.cons_append, List.nil_append, List.append_nil, List.getElem?_cons_zero, List.getElem?_cons_succ, List.set_cons_zero, List.set_cons_succ, Option.bind_some, Option.bind_none, Option.map_some, Option.map_none, Nat.zero_add, Nat.add_zero, Nat.reduceAdd, Nat.reduceSub, Nat.sub_self, Nat.reduceLeDiff, Nat.reduceEqDiff, Nat.le_refl, Nat.add_sub_cancel, if_true, if_false, Bool.false_eq_true, Bool.not_true, Bool.not_false, Bool.not_not, reduceIte, reduceCtorEq, and_self, and_true, true_and, decide_true, decide_false, semEq_str, semNe_str, semEq_int, semNe_int, semEq_bl, semNe_bl, atI0, atI1, atI2, atI3, atI4, OkS_nx, post_ok, items_lst, items_tup, semAt_lst, semAt_tup, semAt_str, semAt_dic, e0, e1]
  unfold f__law_fresh_right fnP m__law_fresh_right
  rw [seqIf_no t1, seqS_nx s1]
  have hlen : semLen [.lst (((srtT xs).filter (knP t)).map D.str)] = some (.int ((((srtT xs).filter (knP t)).map D.str).length : Nat)) := rfl
  rw [hn] at hlen
  generalize ((srtT xs).filter (knP t)).map D.str = K at *
  simp only [rtS, shD, op2, opN, runs, looks, frzD, callP, evs, vD, Opd.run, fill, lookV, look, Rs.bind, Rs.map, ofO, OV.d, thenS, Rs.noE, List.map_cons, List.map_nil, List.length_cons, List.length_nil, List.length_map, List.replicate, List.cons_append, List.nil_append, List.append_nil, List.getElem?_cons_zero, List.getElem?_cons_succ, List.set_cons_zero, List.set_cons_succ, Option.bind_some, Option.bind_none, Option.map_some, Option.map_none, Nat.zero_add, Nat.add_zero, Nat.reduceAdd, Nat.reduceSub, Nat.sub_self, Nat.reduceLeDiff, Nat.reduceEqDiff, Nat.le_refl, Nat.add_sub_cancel, if_true, if_false, Bool.false_eq_true, Bool.not_true, Bool.not_false, Bool.not_not, reduceIte, reduceCtorEq, and_self, and_true, true_and, decide_true, decide_false, semEq_str, semNe_str, semEq_int, semNe_int, semEq_bl, semNe_bl, atI0, atI1, atI2, atI3, atI4, OkS_nx, post_ok, items_lst, items_tup, semAt_lst, semAt_tup, semAt_str, semAt_dic, e2, hlen]
end T

namespace T
open PySem L2 DL
/-! ### words bent -/
structure Tx (n : Nat) (x : Str) : Prop where
  len : x.length ≤ n
  low : ∀ c ∈ x.cps.toList, c < 1114112
theorem Tx.pl {n : Nat} {x : Str} (h : Tx n x) : (D.str x).pl = true := pl_of_fit (fit_str h.low)
theorem Tx.gd {n : Nat} {x : Str} (h : Tx n x) : Gd 0 (10 * n + 2) (.str x) := ⟨h.pl, Nat.le_refl _, by show 10 * x.length + 2 ≤ _; have := h.len; omega⟩
theorem Tx.app {n m : Nat} {x y : Str} (hx : Tx n x) (hy : Tx m y) : Tx (n + m) (x ++ y) := by
  refine ⟨?_, fun c hc => ?_⟩
  · rw [len_codes, app_codes, List.length_append, ← len_codes, ← len_codes]
    have := hx.len
    have := hy.len
    omega
  · rw [app_codes] at hc
    exact (List.mem_append.mp hc).elim (hx.low c) (hy.low c)
theorem Tx.cut {n : Nat} {x : Str} (h : Tx n x) (lo hi : Option Int) : Tx n (cutS x lo hi) := by
  have e : (cutS x lo hi).cps.toList = (x.cps.toList.drop (HT.sIx x.length 0 lo)).take (HT.sIx x.length x.length hi - HT.sIx x.length 0 lo) := by
    unfold cutS
    simp
  refine ⟨?_, fun c hc => ?_⟩
  · rw [len_codes, e, List.length_take, List.length_drop, ← len_codes]
    have := h.len
    omega
  · rw [e] at hc
    exact h.low c (List.mem_of_mem_drop (List.mem_of_mem_take hc))
theorem NameOk.tx {x : Str} (h : NameOk x) : Tx 8 x := ⟨h.most, fun c hc => by have := h.low c hc; omega⟩
theorem Tx.mono {n m : Nat} {x : Str} (h : Tx n x) (hm : n ≤ m) : Tx m x := ⟨Nat.le_trans h.len hm, h.low⟩
theorem mul2_tx {n : Nat} {x : Str} (h : Tx n x) : Tx (n + n) (Txt.mul x 2) := by
  unfold Txt.mul
  rw [if_neg (by decide)]
  split
  · exact h.mono (by omega)
  · have e : (⟨(List.replicate (2 : Int).toNat x.cps).foldl (· ++ ·) #[]⟩ : Str) = x ++ x := by
      refine str_ext ?_
      rw [app_codes]
      show (((#[] : Array Nat) ++ x.cps) ++ x.cps).toList = _
      simp
    rw [e]
    exact h.app h
def sgL : List Str := ["a", "z", "A", "1", " ", "-", "_", "{", "`", "\n"]
theorem sg_tx : ∀ x ∈ sgL, Tx 1 x := by
  have h1 : (sgL.all fun x => decide (x.length ≤ 1)) = true := by decide +kernel
  have h2 : (sgL.all fun x => x.cps.toList.all fun c => decide (c < 1114112)) = true := by decide +kernel
  exact fun x hx => ⟨of_decide_eq_true (List.all_eq_true.mp h1 x hx), fun c hc => of_decide_eq_true (List.all_eq_true.mp (List.all_eq_true.mp h2 x hx) c hc)⟩
theorem sl_str {x : Str} (h : x.length ≤ 1000000) (lo hi : Option Int) : semSl (.str x) lo hi = some (.str (cutS x lo hi)) := if_pos h
theorem add_str {x y : Str} (h : x.length + y.length ≤ 1000000) : semAdd (.str x) (.str y) = some (.str (x ++ y)) := if_pos h
set_option maxHeartbeats 4000000 in
theorem near_ok {bs : List D} (hb : BagOk bs) {w : Str} (hw : NameOk w) : ∃ z b', f__law_near bs [.str w] = some (.sh (.str z), b') ∧ Tx 17 z ∧ BagOk b' := by
  have h8 := hw.most
  obtain ⟨v, b1, e1, v0, v1, hb1⟩ := take_ok hb (n := 5) (by decide) (by decide)
  obtain ⟨u, b2, e2, u0, u1, hb2⟩ := take_ok hb1 (n := (w.length : Int) + 1) (by omega) (by omega)
  obtain ⟨g, b3, e3, hg, hb3⟩ := someS_ok hb2 sgL (by decide) (by decide)
  have tg := sg_tx g hg
  have tw := hw.tx
  have lw : w.length ≤ 1000000 := by omega
  have tA := tw.cut none (some u)
  have tB := tw.cut (some u) none
  have tC := tw.cut (some (u + 1)) none
  have aA := sl_str lw none (some u)
  have aB := sl_str lw (some u) none
  have aC := sl_str lw (some (u + 1)) none
  generalize cutS w none (some u) = A at *
  generalize cutS w (some u) none = B at *
  generalize cutS w (some (u + 1)) none = C at *
  have lA := tA.len
  have lB := tB.len
  have lC := tC.len
  have lg := tg.len
  have tAg := tA.app tg
  have lAg := tAg.len
  have p1 := add_str (x := A) (y := g) (by omega)
  have p2 := add_str (x := A ++ g) (y := B) (by omega)
  have p3 := add_str (x := A) (y := C) (by omega)
  have p4 := add_str (x := A ++ g) (y := C) (by omega)
  have p5 : semMul (.str w) (.int 2) = some (.str (Txt.mul w 2)) := if_pos ⟨by decide, by decide, by omega⟩
  have p6 : semLen [.str w] = some (.int (w.length : Int)) := if_pos lw
  have p7 : semAdd (.int (w.length : Int)) (.int 1) = some (.int ((w.length : Int) + 1)) := rfl
  have p8 : semAdd (.int u) (.int 1) = some (.int (u + 1)) := rfl
  have e3 : f__law_some b2 [.lst [.str "a", .str "z", .str "A", .str "1", .str " ", .str "-", .str "_", .str "{", .str "`", .str "\n"]] = some (.sh (.str g), b3) := e3
  have s1 : par2 2 3 (frzD (callB 1 f__law_take 0 [(cD (.int 5))])) (shD (frzD (callB 1 f__law_take 0 [(op2 (.ex (opN [(.va 1)] semLen)) (.ex (cD (.int 1))) semAdd)]))) (startE 6 (.ow bs :: [D.str w].map OV.sh)) = .nx [some (.ow b2), some (.sh (.str w)), some (.sh (.int v)), some (.sh (.int u)), none, none] := by
    simp only [par2, startE, frzD, shD, callB, evs, op2, opN, runs, looks, cD, Opd.run, fill, lookV, look, Rs.bind, Rs.map, ofO, OV.d, OV.lst?, thenS, Rs.noE, List.map_cons, List.map_nil, List.length_cons, List.length_nil, List.length_map, List.replicate, List.cons_append, List.nil_append, List.append_nil, List.getElem?_cons_zero, List.getElem?_cons_succ, List.set_cons_zero, List.set_cons_succ, Option.bind_some, Option.bind_none, Option.map_some, Option.map_none, Nat.zero_add, Nat.add_zero, Nat.reduceAdd, Nat.reduceSub, Nat.sub_self, Nat.reduceLeDiff, Nat.reduceEqDiff, Nat.le_refl, Nat.add_sub_cancel, if_true, if_false, Bool.false_eq_true, Bool.not_true, Bool.not_false, Bool.not_not, reduceIte, reduceCtorEq, and_self, and_true, true_and, decide_true, decide_false, semEq_str, semNe_str, semEq_int, semNe_int, semEq_bl, semNe_bl, atI0, atI1, atI2, atI3, atI4, OkS_nx, post_ok, items_lst, items_tup, semAt_lst, semAt_tup, semAt_str, semAt_dic, p6, p7, e1, e2]
  have s2 : setS 4 (shD (frzD (callB 1 f__law_some 0 [(frzD (lstD [(cD (.str "a")), (cD (.str "z")), (cD (.str "A")), (cD (.str "1")), (cD (.str " ")), (cD (.str "-")), (cD (.str "_")), (cD (.str "{")), (cD (.str "`")), (cD (.str "\n"))]))]))) [some (.ow b2), some (.sh (.str w)), some (.sh (.int v)), some (.sh (.int u)), none, none] = .nx [some (.ow b3), some (.sh (.str w)), some (.sh (.int v)), some (.sh (.int u)), some (.sh (.str g)), none] := by
    simp only [setS, frzD, shD, callB, lstD, evs, cD, Opd.run, fill, lookV, look, Rs.bind, Rs.map, ofO, OV.d, OV.lst?, thenS, Rs.noE, List.map_cons, List.map_nil, List.length_cons, List.length_nil, List.length_map, List.replicate, List.cons_append, List.nil_append, List.append_nil, List.getElem?_cons_zero, List.getElem?_cons_succ, List.set_cons_zero, List.set_cons_succ, Option.bind_some, Option.bind_none, Option.map_some, Option.map_none, Nat.zero_add, Nat.add_zero, Nat.reduceAdd, Nat.reduceSub, Nat.sub_self, Nat.reduceLeDiff, Nat.reduceEqDiff, Nat.le_refl, Nat.add_sub_cancel, if_true, if_false, Bool.false_eq_true, Bool.not_true, Bool.not_false, Bool.not_not, reduceIte, reduceCtorEq, and_self, and_true, true_and, decide_true, decide_false, semEq_str, semNe_str, semEq_int, semNe_int, semEq_bl, semNe_bl, atI0, atI1, atI2, atI3, atI4, OkS_nx, post_ok, items_lst, items_tup, semAt_lst, semAt_tup, semAt_str, semAt_dic, e3]
  have s3 : setS 5 (shD (frzD (lstD [(vD 1), (op2 (.ex (op2 (.ex (slD (.va 1) poN (poS (vD 3)) semSl)) (.va 4) semAdd)) (.ex (slD (.va 1) (poS (vD 3)) poN semSl)) semAdd), (op2 (.ex (slD (.va 1) poN (poS (vD 3)) semSl)) (.ex (slD (.va 1) (poS (op2 (.va 3) (.ex (cD (.int 1))) semAdd)) poN semSl)) semAdd), (op2 (.ex (op2 (.ex (slD (.va 1) poN (poS (vD 3)) semSl)) (.va 4) semAdd)) (.ex (slD (.va 1) (poS (op2 (.va 3) (.ex (cD (.int 1))) semAdd)) poN semSl)) semAdd), (op2 (.va 1) (.ex (cD (.int 2))) semMul)]))) [some (.ow b3), some (.sh (.str w)), some (.sh (.int v)), some (.sh (.int u)), some (.sh (.str g)), none]
      = .nx [some (.ow b3), some (.sh (.str w)), some (.sh (.int v)), some (.sh (.int u)), some (.sh (.str g)), some (.sh (.lst [.str w, .str (A ++ g ++ B), .str (A ++ C), .str (A ++ g ++ C), .str (Txt.mul w 2)]))] := by
    simp only [setS, frzD, shD, lstD, evs, cD, vD, op2, slD, poN, poS, D.asI, Opd.run, fill, lookV, look, Rs.bind, Rs.map, ofO, OV.d, OV.lst?, thenS, Rs.noE, List.map_cons, List.map_nil, List.length_cons, List.length_nil, List.length_map, List.replicate, List.cons_append, List.nil_append, List.append_nil, List.getElem?_cons_zero, List.getElem?_cons_succ, List.set_cons_zero, List.set_cons_succ, Option.bind_some, Option.bind_none, Option.map_some, Option.map_none, Nat.zero_add, Nat.add_zero, Nat.reduceAdd, Nat.reduceSub, Nat.sub_self, Nat.reduceLeDiff, Nat.reduceEqDiff, Nat.le_refl, Nat.add_sub_cancel, if_true, if_false, Bool.false_eq_true, Bool.not_true, Bool.not_false, Bool.not_not, reduceIte, reduceCtorEq, and_self, and_true, true_and, decide_true, decide_false, semEq_str, semNe_str, semEq_int, semNe_int, semEq_bl, semNe_bl, atI0, atI1, atI2, atI3, atI4, OkS_nx, post_ok, items_lst, items_tup, semAt_lst, semAt_tup, semAt_str, semAt_dic, aA, aB, aC, p1, p2, p3, p4, p5, p8]
  have key : ∃ z, semAt (.lst [.str w, .str (A ++ g ++ B), .str (A ++ C), .str (A ++ g ++ C), .str (Txt.mul w 2)]) (.int v) = some (.str z) ∧ Tx 17 z := by
    have : v = 0 ∨ v = 1 ∨ v = 2 ∨ v = 3 ∨ v = 4 := by omega
    rcases this with rfl | rfl | rfl | rfl | rfl
    · exact ⟨_, rfl, tw.mono (by decide)⟩
    · exact ⟨_, rfl, tAg.app tB⟩
    · exact ⟨_, rfl, (tA.app tC).mono (by decide)⟩
    · exact ⟨_, rfl, tAg.app tC⟩
    · exact ⟨_, rfl, (mul2_tx tw).mono (by decide)⟩
  obtain ⟨z, ez, tz⟩ := key
  refine ⟨z, b3, ?_, tz, hb3⟩
  unfold f__law_near fnB m__law_near
  rw [seqS_nx s1, seqS_nx s2, seqS_nx s3]
  generalize D.lst [.str w, .str (A ++ g ++ B), .str (A ++ C), .str (A ++ g ++ C), .str (Txt.mul w 2)] = L at *
  simp only [rtS, shD, op2, Opd.run, fill, lookV, look, Rs.bind, Rs.map, ofO, OV.d, OV.lst?, thenS, Rs.noE, List.map_cons, List.map_nil, List.length_cons, List.length_nil, List.length_map, List.replicate, List.cons_append, List.nil_append, List.append_nil, List.getElem?_cons_zero, List.getElem?_cons_succ, List.set_cons_zero, List.set_cons_succ, Option.bind_some, Option.bind_none, Option.map_some, Option.map_none, Nat.zero_add, Nat.add_zero, Nat.reduceAdd, Nat.reduceSub, Nat.sub_self, Nat.reduceLeDiff, Nat.reduceEqDiff, Nat.le_refl, Nat.add_sub_cancel, if_true, if_false, Bool.false_eq_true, Bool.not_true, Bool.not_false, Bool.not_not, reduceIte, reduceCtorEq, and_self, and_true, true_and, decide_true, decide_false, semEq_str, semNe_str, semEq_int, semNe_int, semEq_bl, semNe_bl, atI0, atI1, atI2, atI3, atI4, OkS_nx, post_ok, items_lst, items_tup, semAt_lst, semAt_tup, semAt_str, semAt_dic, ez]
/-! ### the looks -/
def homB : D → Bool
  | .str x => decide (x = "goal" ∨ x = "book")
  | _ => false
theorem in_home {x : Str} {w : Nat} (h : Gd 0 w (.str x)) : semIn2 (.str x) (.tup [.str "goal", .str "book"]) = some (.bl (homB (.str x))) := by
  have hf : (D.str x).fit = true := by
    unfold D.fit
    rw [show (D.str x).pl = true from h.rp]; rfl
  have he : (D.tup [.str "goal", .str "book"]).fit = true := by decide +kernel
  rw [semIn_tup true hf he rfl (fun e he => by
    simp only [List.mem_cons, List.not_mem_nil, or_false] at he
    rcases he with rfl | rfl <;> rfl)]
  simp [homB]
set_option maxHeartbeats 4000000 in
theorem isHome_eq {n w : Nat} {d : D} (h : Gd n w d) : f_is_home [d] = some (.sh (.bl (homB d))) := by
  cases d with
  | str x =>
    have := in_home (w := w) ⟨h.rp, Nat.le_refl _, h.wq⟩
    simp only [f_is_home, m_is_home, c_HOMES, fnB, fnP, Rs.noE, startE, seqS, ifS, thenS, toB, op2, opN, op1, Opd.run, fill, lookV, look, Rs.bind, Rs.map, ofO, cD, vD, D.asB, semGt, semGe, semLt, semLe, setS, putS, DL.putF, shD, frzD, mvD, rtS, chgS, fillW, OV.lst?, OV.d, nxS, runs, looks, semInt, semMod, semFdiv, semAdd, semSub, semMul, semAbs, semLen, semTuple, semList, lstD, tupD, evs, callP, callB, slD, poN, poS, semSl, D.asI, appS, appF, extS, extF, augS, augF, exS, ifD, andT, orT, notT, notD, andD, orD, par2, par3, asgS, gN, gT, gsCons, gsNil, forD, rg1, rg2, itA, zpD, zip2, zipD, lcD, yesT, wipeE, m1D, tabD, semIs, semIsNot, D.isN, toT, orV, andV, notV, D.tru, chD, isiD, D.key, evPs, dicD, semDict, pairD, semRepr, callL, op2O, slO, opNO, lrgO, OV.flt, D.flt, semAddL, semMulL, semListL, mLD, popF, popS, insF, insS, clrS, revO, Rs.noE, List.map_cons, List.map_nil, List.length_cons, List.length_nil, List.length_map, List.replicate, List.cons_append, List.nil_append, List.append_nil, List.getElem?_cons_zero, List.getElem?_cons_succ, List.set_cons_zero, List.set_cons_succ, Option.bind_some, Option.bind_none, Option.map_some, Option.map_none, Nat.zero_add, Nat.add_zero, Nat.reduceAdd, Nat.reduceSub, Nat.sub_self, Nat.reduceLeDiff, Nat.reduceEqDiff, Nat.le_refl, Nat.add_sub_cancel, if_true, if_false, Bool.false_eq_true, Bool.not_true, Bool.not_false, Bool.not_not, reduceIte, reduceCtorEq, and_self, and_true, true_and, decide_true, decide_false, semEq_str, semNe_str, semEq_int, semNe_int, semEq_bl, semNe_bl, atI0, atI1, atI2, atI3, atI4, OkS_nx, post_ok, items_lst, items_tup, semAt_lst, semAt_tup, semAt_str, semAt_dic, isi_str, this]
  | scr _ => exact absurd h.rp Bool.false_ne_true
  | obj _ _ => exact absurd h.rp Bool.false_ne_true
  | _ => simp only [f_is_home, m_is_home, fnP, startE, andD, isiD, Opd.run, fill, lookV, look, Rs.bind, Rs.map, ofO, OV.d, thenS, rtS, shD, cD, D.asB, Rs.noE, List.map_cons, List.map_nil, List.length_cons, List.length_nil, List.length_map, List.replicate, List.cons_append, List.nil_append, List.append_nil, List.getElem?_cons_zero, List.getElem?_cons_succ, List.set_cons_zero, List.set_cons_succ, Option.bind_some, Option.bind_none, Option.map_some, Option.map_none, Nat.zero_add, Nat.add_zero, Nat.reduceAdd, Nat.reduceSub, Nat.sub_self, Nat.reduceLeDiff, Nat.reduceEqDiff, Nat.le_refl, Nat.add_sub_cancel, if_true, if_false, Bool.false_eq_true, Bool.not_true, Bool.not_false, Bool.not_not, reduceIte, reduceCtorEq, and_self, and_true, true_and, decide_true, decide_false, semEq_str, semNe_str, semEq_int, semNe_int, semEq_bl, semNe_bl, atI0, atI1, atI2, atI3, atI4, OkS_nx, post_ok, items_lst, items_tup, semAt_lst, semAt_tup, semAt_str, semAt_dic, isi_str, homB]
def intB : D → Bool
  | .int _ => true
  | _ => false
def dueD (d : D) : D := .lst [.bl (intB d), .bl (nmB d), .bl (relB d), .bl (homB d)]
theorem due_sm (d : D) : Sm 1 100 (dueD d) := by
  have h : ∀ b : Bool, Sm 0 20 (.bl b) := fun b => by cases b <;> exact ⟨rfl, rfl, by decide, by decide⟩
  exact (Sm.lst (n := 0) (w := 20) (m := 4) (fun e he => by
    simp only [List.mem_cons, List.not_mem_nil, or_false] at he
    rcases he with rfl | rfl | rfl | rfl <;> exact h _) (by show 4 ≤ 4; decide)).mono (by decide) (by decide)
def envL (ns : List Int) (bs : List D) (o2 o3 o4 o5 o6 o7 o8 o9 : Option OV) : En := [some (.sh (.scr ns)), some (.ow bs), o2, o3, o4, o5, o6, o7, o8, o9]
set_option maxHeartbeats 8000000 in
theorem thing_ok (ns : List Int) (bs : List D) (o2 o3 o5 o6 o7 o8 o9 : Option OV) {d : D} (h : Gd 2 3000 d) :
    OkS (fun r => ∃ o4 o5 o6 o7, r = envL ns bs o2 o3 o4 o5 o6 o7 o8 o9) (bd_law_2 (envL ns bs o2 o3 (some (.sh d)) o5 o6 o7 o8 o9)) := by
  have e1 := isInt_eq h.rp
  have e2 := isName_eq h (by decide)
  have e3 := isRel_eq h
  have e4 := isHome_eq h
  have e5 := lawIsName_eq h (by decide)
  have s1 : setS 5 (shD (frzD (lstD [(andD (isiD (.va 4) ["int"]) (notD (isiD (.va 4) ["bool"]))), (frzD (callP 1 f__law_is_name [(vD 4)]))]))) (envL ns bs o2 o3 (some (.sh d)) o5 o6 o7 o8 o9) = .nx (envL ns bs o2 o3 (some (.sh d)) (some (.sh (.lst [.bl (intB d), .bl (nmB d)]))) o6 o7 o8 o9) := by
    have hA : andD (isiD (.va 4) ["int"]) (notD (isiD (.va 4) ["bool"])) (envL ns bs o2 o3 (some (.sh d)) o5 o6 o7 o8 o9) = .ok (.bl (intB d)) (envL ns bs o2 o3 (some (.sh d)) o5 o6 o7 o8 o9) := by
      cases d with
      | scr _ => exact absurd h.rp Bool.false_ne_true
      | obj _ _ => exact absurd h.rp Bool.false_ne_true
      | _ => simp only [envL, andD, notD, isiD, Opd.run, fill, lookV, look, Rs.bind, Rs.map, ofO, OV.d, D.asB, D.isi, D.ty, isTy, Rs.noE, List.map_cons, List.map_nil, List.length_cons, List.length_nil, List.length_map, List.replicate, List.cons_append, List.nil_append, List.append_nil, List.getElem?_cons_zero, List.getElem?_cons_succ, List.set_cons_zero, List.set_cons_succ, Option.bind_some, Option.bind_none, Option.map_some, Option.map_none, Nat.zero_add, Nat.add_zero, Nat.reduceAdd, Nat.reduceSub, Nat.sub_self, Nat.reduceLeDiff, Nat.reduceEqDiff, Nat.le_refl, Nat.add_sub_cancel, if_true, if_false, Bool.false_eq_true, Bool.not_true, Bool.not_false, Bool.not_not, reduceIte, reduceCtorEq, and_self, and_true, true_and, decide_true, decide_false, semEq_str, semNe_str, semEq_int, semNe_int, semEq_bl, semNe_bl, atI0, atI1, atI2, atI3, atI4, OkS_nx, post_ok, items_lst, items_tup, semAt_lst, semAt_tup, semAt_str, semAt_dic, intB] <;> rfl
    simp only [envL] at hA
    simp only [envL, setS, shD, frzD, lstD, evs, callP, vD, Rs.bind, Rs.map, ofO, OV.d, thenS, Rs.noE, List.map_cons, List.map_nil, List.length_cons, List.length_nil, List.length_map, List.replicate, List.cons_append, List.nil_append, List.append_nil, List.getElem?_cons_zero, List.getElem?_cons_succ, List.set_cons_zero, List.set_cons_succ, Option.bind_some, Option.bind_none, Option.map_some, Option.map_none, Nat.zero_add, Nat.add_zero, Nat.reduceAdd, Nat.reduceSub, Nat.sub_self, Nat.reduceLeDiff, Nat.reduceEqDiff, Nat.le_refl, Nat.add_sub_cancel, if_true, if_false, Bool.false_eq_true, Bool.not_true, Bool.not_false, Bool.not_not, reduceIte, reduceCtorEq, and_self, and_true, true_and, decide_true, decide_false, semEq_str, semNe_str, semEq_int, semNe_int, semEq_bl, semNe_bl, atI0, atI1, atI2, atI3, atI4, OkS_nx, post_ok, items_lst, items_tup, semAt_lst, semAt_tup, semAt_str, semAt_dic, hA, e5]
  have l1 : lc_law_1 (envL ns bs o2 o3 (some (.sh d)) (some (.sh (.lst [.bl (intB d), .bl (nmB d)]))) o6 o7 o8 o9) = .ok (.ow [.bl (relB d), .bl (homB d)]) (envL ns bs o2 o3 (some (.sh d)) (some (.sh (.lst [.bl (intB d), .bl (nmB d)]))) none o7 o8 o9) := by
    have := lcD_mp1 (it := it_law_1) (vs := [6]) (h := gN 6) (elt := el_law_1) (r := envL ns bs o2 o3 (some (.sh d)) (some (.sh (.lst [.bl (intB d), .bl (nmB d)]))) o6 o7 o8 o9) (r1 := envL ns bs o2 o3 (some (.sh d)) (some (.sh (.lst [.bl (intB d), .bl (nmB d)]))) o6 o7 o8 o9) (envL ns bs o2 o3 (some (.sh d)) (some (.sh (.lst [.bl (intB d), .bl (nmB d)]))) none o7 o8 o9) [true, false] (fun b => if b then .tup [.str "eq", .str "lt", .str "gt"] else .tup [.str "goal", .str "book"]) (fun b => .bl (if b then relB d else homB d)) (by
        simp only [it_law_1, itA, tupD, evs, cD, Rs.bind, ofO, Rs.noE, List.map_cons, List.map_nil, List.length_cons, List.length_nil, List.length_map, List.replicate, List.cons_append, List.nil_append, List.append_nil, List.getElem?_cons_zero, List.getElem?_cons_succ, List.set_cons_zero, List.set_cons_succ, Option.bind_some, Option.bind_none, Option.map_some, Option.map_none, Nat.zero_add, Nat.add_zero, Nat.reduceAdd, Nat.reduceSub, Nat.sub_self, Nat.reduceLeDiff, Nat.reduceEqDiff, Nat.le_refl, Nat.add_sub_cancel, if_true, if_false, Bool.false_eq_true, Bool.not_true, Bool.not_false, Bool.not_not, reduceIte, reduceCtorEq, and_self, and_true, true_and, decide_true, decide_false, semEq_str, semNe_str, semEq_int, semNe_int, semEq_bl, semNe_bl, atI0, atI1, atI2, atI3, atI4, OkS_nx, post_ok, items_lst, items_tup, semAt_lst, semAt_tup, semAt_str, semAt_dic]) (by decide) rfl rfl (fun b _ => by
        refine ⟨_, rfl, rfl, ?_⟩
        cases d with
        | str x =>
          have q1 := in_rel (w := 3000) ⟨h.rp, Nat.le_refl _, h.wq⟩
          have q2 := in_home (w := 3000) ⟨h.rp, Nat.le_refl _, h.wq⟩
          cases b
          · simp only [el_law_1, envL, andD, isiD, op2, Opd.run, fill, lookV, look, Rs.bind, Rs.map, ofO, OV.d, D.asB, isi_str, Rs.noE, List.map_cons, List.map_nil, List.length_cons, List.length_nil, List.length_map, List.replicate, List.cons_append, List.nil_append, List.append_nil, List.getElem?_cons_zero, List.getElem?_cons_succ, List.set_cons_zero, List.set_cons_succ, Option.bind_some, Option.bind_none, Option.map_some, Option.map_none, Nat.zero_add, Nat.add_zero, Nat.reduceAdd, Nat.reduceSub, Nat.sub_self, Nat.reduceLeDiff, Nat.reduceEqDiff, Nat.le_refl, Nat.add_sub_cancel, if_true, if_false, Bool.false_eq_true, Bool.not_true, Bool.not_false, Bool.not_not, reduceIte, reduceCtorEq, and_self, and_true, true_and, decide_true, decide_false, semEq_str, semNe_str, semEq_int, semNe_int, semEq_bl, semNe_bl, atI0, atI1, atI2, atI3, atI4, OkS_nx, post_ok, items_lst, items_tup, semAt_lst, semAt_tup, semAt_str, semAt_dic, q2]
            rfl
          · simp only [el_law_1, envL, andD, isiD, op2, Opd.run, fill, lookV, look, Rs.bind, Rs.map, ofO, OV.d, D.asB, isi_str, Rs.noE, List.map_cons, List.map_nil, List.length_cons, List.length_nil, List.length_map, List.replicate, List.cons_append, List.nil_append, List.append_nil, List.getElem?_cons_zero, List.getElem?_cons_succ, List.set_cons_zero, List.set_cons_succ, Option.bind_some, Option.bind_none, Option.map_some, Option.map_none, Nat.zero_add, Nat.add_zero, Nat.reduceAdd, Nat.reduceSub, Nat.sub_self, Nat.reduceLeDiff, Nat.reduceEqDiff, Nat.le_refl, Nat.add_sub_cancel, if_true, if_false, Bool.false_eq_true, Bool.not_true, Bool.not_false, Bool.not_not, reduceIte, reduceCtorEq, and_self, and_true, true_and, decide_true, decide_false, semEq_str, semNe_str, semEq_int, semNe_int, semEq_bl, semNe_bl, atI0, atI1, atI2, atI3, atI4, OkS_nx, post_ok, items_lst, items_tup, semAt_lst, semAt_tup, semAt_str, semAt_dic, q1]
            rfl
        | scr _ => exact absurd h.rp Bool.false_ne_true
        | obj _ _ => exact absurd h.rp Bool.false_ne_true
        | _ =>
          cases b <;> simp only [el_law_1, envL, andD, isiD, op2, Opd.run, fill, lookV, look, Rs.bind, Rs.map, ofO, OV.d, D.asB, isi_str, Rs.noE, List.map_cons, List.map_nil, List.length_cons, List.length_nil, List.length_map, List.replicate, List.cons_append, List.nil_append, List.append_nil, List.getElem?_cons_zero, List.getElem?_cons_succ, List.set_cons_zero, List.set_cons_succ, Option.bind_some, Option.bind_none, Option.map_some, Option.map_none, Nat.zero_add, Nat.add_zero, Nat.reduceAdd, Nat.reduceSub, Nat.sub_self, Nat.reduceLeDiff, Nat.reduceEqDiff, Nat.le_refl, Nat.add_sub_cancel, if_true, if_false, Bool.false_eq_true, Bool.not_true, Bool.not_false, Bool.not_not, reduceIte, reduceCtorEq, and_self, and_true, true_and, decide_true, decide_false, semEq_str, semNe_str, semEq_int, semNe_int, semEq_bl, semNe_bl, atI0, atI1, atI2, atI3, atI4, OkS_nx, post_ok, items_lst, items_tup, semAt_lst, semAt_tup, semAt_str, semAt_dic, relB, homB] <;> rfl)
    exact this
  have s2 : setS 5 (shD (op2 (.va 5) (.ex (frzD lc_law_1)) semAdd)) (envL ns bs o2 o3 (some (.sh d)) (some (.sh (.lst [.bl (intB d), .bl (nmB d)]))) o6 o7 o8 o9) = .nx (envL ns bs o2 o3 (some (.sh d)) (some (.sh (dueD d))) none o7 o8 o9) := by
    have ha : semAdd (.lst [.bl (intB d), .bl (nmB d)]) (.lst [.bl (relB d), .bl (homB d)]) = some (dueD d) := rfl
    simp only [envL] at l1
    simp only [envL, setS, shD, frzD, op2, Opd.run, fill, lookV, look, Rs.bind, Rs.map, ofO, OV.d, thenS, Rs.noE, List.map_cons, List.map_nil, List.length_cons, List.length_nil, List.length_map, List.replicate, List.cons_append, List.nil_append, List.append_nil, List.getElem?_cons_zero, List.getElem?_cons_succ, List.set_cons_zero, List.set_cons_succ, Option.bind_some, Option.bind_none, Option.map_some, Option.map_none, Nat.zero_add, Nat.add_zero, Nat.reduceAdd, Nat.reduceSub, Nat.sub_self, Nat.reduceLeDiff, Nat.reduceEqDiff, Nat.le_refl, Nat.add_sub_cancel, if_true, if_false, Bool.false_eq_true, Bool.not_true, Bool.not_false, Bool.not_not, reduceIte, reduceCtorEq, and_self, and_true, true_and, decide_true, decide_false, semEq_str, semNe_str, semEq_int, semNe_int, semEq_bl, semNe_bl, atI0, atI1, atI2, atI3, atI4, OkS_nx, post_ok, items_lst, items_tup, semAt_lst, semAt_tup, semAt_str, semAt_dic, l1, ha]
  have al := alike_sm (due_sm d)
  unfold dueD at al
  have e1 : f_is_integer [d] = some (.sh (.bl (intB d))) := by rw [e1]; cases d <;> rfl
  unfold bd_law_2
  rw [seqS_nx s1, seqS_nx s2]
  have ei : it_law_2 (envL ns bs o2 o3 (some (.sh d)) (some (.sh (dueD d))) none o7 o8 o9) = .ok (rangeD 0 2) (envL ns bs o2 o3 (some (.sh d)) (some (.sh (dueD d))) none o7 o8 o9) := rfl
  have := forD_ok (f := it_law_2) (h := gN 7) (body := bd_law_1) _ (fun _ r => ∃ o7, r = envL ns bs o2 o3 (some (.sh d)) (some (.sh (dueD d))) none o7 o8 o9) ei ⟨_, rfl⟩ (by
    rintro j y hy r ⟨o7, rfl⟩
    refine ⟨envL ns bs o2 o3 (some (.sh d)) (some (.sh (dueD d))) none (some (.sh y)) o8 o9, rfl, ?_⟩
    have t1 : notT (toB (frzD (callP 2 f__law_alike [(frzD (lstD [(frzD (callP 1 f_is_integer [(vD 4)])), (frzD (callP 1 f_is_name [(vD 4)])), (frzD (callP 1 f_is_relation [(vD 4)])), (frzD (callP 1 f_is_home [(vD 4)]))])), (vD 5)]))) (envL ns bs o2 o3 (some (.sh d)) (some (.sh (dueD d))) none (some (.sh y)) o8 o9) = .ok false (envL ns bs o2 o3 (some (.sh d)) (some (.sh (dueD d))) none (some (.sh y)) o8 o9) := by
      unfold dueD
      simp only [envL, notT, toB, frzD, callP, lstD, evs, vD, Rs.bind, Rs.map, ofO, OV.d, D.asB, Rs.noE, List.map_cons, List.map_nil, List.length_cons, List.length_nil, List.length_map, List.replicate, List.cons_append, List.nil_append, List.append_nil, List.getElem?_cons_zero, List.getElem?_cons_succ, List.set_cons_zero, List.set_cons_succ, Option.bind_some, Option.bind_none, Option.map_some, Option.map_none, Nat.zero_add, Nat.add_zero, Nat.reduceAdd, Nat.reduceSub, Nat.sub_self, Nat.reduceLeDiff, Nat.reduceEqDiff, Nat.le_refl, Nat.add_sub_cancel, if_true, if_false, Bool.false_eq_true, Bool.not_true, Bool.not_false, Bool.not_not, reduceIte, reduceCtorEq, and_self, and_true, true_and, decide_true, decide_false, semEq_str, semNe_str, semEq_int, semNe_int, semEq_bl, semNe_bl, atI0, atI1, atI2, atI3, atI4, OkS_nx, post_ok, items_lst, items_tup, semAt_lst, semAt_tup, semAt_str, semAt_dic, e1, e2, e3, e4, al]
    unfold bd_law_1
    rw [ifS_no t1]
    exact ⟨_, rfl⟩)
  refine OkS.imp this ?_
  rintro r ⟨o7, rfl⟩
  exact ⟨_, _, _, _, rfl⟩
end T

namespace T
open PySem L2 DL
/-! ### the names listed -/
theorem Tx.lab {x : Str} (h : Tx 8 x) : LabOk x := ⟨h.pl, h.len⟩
theorem lts_tx : ∀ x ∈ lts, Tx 1 x := fun x hx => by
  obtain ⟨h1, h2⟩ := lts_ok x hx
  exact ⟨by omega, fun c hc => by have := h1 c hc; omega⟩
theorem lev1_tx : ∀ x ∈ lev1, Tx 2 x := fun x hx => by
  obtain ⟨h1, h2⟩ := nxt_ok lts_ok x hx
  exact ⟨by omega, fun c hc => by have := h1 c hc; omega⟩
theorem lts_len : lts.length = 26 := by have := congrArg List.length lts_rk; simpa using this
theorem lev1_len : lev1.length = 676 := by have := congrArg List.length lev1_rk; simpa using this
def pre (a : Str) : List Str := lts.map fun x => a ++ x
theorem pre_tx {a : Str} {n : Nat} (h : Tx n a) : ∀ x ∈ pre a, Tx (n + 1) x := fun x hx => by
  obtain ⟨y, hy, rfl⟩ := List.mem_map.mp hx
  exact h.app (lts_tx y hy)
theorem pre_len (a : Str) : (pre a).length = 26 := by unfold pre; rw [List.length_map, lts_len]
def envG (bs : List D) (xs : List Str) (v : Int) (o4 o5 o6 o7 : Option OV) : En := [some (.ow bs), some (.sh (.lst (xs.map D.str))), some (.sh (.lst (lts.map D.str))), some (.sh (.int v)), o4, o5, o6, o7]
theorem add_lst {xs ys : List Str} (h : xs.length + ys.length ≤ 1000000) : semAdd (.lst (xs.map D.str)) (.lst (ys.map D.str)) = some (.lst ((xs ++ ys).map D.str)) := by
  rw [List.map_append]
  exact if_pos (by rw [List.length_map, List.length_map]; exact h)
theorem sl_lst (xs : List Str) (lo hi : Option Int) : semSl (.lst (xs.map D.str)) lo hi = some (.lst ((cutL xs lo hi).map D.str)) := by
  rw [← cutL_map]
  rfl
theorem add_tx {n m : Nat} {x y : Str} (hx : Tx n x) (hy : Tx m y) (h : n + m ≤ 1000000 := by decide) : semAdd (.str x) (.str y) = some (.str (x ++ y)) := add_str (by have := hx.len; have := hy.len; omega)
theorem a_tx : Tx 1 ("a" : Str) := sg_tx "a" (by decide)
theorem aa_tx : Tx 2 ("aa" : Str) := by
  have h1 : (decide ((("aa" : Str)).length ≤ 2)) = true := by decide +kernel
  have h2 : (("aa" : Str).cps.toList.all fun c => decide (c < 1114112)) = true := by decide +kernel
  exact ⟨of_decide_eq_true h1, fun c hc => of_decide_eq_true (List.all_eq_true.mp h2 c hc)⟩
theorem l1_ok (bs : List D) (xs : List Str) (v : Int) (o4 o5 o6 o7 : Option OV) : lc__law_listed_1 (envG bs xs v o4 o5 o6 o7) = .ok (.ow ((pre "a").map D.str)) (envG bs xs v none o5 o6 o7) := by
  have := lcD_mp1 (it := it__law_listed_1) (vs := [4]) (h := gN 4) (elt := el__law_listed_1) (r := envG bs xs v o4 o5 o6 o7) (r1 := envG bs xs v o4 o5 o6 o7) (envG bs xs v none o5 o6 o7) lts D.str (fun x => D.str ("a" ++ x)) rfl (by rw [lts_len]; decide) rfl rfl (fun x hx => by
    refine ⟨envG bs xs v (some (.sh (.str x))) o5 o6 o7, rfl, rfl, ?_⟩
    have ha := add_tx a_tx (lts_tx x hx)
    simp only [el__law_listed_1, envG, op2, cD, Opd.run, fill, lookV, look, Rs.bind, Rs.map, ofO, OV.d, Rs.noE, List.map_cons, List.map_nil, List.length_cons, List.length_nil, List.length_map, List.replicate, List.cons_append, List.nil_append, List.append_nil, List.getElem?_cons_zero, List.getElem?_cons_succ, List.set_cons_zero, List.set_cons_succ, Option.bind_some, Option.bind_none, Option.map_some, Option.map_none, Nat.zero_add, Nat.add_zero, Nat.reduceAdd, Nat.reduceSub, Nat.sub_self, Nat.reduceLeDiff, Nat.reduceEqDiff, Nat.le_refl, Nat.add_sub_cancel, if_true, if_false, Bool.false_eq_true, Bool.not_true, Bool.not_false, Bool.not_not, reduceIte, reduceCtorEq, and_self, and_true, true_and, decide_true, decide_false, semEq_str, semNe_str, semEq_int, semNe_int, semEq_bl, semNe_bl, atI0, atI1, atI2, atI3, atI4, OkS_nx, post_ok, items_lst, items_tup, semAt_lst, semAt_tup, semAt_str, semAt_dic, ha]
    rfl)
  unfold pre
  rw [List.map_map]
  exact this
theorem l4_ok (bs : List D) (xs : List Str) (v : Int) (o4 o5 o6 o7 : Option OV) : lc__law_listed_4 (envG bs xs v o4 o5 o6 o7) = .ok (.ow ((pre "aa").map D.str)) (envG bs xs v none o5 o6 o7) := by
  have := lcD_mp1 (it := it__law_listed_4) (vs := [4]) (h := gN 4) (elt := el__law_listed_4) (r := envG bs xs v o4 o5 o6 o7) (r1 := envG bs xs v o4 o5 o6 o7) (envG bs xs v none o5 o6 o7) lts D.str (fun x => D.str ("aa" ++ x)) rfl (by rw [lts_len]; decide) rfl rfl (fun x hx => by
    refine ⟨envG bs xs v (some (.sh (.str x))) o5 o6 o7, rfl, rfl, ?_⟩
    have ha := add_tx aa_tx (lts_tx x hx)
    simp only [el__law_listed_4, envG, op2, cD, Opd.run, fill, lookV, look, Rs.bind, Rs.map, ofO, OV.d, Rs.noE, List.map_cons, List.map_nil, List.length_cons, List.length_nil, List.length_map, List.replicate, List.cons_append, List.nil_append, List.append_nil, List.getElem?_cons_zero, List.getElem?_cons_succ, List.set_cons_zero, List.set_cons_succ, Option.bind_some, Option.bind_none, Option.map_some, Option.map_none, Nat.zero_add, Nat.add_zero, Nat.reduceAdd, Nat.reduceSub, Nat.sub_self, Nat.reduceLeDiff, Nat.reduceEqDiff, Nat.le_refl, Nat.add_sub_cancel, if_true, if_false, Bool.false_eq_true, Bool.not_true, Bool.not_false, Bool.not_not, reduceIte, reduceCtorEq, and_self, and_true, true_and, decide_true, decide_false, semEq_str, semNe_str, semEq_int, semNe_int, semEq_bl, semNe_bl, atI0, atI1, atI2, atI3, atI4, OkS_nx, post_ok, items_lst, items_tup, semAt_lst, semAt_tup, semAt_str, semAt_dic, ha]
    rfl)
  unfold pre
  rw [List.map_map]
  exact this
theorem l2_ok (bs : List D) (xs : List Str) (v : Int) (o4 o5 o7 : Option OV) {y : Str} (hy : y ∈ lts) : lc__law_listed_2 (envG bs xs v o4 o5 (some (.sh (.str y))) o7) = .ok (.ow ((pre y).map D.str)) (envG bs xs v none o5 (some (.sh (.str y))) o7) := by
  have := lcD_mp1 (it := it__law_listed_2) (vs := [4]) (h := gN 4) (elt := el__law_listed_2) (r := envG bs xs v o4 o5 (some (.sh (.str y))) o7) (r1 := envG bs xs v o4 o5 (some (.sh (.str y))) o7) (envG bs xs v none o5 (some (.sh (.str y))) o7) lts D.str (fun x => D.str (y ++ x)) rfl (by rw [lts_len]; decide) rfl rfl (fun x hx => by
    refine ⟨envG bs xs v (some (.sh (.str x))) o5 (some (.sh (.str y))) o7, rfl, rfl, ?_⟩
    have ha := add_tx (lts_tx y hy) (lts_tx x hx)
    simp only [el__law_listed_2, envG, op2, cD, Opd.run, fill, lookV, look, Rs.bind, Rs.map, ofO, OV.d, Rs.noE, List.map_cons, List.map_nil, List.length_cons, List.length_nil, List.length_map, List.replicate, List.cons_append, List.nil_append, List.append_nil, List.getElem?_cons_zero, List.getElem?_cons_succ, List.set_cons_zero, List.set_cons_succ, Option.bind_some, Option.bind_none, Option.map_some, Option.map_none, Nat.zero_add, Nat.add_zero, Nat.reduceAdd, Nat.reduceSub, Nat.sub_self, Nat.reduceLeDiff, Nat.reduceEqDiff, Nat.le_refl, Nat.add_sub_cancel, if_true, if_false, Bool.false_eq_true, Bool.not_true, Bool.not_false, Bool.not_not, reduceIte, reduceCtorEq, and_self, and_true, true_and, decide_true, decide_false, semEq_str, semNe_str, semEq_int, semNe_int, semEq_bl, semNe_bl, atI0, atI1, atI2, atI3, atI4, OkS_nx, post_ok, items_lst, items_tup, semAt_lst, semAt_tup, semAt_str, semAt_dic, ha]
    rfl)
  unfold pre
  rw [List.map_map]
  exact this
theorem l3_ok (bs : List D) (xs : List Str) (v : Int) (o5 o6 o7 : Option OV) : lc__law_listed_3 (envG bs xs v none o5 o6 o7) = .ok (.ow (lts.map fun y => D.lst ((pre y).map D.str))) (envG bs xs v none o5 none o7) :=
  lcD_mp1 (it := it__law_listed_3) (vs := [6]) (h := gN 6) (elt := el__law_listed_3) (r := envG bs xs v none o5 o6 o7) (r1 := envG bs xs v none o5 o6 o7) (envG bs xs v none o5 none o7) lts D.str _ rfl (by rw [lts_len]; decide) rfl rfl (fun y hy => by
    refine ⟨envG bs xs v none o5 (some (.sh (.str y))) o7, rfl, rfl, ?_⟩
    have e : el__law_listed_3 (envG bs xs v none o5 (some (.sh (.str y))) o7) = .ok (.lst ((pre y).map D.str)) (envG bs xs v none o5 (some (.sh (.str y))) o7) := frz_o (l2_ok bs xs v none o5 o7 hy)
    rw [e]
    exact ⟨rfl, rfl⟩)
theorem sum_lev : semSumL (.lst (lts.map fun y => D.lst ((pre y).map D.str))) = some (lev1.map D.str) := by
  have e : (lts.map fun y => D.lst ((pre y).map D.str)) = (lts.map fun y => (pre y).map D.str).map D.lst := by rw [List.map_map]; rfl
  have e2 : (lts.map fun y => (pre y).map D.str).flatten = lev1.map D.str := by
    unfold lev1 nxt pre lts
    simp only [List.map_map, List.flatMap, List.map_flatten]
    rfl
  have h : (lts.map fun y => (pre y).map D.str).flatten.length ≤ 100000 := by rw [e2, List.length_map, lev1_len]; decide
  rw [e]
  show ((lstsOf ((lts.map fun y => (pre y).map D.str).map D.lst)).bind fun xss => if xss.flatten.length ≤ 100000 then some xss.flatten else none) = _
  rw [lstsOf_map]
  show (if (lts.map fun y => (pre y).map D.str).flatten.length ≤ 100000 then some (lts.map fun y => (pre y).map D.str).flatten else none) = _
  rw [if_pos h, e2]
/-- some of a list, drawn -/
theorem lcS_sub {vs : List Nat} {h : D → En → Option En} {t : En → Rs Bool} {elt : En → Rs D} (I : En → Prop) (hI : ∀ r, I r → wipeE r vs = r) : ∀ (ds : List D), (∀ d ∈ ds, ∀ r, I r → ∃ ra b rb, h d r = some ra ∧ t ra = .ok b rb ∧ elt rb = .ok d rb ∧ I (wipeE rb vs)) →
    ∀ r, I r → ∃ ys r', lcS vs h t elt ds r = .ok ys r' ∧ (∀ y ∈ ys, y ∈ ds) ∧ ys.length ≤ ds.length ∧ I r'
  | [], _, r, hr => ⟨[], r, rfl, fun _ z => z, Nat.le_refl _, hr⟩
  | d :: ds, st, r, hr => by
    obtain ⟨ra, b, rb, e1, e2, e3, h3⟩ := st d (List.mem_cons_self ..) r hr
    obtain ⟨ys, r', e4, e5, e6, e7⟩ := lcS_sub I hI ds (fun d hd => st d (List.mem_cons_of_mem _ hd)) _ h3
    rw [← hI r hr] at e1
    cases b with
    | true =>
      refine ⟨d :: ys, r', ?_, fun z hz => ?_, by rw [List.length_cons, List.length_cons]; omega, e7⟩
      · unfold lcS
        rw [e1]
        simp only [e2, Rs.bind, if_true, e3, e4]
      · rcases List.mem_cons.mp hz with rfl | hz
        · exact List.mem_cons_self ..
        · exact List.mem_cons_of_mem _ (e5 z hz)
    | false =>
      refine ⟨ys, r', ?_, fun z hz => List.mem_cons_of_mem _ (e5 z hz), by rw [List.length_cons]; omega, e7⟩
      unfold lcS
      rw [e1]
      simp only [e2, Rs.bind, Bool.false_eq_true, if_false, e4]
theorem at_neg {α : Type} {xs : List α} {w : Int} (h0 : 0 ≤ w) (h1 : w < (xs.length : Int)) : ∃ x, atI xs (-1 - w) = some x ∧ x ∈ xs := by
  have hk : xs.length - 1 - w.toNat < xs.length := by omega
  refine ⟨xs[xs.length - 1 - w.toNat], ?_, List.getElem_mem hk⟩
  unfold atI ixN
  rw [if_neg (by omega)]
  have e : (-1 - w + (xs.length : Int)).toNat = xs.length - 1 - w.toNat := by omega
  split
  · simp only [Option.bind_some]
    first
      | (rw [e]; exact List.getElem?_eq_getElem hk)
      | (rw [show ((xs.length : Int) + (-1 - w)).toNat = xs.length - 1 - w.toNat by omega]; exact List.getElem?_eq_getElem hk)
  · omega
set_option maxHeartbeats 2000000 in
theorem l5_ok {bs : List D} (hb : BagOk bs) (xs zs : List Str) (v : Int) (o4 o6 o7 : Option OV) (hz : 90 ≤ zs.length) (hz2 : zs.length ≤ 1000) : ∃ (ys : List Str) (b' : List D), lc__law_listed_5 (envG bs xs v o4 (some (.sh (.lst (zs.map D.str)))) o6 o7) = .ok (.ow (ys.map D.str)) (envG b' xs v o4 (some (.sh (.lst (zs.map D.str)))) o6 none) ∧ (∀ y ∈ ys, y ∈ zs) ∧ ys.length ≤ zs.length ∧ BagOk b' := by
  obtain ⟨ys, r', e1, e2, e3, b', rfl, hb'⟩ := lcS_sub (vs := [7]) (h := gN 7) (t := ts__law_listed_1) (elt := el__law_listed_5) (fun r => ∃ b, r = envG b xs v o4 (some (.sh (.lst (zs.map D.str)))) o6 none ∧ BagOk b) (by rintro r ⟨b, rfl, _⟩; rfl) (zs.map D.str) (by
    rintro d hd r ⟨b, rfl, hb⟩
    obtain ⟨z, hzz, rfl⟩ := List.mem_map.mp hd
    obtain ⟨w, b2, e, w0, w1, hb2⟩ := take_ok hb (n := 90) (by decide) (by decide)
    obtain ⟨x, ex, hx⟩ := at_neg (xs := zs.map D.str) w0 (by rw [List.length_map]; omega)
    obtain ⟨y, hy, rfl⟩ := List.mem_map.mp hx
    refine ⟨envG b xs v o4 (some (.sh (.lst (zs.map D.str)))) o6 (some (.sh (.str z))), !decide (z = y), envG b2 xs v o4 (some (.sh (.lst (zs.map D.str)))) o6 (some (.sh (.str z))), rfl, ?_, rfl, b2, rfl, hb2⟩
    have hn : semNeg (.int 1) = some (.int (-1)) := rfl
    have hs : semSub (.int (-1)) (.int w) = some (.int (-1 - w)) := rfl
    have hat : semAt (.lst (zs.map D.str)) (.int (-1 - w)) = some (.str y) := ex
    have hne : semNe (.str z) (.str y) = some (.bl (!decide (z = y))) := rfl
    simp only [ts__law_listed_1, envG, toB, op2, op1, frzD, callB, evs, cD, Opd.run, fill, lookV, look, Rs.bind, Rs.map, ofO, OV.d, OV.lst?, D.asB, Rs.noE, List.map_cons, List.map_nil, List.length_cons, List.length_nil, List.length_map, List.replicate, List.cons_append, List.nil_append, List.append_nil, List.getElem?_cons_zero, List.getElem?_cons_succ, List.set_cons_zero, List.set_cons_succ, Option.bind_some, Option.bind_none, Option.map_some, Option.map_none, Nat.zero_add, Nat.add_zero, Nat.reduceAdd, Nat.reduceSub, Nat.sub_self, Nat.reduceLeDiff, Nat.reduceEqDiff, Nat.le_refl, Nat.add_sub_cancel, if_true, if_false, Bool.false_eq_true, Bool.not_true, Bool.not_false, Bool.not_not, reduceIte, reduceCtorEq, and_self, and_true, true_and, decide_true, decide_false, semEq_str, semNe_str, semEq_int, semNe_int, semEq_bl, semNe_bl, atI0, atI1, atI2, atI3, atI4, OkS_nx, post_ok, items_lst, items_tup, semAt_lst, semAt_tup, semAt_str, semAt_dic, e, hn, hs, hat, hne]) (envG bs xs v o4 (some (.sh (.lst (zs.map D.str)))) o6 none) ⟨bs, rfl, hb⟩
  obtain ⟨us, rfl⟩ : ∃ us : List Str, ys = us.map D.str := by
    clear e1 e3
    induction ys with
    | nil => exact ⟨[], rfl⟩
    | cons y ys ih =>
      obtain ⟨us, rfl⟩ := ih fun z hz => e2 z (List.mem_cons_of_mem _ hz)
      obtain ⟨u, _, rfl⟩ := List.mem_map.mp (e2 y (List.mem_cons_self ..))
      exact ⟨u :: us, rfl⟩
  refine ⟨us, b', ?_, fun y hy => ?_, by simpa using e3, hb'⟩
  · have ew : ∀ r : En, lcS [7] (gN 7) ts__law_listed_1 el__law_listed_5 (zs.map D.str) r = lcS [7] (gN 7) ts__law_listed_1 el__law_listed_5 (zs.map D.str) (wipeE r [7]) := fun r => by
      cases hq : zs.map D.str with
      | nil =>
        have := congrArg List.length hq
        rw [List.length_map, List.length_nil] at this
        omega
      | cons d ds =>
        unfold lcS
        rw [wipeE_sub fun _ h => h]
    have hi : it__law_listed_5 (envG bs xs v o4 (some (.sh (.lst (zs.map D.str)))) o6 o7) = .ok (zs.map D.str) (envG bs xs v o4 (some (.sh (.lst (zs.map D.str)))) o6 o7) := rfl
    show lcD it__law_listed_5 [7] (gN 7) ts__law_listed_1 el__law_listed_5 _ = _
    unfold lcD
    rw [hi]
    simp only [Rs.bind]
    rw [if_pos (by rw [List.length_map]; omega), ew]
    have e1 : lcS [7] (gN 7) ts__law_listed_1 el__law_listed_5 (zs.map D.str) (wipeE (envG bs xs v o4 (some (.sh (.lst (zs.map D.str)))) o6 o7) [7]) = _ := e1
    rw [e1]
    rfl
  · have := e2 (D.str y) (List.mem_map.mpr ⟨y, hy, rfl⟩)
    exact mem_strs.mp this
theorem setS_env {bs b' : List D} {xs ys : List Str} {v : Int} {o4 o5 o6 o7 p4 p5 p6 p7 : Option OV} {f : En → Rs D} (e : f (envG bs xs v o4 o5 o6 o7) = .ok (.lst (ys.map D.str)) (envG b' xs v p4 p5 p6 p7)) : setS 1 (shD f) (envG bs xs v o4 o5 o6 o7) = .nx (envG b' ys v p4 p5 p6 p7) := by
  rw [setS_d e]
  rfl
theorem setS_env5 {bs b' : List D} {xs ys : List Str} {v : Int} {o4 o5 o6 o7 p4 p5 p6 p7 : Option OV} {f : En → Rs D} (e : f (envG bs xs v o4 o5 o6 o7) = .ok (.lst (ys.map D.str)) (envG b' xs v p4 p5 p6 p7)) : setS 5 (shD f) (envG bs xs v o4 o5 o6 o7) = .nx (envG b' xs v p4 (some (.sh (.lst (ys.map D.str)))) p6 p7) := by
  rw [setS_d e]
  rfl
theorem take_env {bs b' : List D} {xs : List Str} {v u : Int} {o4 o5 o6 o7 : Option OV} {k : Int} (hb : BagOk b') (e : f__law_take bs [.int k] = some (.sh (.int u), b')) : frzD (callB 1 f__law_take 0 [(cD (.int k))]) (envG bs xs v o4 o5 o6 o7) = .ok (.int u) (envG b' xs v o4 o5 o6 o7) := by
  simp only [frzD, envG, callB, evs, cD, Rs.bind, Rs.map, lookV, fill, OV.lst?, OV.d, ofO, Rs.noE, List.map_cons, List.map_nil, List.length_cons, List.length_nil, List.length_map, List.replicate, List.cons_append, List.nil_append, List.append_nil, List.getElem?_cons_zero, List.getElem?_cons_succ, List.set_cons_zero, List.set_cons_succ, Option.bind_some, Option.bind_none, Option.map_some, Option.map_none, Nat.zero_add, Nat.add_zero, Nat.reduceAdd, Nat.reduceSub, Nat.sub_self, Nat.reduceLeDiff, Nat.reduceEqDiff, Nat.le_refl, Nat.add_sub_cancel, if_true, if_false, Bool.false_eq_true, Bool.not_true, Bool.not_false, Bool.not_not, reduceIte, reduceCtorEq, and_self, and_true, true_and, decide_true, decide_false, semEq_str, semNe_str, semEq_int, semNe_int, semEq_bl, semNe_bl, atI0, atI1, atI2, atI3, atI4, OkS_nx, post_ok, items_lst, items_tup, semAt_lst, semAt_tup, semAt_str, semAt_dic, e]
def LInv (n : Nat) (v : Int) (r : En) : Prop := ∃ bs xs o5 o6 o7, r = envG bs xs v none o5 o6 o7 ∧ BagOk bs ∧ (∀ x ∈ xs, LabOk x) ∧ xs.length ≤ n
set_option maxHeartbeats 4000000 in
theorem if1_ok {bs : List D} (hb : BagOk bs) {xs : List Str} (hx : ∀ x ∈ xs, LabOk x) (hl : xs.length ≤ 12) (v : Int) :
    ∃ r, ifS (toB (op2 (.va 3) (.ex (cD (.int 1))) semEq)) (setS 1 (shD (op2 (.va 1) (.ex (slD (.ex (op2 (.va 2) (.ex (frzD lc__law_listed_1)) semAdd)) poN (poS (frzD (callB 1 f__law_take 0 [(cD (.int 40))]))) semSl)) semAdd))) nxS (envG bs xs v none none none none) = .nx r ∧ LInv 64 v r := by
  have t1 : toB (op2 (.va 3) (.ex (cD (.int 1))) semEq) (envG bs xs v none none none none) = .ok (decide (v = 1)) (envG bs xs v none none none none) := rfl
  cases hv : decide (v = 1) with
  | false =>
    rw [hv] at t1
    rw [ifS_no t1]
    exact ⟨_, rfl, bs, xs, _, _, _, rfl, hb, hx, by omega⟩
  | true =>
    rw [hv] at t1
    rw [ifS_yes t1]
    obtain ⟨u, b1, e1, u0, u1, hb1⟩ := take_ok hb (n := 40) (by decide) (by decide)
    have q1 := frz_o (l1_ok bs xs v none none none none)
    have q2 := add_lst (xs := lts) (ys := pre "a") (by rw [lts_len, pre_len]; decide)
    have q3 := sl_lst (lts ++ pre "a") none (some u)
    have hcl : (cutL (lts ++ pre "a") none (some u)).length ≤ 52 := by
      have := cutL_len (lts ++ pre "a") none (some u)
      rw [List.length_append, lts_len, pre_len] at this
      exact this
    have q4 := add_lst (xs := xs) (ys := cutL (lts ++ pre "a") none (some u)) (by omega)
    have e2 := op2_of (p := .va 2) (q := .ex (frzD lc__law_listed_1)) (sem := semAdd) (r := envG bs xs v none none none none) rfl (ex_run q1) rfl rfl q2
    have e3 := sl_to (sem := semSl) (ex_run e2) (take_env hb1 e1) rfl q3
    have e := op2_of (p := .va 1) (sem := semAdd) (r := envG bs xs v none none none none) rfl (ex_run e3) rfl rfl q4
    rw [setS_env e]
    refine ⟨_, rfl, b1, _, _, _, _, rfl, hb1, fun x hxx => ?_, by rw [List.length_append]; omega⟩
    rcases List.mem_append.mp hxx with h | h
    · exact hx x h
    · rcases List.mem_append.mp (cutL_mem h) with h | h
      · exact ((lts_tx x h).mono (by decide)).lab
      · exact ((pre_tx a_tx x h).mono (by decide)).lab
set_option maxHeartbeats 4000000 in
theorem if2_ok {bs : List D} (hb : BagOk bs) {xs : List Str} (hx : ∀ x ∈ xs, LabOk x) (hl : xs.length ≤ 64) (v : Int) (o5 o6 o7 : Option OV) :
    ∃ r, ifS (toB (op2 (.va 3) (.ex (cD (.int 2))) semEq)) (seqS (setS 5 (shD (op2 (.va 2) (.ex (frzD (sumO (.ex (frzD lc__law_listed_3))))) semAdd)))
    (seqS (setS 5 (shD (slD (.ex (op2 (.va 5) (.ex (frzD lc__law_listed_4)) semAdd)) poN (poS (op2 (.ex (frzD (lstD [(cD (.int 702)), (cD (.int 715)), (cD (.int 728)), (cD (.int 400))]))) (.ex (frzD (callB 1 f__law_take 0 [(cD (.int 4))]))) semAt)) semSl)))
    (setS 1 (shD (op2 (.va 1) (.ex (frzD lc__law_listed_5)) semAdd))))) nxS (envG bs xs v none o5 o6 o7) = .nx r ∧ LInv 800 v r := by
  have t1 : toB (op2 (.va 3) (.ex (cD (.int 2))) semEq) (envG bs xs v none o5 o6 o7) = .ok (decide (v = 2)) (envG bs xs v none o5 o6 o7) := rfl
  cases hv : decide (v = 2) with
  | false =>
    rw [hv] at t1
    rw [ifS_no t1]
    exact ⟨_, rfl, bs, xs, _, _, _, rfl, hb, hx, by omega⟩
  | true =>
    rw [hv] at t1
    rw [ifS_yes t1]
    have q1 := frz_o (l3_ok bs xs v o5 o6 o7)
    have q2 := frz_o (sumO_of (ex_run q1) rfl sum_lev)
    have q3 := add_lst (xs := lts) (ys := lev1) (by rw [lts_len, lev1_len]; decide)
    have e1 := op2_of (p := .va 2) (sem := semAdd) (r := envG bs xs v none o5 o6 o7) rfl (ex_run q2) rfl rfl q3
    rw [seqS_nx (setS_env5 e1)]
    obtain ⟨u, b1, e2, u0, u1, hb1⟩ := take_ok hb (n := 4) (by decide) (by decide)
    obtain ⟨k, hk, hk1, hk2⟩ : ∃ k : Nat, semAt (.lst [.int 702, .int 715, .int 728, .int 400]) (.int u) = some (.int (k : Int)) ∧ 400 ≤ k ∧ k ≤ 728 := by
      have : u = 0 ∨ u = 1 ∨ u = 2 ∨ u = 3 := by omega
      rcases this with rfl | rfl | rfl | rfl
      · exact ⟨702, rfl, by decide, by decide⟩
      · exact ⟨715, rfl, by decide, by decide⟩
      · exact ⟨728, rfl, by decide, by decide⟩
      · exact ⟨400, rfl, by decide, by decide⟩
    have q4 := frz_o (l4_ok bs xs v none (some (.sh (.lst ((lts ++ lev1).map D.str)))) none o7)
    have q5 := add_lst (xs := lts ++ lev1) (ys := pre "aa") (by rw [List.length_append, lts_len, lev1_len, pre_len]; decide)
    have e3 := op2_of (p := .va 5) (sem := semAdd) (r := envG bs xs v none (some (.sh (.lst ((lts ++ lev1).map D.str)))) none o7) rfl (ex_run q4) rfl rfl q5
    have e4 : op2 (.ex (frzD (lstD [(cD (.int 702)), (cD (.int 715)), (cD (.int 728)), (cD (.int 400))]))) (.ex (frzD (callB 1 f__law_take 0 [(cD (.int 4))]))) semAt (envG bs xs v none (some (.sh (.lst ((lts ++ lev1).map D.str)))) none o7) = .ok (.int (k : Int)) (envG b1 xs v none (some (.sh (.lst ((lts ++ lev1).map D.str)))) none o7) :=
      op2_of (ex_run (d := .lst [.int 702, .int 715, .int 728, .int 400]) rfl) (ex_run (take_env hb1 e2)) rfl rfl hk
    have hlen : (lts ++ lev1 ++ pre "aa").length = 728 := by rw [List.length_append, List.length_append, lts_len, lev1_len, pre_len]
    have q6 := sl_lst (lts ++ lev1 ++ pre "aa") none (some (k : Int))
    rw [cut_to _ (by rw [hlen]; exact hk2)] at q6
    have e5 := sl_to (sem := semSl) (ex_run e3) e4 rfl q6
    rw [seqS_nx (setS_env5 e5)]
    have hzl : ((lts ++ lev1 ++ pre "aa").take k).length = k := by rw [List.length_take, hlen]; omega
    obtain ⟨ys, b2, e6, hy, hyl, hb2⟩ := l5_ok hb1 xs ((lts ++ lev1 ++ pre "aa").take k) v none none o7 (by omega) (by omega)
    have q7 := add_lst (xs := xs) (ys := ys) (by omega)
    have e7 := op2_of (p := .va 1) (sem := semAdd) (r := envG b1 xs v none (some (.sh (.lst (((lts ++ lev1 ++ pre "aa").take k).map D.str)))) none o7) rfl (ex_run (frz_o e6)) rfl rfl q7
    rw [setS_env e7]
    refine ⟨_, rfl, b2, _, _, _, _, rfl, hb2, fun x hxx => ?_, by rw [List.length_append]; omega⟩
    rcases List.mem_append.mp hxx with h | h
    · exact hx x h
    · have h := List.mem_of_mem_take (hy x h)
      rcases List.mem_append.mp h with h | h
      · rcases List.mem_append.mp h with h | h
        · exact ((lts_tx x h).mono (by decide)).lab
        · exact ((lev1_tx x h).mono (by decide)).lab
      · exact ((pre_tx aa_tx x h).mono (by decide)).lab
theorem end_lab : ∀ x ∈ (["", "A", "a b"] : List Str), LabOk x := by
  have h1 : ((["", "A", "a b"] : List Str).all fun x => decide (x.length ≤ 8) && (D.str x).pl) = true := by decide +kernel
  intro x hx
  have := List.all_eq_true.mp h1 x hx
  rw [Bool.and_eq_true] at this
  exact ⟨this.2, of_decide_eq_true this.1⟩
set_option maxHeartbeats 4000000 in
theorem listed_ok {bs : List D} (hb : BagOk bs) : ∃ (xs : List Str) (b' : List D), f__law_listed bs [] = some (.sh (.lst (xs.map D.str)), b') ∧ (∀ x ∈ xs, LabOk x) ∧ xs.length ≤ 803 ∧ BagOk b' := by
  obtain ⟨m, b1, e1, m0, m1, hb1⟩ := take_ok hb (n := 12) (by decide) (by decide)
  obtain ⟨xs, b2, e2, hl, hnd, hok, hb2⟩ := names_ok hb1 m.toNat (by omega)
  rw [show ((m.toNat : Nat) : Int) = m by omega] at e2
  obtain ⟨v, b3, e3, v0, v1, hb3⟩ := take_ok hb2 (n := 4) (by decide) (by decide)
  have s1 : setS 1 (shD (frzD (callB 1 f__law_names 0 [(frzD (callB 1 f__law_take 0 [(cD (.int 12))]))]))) (startE 8 [.ow bs]) = .nx [some (.ow b2), some (.sh (.lst (xs.map D.str))), none, none, none, none, none, none] := by
    simp only [startE, setS, shD, frzD, callB, evs, cD, Rs.bind, Rs.map, lookV, fill, OV.lst?, OV.d, ofO, thenS, Rs.noE, List.map_cons, List.map_nil, List.length_cons, List.length_nil, List.length_map, List.replicate, List.cons_append, List.nil_append, List.append_nil, List.getElem?_cons_zero, List.getElem?_cons_succ, List.set_cons_zero, List.set_cons_succ, Option.bind_some, Option.bind_none, Option.map_some, Option.map_none, Nat.zero_add, Nat.add_zero, Nat.reduceAdd, Nat.reduceSub, Nat.sub_self, Nat.reduceLeDiff, Nat.reduceEqDiff, Nat.le_refl, Nat.add_sub_cancel, if_true, if_false, Bool.false_eq_true, Bool.not_true, Bool.not_false, Bool.not_not, reduceIte, reduceCtorEq, and_self, and_true, true_and, decide_true, decide_false, semEq_str, semNe_str, semEq_int, semNe_int, semEq_bl, semNe_bl, atI0, atI1, atI2, atI3, atI4, OkS_nx, post_ok, items_lst, items_tup, semAt_lst, semAt_tup, semAt_str, semAt_dic, e1, e2]
  have hls : semListS [.str "abcdefghijklmnopqrstuvwxyz"] = some (lts.map D.str) := by
    have hl : LET.length ≤ 1000000 := by rw [let_len]; decide
    show (if LET.length ≤ 1000000 then some (signs LET) else none) = _
    rw [if_pos hl]
    unfold lts
    rw [List.map_map]
    rfl
  have s2 : setS 2 (shD (frzD (opNO [(.ex (cD (.str "abcdefghijklmnopqrstuvwxyz")))] semListS))) [some (.ow b2), some (.sh (.lst (xs.map D.str))), none, none, none, none, none, none] = .nx [some (.ow b2), some (.sh (.lst (xs.map D.str))), some (.sh (.lst (lts.map D.str))), none, none, none, none, none] := by
    exact setS_d (frz_o (opNO1_of (ex_run (f := cD (.str "abcdefghijklmnopqrstuvwxyz")) rfl) rfl hls))
  have s3 : setS 3 (shD (frzD (callB 1 f__law_take 0 [(cD (.int 4))]))) [some (.ow b2), some (.sh (.lst (xs.map D.str))), some (.sh (.lst (lts.map D.str))), none, none, none, none, none] = .nx (envG b3 xs v none none none none) := by
    simp only [setS, shD, frzD, callB, evs, cD, Rs.bind, Rs.map, lookV, fill, OV.lst?, OV.d, ofO, thenS, Rs.noE, List.map_cons, List.map_nil, List.length_cons, List.length_nil, List.length_map, List.replicate, List.cons_append, List.nil_append, List.append_nil, List.getElem?_cons_zero, List.getElem?_cons_succ, List.set_cons_zero, List.set_cons_succ, Option.bind_some, Option.bind_none, Option.map_some, Option.map_none, Nat.zero_add, Nat.add_zero, Nat.reduceAdd, Nat.reduceSub, Nat.sub_self, Nat.reduceLeDiff, Nat.reduceEqDiff, Nat.le_refl, Nat.add_sub_cancel, if_true, if_false, Bool.false_eq_true, Bool.not_true, Bool.not_false, Bool.not_not, reduceIte, reduceCtorEq, and_self, and_true, true_and, decide_true, decide_false, semEq_str, semNe_str, semEq_int, semNe_int, semEq_bl, semNe_bl, atI0, atI1, atI2, atI3, atI4, OkS_nx, post_ok, items_lst, items_tup, semAt_lst, semAt_tup, semAt_str, semAt_dic, e3]
    rfl
  obtain ⟨r4, e4, b4, xs4, p5, p6, p7, rfl, hb4, hx4, hl4⟩ := if1_ok hb3 (fun x hx => (hok x hx).lab) (by omega) v
  obtain ⟨r5, e5, b5, xs5, q5, q6, q7, rfl, hb5, hx5, hl5⟩ := if2_ok hb4 hx4 hl4 v p5 p6 p7
  obtain ⟨w, b6, e6, w0, w1, hb6⟩ := take_ok hb5 (n := 4) (by decide) (by decide)
  have c1 := sl_lst (["", "A", "a b"] : List Str) none (some w)
  have c2 := cutL_len (["", "A", "a b"] : List Str) none (some w)
  have c2 : (cutL (["", "A", "a b"] : List Str) none (some w)).length ≤ 3 := c2
  have c3 := add_lst (xs := xs5) (ys := cutL (["", "A", "a b"] : List Str) none (some w)) (by omega)
  have e7 := sl_to (p := .ex (frzD (lstD [(cD (.str "")), (cD (.str "A")), (cD (.str "a b"))]))) (sem := semSl) (ex_run (d := .lst ((["", "A", "a b"] : List Str).map D.str)) (r := envG b5 xs5 v none q5 q6 q7) rfl) (take_env hb6 e6) rfl c1
  have e8 := op2_of (p := .va 1) (sem := semAdd) (r := envG b5 xs5 v none q5 q6 q7) rfl (ex_run e7) rfl rfl c3
  refine ⟨xs5 ++ cutL (["", "A", "a b"] : List Str) none (some w), b6, ?_, fun x hx => ?_, by rw [List.length_append]; omega, hb6⟩
  · unfold f__law_listed fnB m__law_listed
    have s1 : setS 1 (shD (frzD (callB 1 f__law_names 0 [(frzD (callB 1 f__law_take 0 [(cD (.int 12))]))]))) (startE 8 (.ow bs :: ([] : List D).map OV.sh)) = _ := s1
    rw [seqS_nx s1, seqS_nx s2, seqS_nx s3, seqS_nx e4, seqS_nx e5, rtS_d e8]
    rfl
  · rcases List.mem_append.mp hx with h | h
    · exact hx5 x h
    · exact end_lab x (cutL_mem h)
end T

namespace T
open PySem L2 DL
/-! ### the law -/
def wdL (a b : Str) : List Str := [a, b, "eq", "lt", "gt", "goal", "book", "abcdefgh"]
theorem wdL_ok {a b : Str} (ha : NameOk a) (hb : NameOk b) : ∀ x ∈ wdL a b, NameOk x := by
  have h : ((["eq", "lt", "gt", "goal", "book", "abcdefgh"] : List Str).all nameB) = true := by decide +kernel
  intro x hx
  rcases List.mem_cons.mp hx with rfl | hx
  · exact ha
  · rcases List.mem_cons.mp hx with rfl | hx
    · exact hb
    · exact nameB_ok (List.all_eq_true.mp h x hx)
theorem rev_strs (xs : List Str) : (xs.map D.str).reverse = xs.reverse.map D.str := (List.map_reverse ..).symm
set_option maxHeartbeats 8000000 in
theorem plain (ns : List Int) (_ : ns.length ≤ 63) : f_law [.scr ns] = some (.sh (.bl true)) := by
  obtain ⟨bs, eb, hb⟩ := bag_ok ns
  obtain ⟨r', e, hI⟩ := (forD_ok (f := it_law_4) (h := gN 2) (body := bd_law_3) (rangeD 0 12) (fun _ r => ∃ bs o2 o3 o4 o5 o6 o7 o8 o9, r = envL ns bs o2 o3 o4 o5 o6 o7 o8 o9 ∧ BagOk bs) (r := envL ns bs none none none none none none none none) rfl ⟨bs, _, _, _, _, _, _, _, _, rfl, hb⟩ (by
    rintro i d _ r ⟨bs, o2, o3, o4, o5, o6, o7, o8, o9, rfl, hb⟩
    obtain ⟨xs, b1, e1, hl1, _, hx1, hb1⟩ := names_ok hb 2 (by decide)
    obtain ⟨x0, x1, rfl⟩ : ∃ x0 x1, xs = [x0, x1] := by
      match xs, hl1 with
      | [x0, x1], _ => exact ⟨x0, x1, rfl⟩
    obtain ⟨w, b2, e2, hw, hb2⟩ := someS_ok hb1 (wdL x0 x1) (by simp [wdL]) (by show 8 ≤ 1000; decide)
    have hwn : NameOk w := wdL_ok (hx1 x0 (by simp)) (hx1 x1 (by simp)) w hw
    refine ⟨envL ns bs (some (.sh d)) o3 o4 o5 o6 o7 o8 o9, rfl, ?_⟩
    have e2 : f__law_some b1 [.lst [.str x0, .str x1, .str "eq", .str "lt", .str "gt", .str "goal", .str "book", .str "abcdefgh"]] = some (.sh (.str w), b2) := e2
    have ha : semAdd (.lst [.str x0, .str x1]) (.lst [.str "eq", .str "lt", .str "gt", .str "goal", .str "book", .str "abcdefgh"]) = some (.lst [.str x0, .str x1, .str "eq", .str "lt", .str "gt", .str "goal", .str "book", .str "abcdefgh"]) := rfl
    have e1 : f__law_names bs [.int 2] = some (.ow [.str x0, .str x1], b1) := e1
    have s1 : setS 3 (shD (frzD (callB 1 f__law_some 1 [(op2 (.ex (frzD (callB 1 f__law_names 1 [(cD (.int 2))]))) (.ex (frzD (lstD [(cD (.str "eq")), (cD (.str "lt")), (cD (.str "gt")), (cD (.str "goal")), (cD (.str "book")), (cD (.str "abcdefgh"))]))) semAdd)]))) (envL ns bs (some (.sh d)) o3 o4 o5 o6 o7 o8 o9) = .nx (envL ns b2 (some (.sh d)) (some (.sh (.str w))) o4 o5 o6 o7 o8 o9) := by
      simp only [envL, setS, shD, frzD, callB, lstD, evs, op2, cD, Opd.run, lookV, look, fill, Rs.bind, Rs.map, ofO, OV.d, OV.lst?, thenS, Rs.noE, List.map_cons, List.map_nil, List.length_cons, List.length_nil, List.length_map, List.replicate, List.cons_append, List.nil_append, List.append_nil, List.getElem?_cons_zero, List.getElem?_cons_succ, List.set_cons_zero, List.set_cons_succ, Option.bind_some, Option.bind_none, Option.map_some, Option.map_none, Nat.zero_add, Nat.add_zero, Nat.reduceAdd, Nat.reduceSub, Nat.sub_self, Nat.reduceLeDiff, Nat.reduceEqDiff, Nat.le_refl, Nat.add_sub_cancel, if_true, if_false, Bool.false_eq_true, Bool.not_true, Bool.not_false, Bool.not_not, reduceIte, reduceCtorEq, and_self, and_true, true_and, decide_true, decide_false, semEq_str, semNe_str, semEq_int, semNe_int, semEq_bl, semNe_bl, atI0, atI1, atI2, atI3, atI4, OkS_nx, post_ok, items_lst, items_tup, semAt_lst, semAt_tup, semAt_str, semAt_dic, e1, ha, e2]
    obtain ⟨z, b3, e3, hz, hb3⟩ := near_ok hb2 hwn
    obtain ⟨od, b4, e4, hod, hb4⟩ := odd_ok hb3
    have ei : it_law_3 (envL ns b2 (some (.sh d)) (some (.sh (.str w))) o4 o5 o6 o7 o8 o9) = .ok [.str z, .str w, od, .lst [.str w], .tup [.str w], .int 0, .int 1, .bl false] (envL ns b4 (some (.sh d)) (some (.sh (.str w))) o4 o5 o6 o7 o8 o9) := by
      simp only [it_law_3, envL, itA, tupD, lstD, evs, vD, cD, frzD, callB, fill, lookV, look, Rs.bind, Rs.map, ofO, OV.d, OV.lst?, Rs.noE, List.map_cons, List.map_nil, List.length_cons, List.length_nil, List.length_map, List.replicate, List.cons_append, List.nil_append, List.append_nil, List.getElem?_cons_zero, List.getElem?_cons_succ, List.set_cons_zero, List.set_cons_succ, Option.bind_some, Option.bind_none, Option.map_some, Option.map_none, Nat.zero_add, Nat.add_zero, Nat.reduceAdd, Nat.reduceSub, Nat.sub_self, Nat.reduceLeDiff, Nat.reduceEqDiff, Nat.le_refl, Nat.add_sub_cancel, if_true, if_false, Bool.false_eq_true, Bool.not_true, Bool.not_false, Bool.not_not, reduceIte, reduceCtorEq, and_self, and_true, true_and, decide_true, decide_false, semEq_str, semNe_str, semEq_int, semNe_int, semEq_bl, semNe_bl, atI0, atI1, atI2, atI3, atI4, OkS_nx, post_ok, items_lst, items_tup, semAt_lst, semAt_tup, semAt_str, semAt_dic, e3, e4]
    have hsw := sm_str hwn
    have hg : ∀ y ∈ ([.str z, .str w, od, .lst [.str w], .tup [.str w], .int 0, .int 1, .bl false] : List D), Gd 2 3000 y := by
      intro y hy
      simp only [List.mem_cons, List.not_mem_nil, or_false] at hy
      rcases hy with rfl | rfl | rfl | rfl | rfl | rfl | rfl | rfl
      · exact hz.gd.mono (by decide) (by decide)
      · exact (sm_gd hsw).mono (by decide) (by decide)
      · exact (odd_gd _ hod).mono (by decide) (by decide)
      · exact (sm_gd (Sm.lst (n := 0) (w := 82) (m := 1) (fun e he => by rw [List.mem_singleton.mp he]; exact hsw) (Nat.le_refl _))).mono (by decide) (by decide)
      · exact (sm_gd (Sm.tup (n := 0) (w := 82) (m := 1) (fun e he => by rw [List.mem_singleton.mp he]; exact hsw) (Nat.le_refl _))).mono (by decide) (by decide)
      · exact ⟨rfl, by decide, by decide⟩
      · exact ⟨rfl, by decide, by decide⟩
      · exact ⟨rfl, by decide, by decide⟩
    have h2 := forD_ok (f := it_law_3) (h := gN 4) (body := bd_law_2) _ (fun _ r => ∃ o4 o5 o6 o7, r = envL ns b4 (some (.sh d)) (some (.sh (.str w))) o4 o5 o6 o7 o8 o9) ei ⟨_, _, _, _, rfl⟩ (by
      rintro j y hy r ⟨o4, o5, o6, o7, rfl⟩
      refine ⟨envL ns b4 (some (.sh d)) (some (.sh (.str w))) (some (.sh y)) o5 o6 o7 o8 o9, rfl, ?_⟩
      exact thing_ok ns b4 _ _ o5 o6 o7 o8 o9 (hg y (List.mem_of_getElem? hy)))
    unfold bd_law_3
    rw [seqS_nx s1]
    refine OkS_seq h2 ?_
    rintro r ⟨o4, o5, o6, o7, rfl⟩
    obtain ⟨ls, b5, e5, hls, hll, hb5⟩ := listed_ok hb4
    have hpl : ∀ x ∈ ls, (D.str x).pl = true := fun x hx => (hls x hx).pl
    have hplr : ∀ x ∈ ls.reverse, (D.str x).pl = true := fun x hx => hpl x (List.mem_reverse.mp hx)
    obtain ⟨t, e6, ht⟩ := fresh_ok hpl (by omega)
    obtain ⟨t', e7, ht'⟩ := fresh_ok hplr (by rw [List.length_reverse]; omega)
    have htt : t' = t := ht'.uniq ht fun x => List.mem_reverse
    subst htt
    have e8 := right_ok hls (by omega) ht
    have hsm : Sm 1 67455 (.lst (ls.map D.str)) := (Sm.lst (n := 0) (w := 82) (m := 803) (fun d hd => by
      obtain ⟨x, hx, rfl⟩ := List.mem_map.mp hd
      exact (hls x hx).sm) (by rw [List.length_map]; exact hll))
    have e9 := repr_gd (sm_gd hsm)
    rw [← rev_strs] at e7
    generalize hL : ls.map D.str = L at *
    have s2 : setS 8 (shD (frzD (callB 0 f__law_listed 1 []))) (envL ns b4 (some (.sh d)) (some (.sh (.str w))) o4 o5 o6 o7 o8 o9) = .nx (envL ns b5 (some (.sh d)) (some (.sh (.str w))) o4 o5 o6 o7 (some (.sh (.lst L))) o9) := by
      simp only [envL, setS, shD, frzD, callB, evs, fill, lookV, look, Rs.bind, Rs.map, ofO, OV.d, OV.lst?, thenS, Rs.noE, List.map_cons, List.map_nil, List.length_cons, List.length_nil, List.length_map, List.replicate, List.cons_append, List.nil_append, List.append_nil, List.getElem?_cons_zero, List.getElem?_cons_succ, List.set_cons_zero, List.set_cons_succ, Option.bind_some, Option.bind_none, Option.map_some, Option.map_none, Nat.zero_add, Nat.add_zero, Nat.reduceAdd, Nat.reduceSub, Nat.sub_self, Nat.reduceLeDiff, Nat.reduceEqDiff, Nat.le_refl, Nat.add_sub_cancel, if_true, if_false, Bool.false_eq_true, Bool.not_true, Bool.not_false, Bool.not_not, reduceIte, reduceCtorEq, and_self, and_true, true_and, decide_true, decide_false, semEq_str, semNe_str, semEq_int, semNe_int, semEq_bl, semNe_bl, atI0, atI1, atI2, atI3, atI4, OkS_nx, post_ok, items_lst, items_tup, semAt_lst, semAt_tup, semAt_str, semAt_dic, e5]
    have s3 : setS 9 (shD (opN [(.va 8)] semRepr)) (envL ns b5 (some (.sh d)) (some (.sh (.str w))) o4 o5 o6 o7 (some (.sh (.lst L))) o9) = .nx (envL ns b5 (some (.sh d)) (some (.sh (.str w))) o4 o5 o6 o7 (some (.sh (.lst L))) (some (.sh (.str (D.lst L).py.shown)))) := by
      rw [setS_d (opN1_of (p := .va 8) (r := envL ns b5 (some (.sh d)) (some (.sh (.str w))) o4 o5 o6 o7 (some (.sh (.lst L))) o9) rfl rfl e9)]
      rfl
    rw [seqS_nx s2, seqS_nx s3]
    have hr1 : frzD (revO (.va 8)) (envL ns b5 (some (.sh d)) (some (.sh (.str w))) o4 o5 o6 o7 (some (.sh (.lst L))) (some (.sh (.str (D.lst L).py.shown)))) = .ok (.lst L.reverse) (envL ns b5 (some (.sh d)) (some (.sh (.str w))) o4 o5 o6 o7 (some (.sh (.lst L))) (some (.sh (.str (D.lst L).py.shown)))) := rfl
    have n1 : semNe (.str t') (.str t') = some (.bl false) := by rw [show semNe (.str t') (.str t') = some (.bl (!decide (t' = t'))) from rfl]; simp
    have n2 : semNe (.str (D.lst L).py.shown) (.str (D.lst L).py.shown) = some (.bl false) := by rw [show semNe (.str (D.lst L).py.shown) (.str (D.lst L).py.shown) = some (.bl (!decide ((D.lst L).py.shown = (D.lst L).py.shown))) from rfl]; simp
    generalize (D.lst L).py.shown = S at *
    have t1 : orT (notT (toB (frzD (callP 2 f__law_fresh_right [(vD 8), (frzD (callP 1 f_fresh [(vD 8)]))])))) (orT (toB (op2 (.ex (frzD (callP 1 f_fresh [(vD 8)]))) (.ex (frzD (callP 1 f_fresh [(frzD (revO (.va 8)))]))) semNe)) (toB (op2 (.ex (opN [(.va 8)] semRepr)) (.va 9) semNe))) (envL ns b5 (some (.sh d)) (some (.sh (.str w))) o4 o5 o6 o7 (some (.sh (.lst L))) (some (.sh (.str S)))) = .ok false (envL ns b5 (some (.sh d)) (some (.sh (.str w))) o4 o5 o6 o7 (some (.sh (.lst L))) (some (.sh (.str S)))) := by
      have hq : op2 (.ex (opN [(.va 8)] semRepr)) (.va 9) semNe (envL ns b5 (some (.sh d)) (some (.sh (.str w))) o4 o5 o6 o7 (some (.sh (.lst L))) (some (.sh (.str S)))) = .ok (.bl false) (envL ns b5 (some (.sh d)) (some (.sh (.str w))) o4 o5 o6 o7 (some (.sh (.lst L))) (some (.sh (.str S)))) := op2_of (ex_run (opN1_of (p := .va 8) rfl rfl e9)) rfl rfl rfl n2
      have hf1 : frzD (callP 1 f_fresh [(vD 8)]) (envL ns b5 (some (.sh d)) (some (.sh (.str w))) o4 o5 o6 o7 (some (.sh (.lst L))) (some (.sh (.str S)))) = .ok (.str t') (envL ns b5 (some (.sh d)) (some (.sh (.str w))) o4 o5 o6 o7 (some (.sh (.lst L))) (some (.sh (.str S)))) := by
        simp only [envL, frzD, callP, evs, vD, Rs.bind, Rs.map, ofO, OV.d, Rs.noE, List.map_cons, List.map_nil, List.length_cons, List.length_nil, List.length_map, List.replicate, List.cons_append, List.nil_append, List.append_nil, List.getElem?_cons_zero, List.getElem?_cons_succ, List.set_cons_zero, List.set_cons_succ, Option.bind_some, Option.bind_none, Option.map_some, Option.map_none, Nat.zero_add, Nat.add_zero, Nat.reduceAdd, Nat.reduceSub, Nat.sub_self, Nat.reduceLeDiff, Nat.reduceEqDiff, Nat.le_refl, Nat.add_sub_cancel, if_true, if_false, Bool.false_eq_true, Bool.not_true, Bool.not_false, Bool.not_not, reduceIte, reduceCtorEq, and_self, and_true, true_and, decide_true, decide_false, semEq_str, semNe_str, semEq_int, semNe_int, semEq_bl, semNe_bl, atI0, atI1, atI2, atI3, atI4, OkS_nx, post_ok, items_lst, items_tup, semAt_lst, semAt_tup, semAt_str, semAt_dic, e6]
      have hf2 : frzD (callP 1 f_fresh [(frzD (revO (.va 8)))]) (envL ns b5 (some (.sh d)) (some (.sh (.str w))) o4 o5 o6 o7 (some (.sh (.lst L))) (some (.sh (.str S)))) = .ok (.str t') (envL ns b5 (some (.sh d)) (some (.sh (.str w))) o4 o5 o6 o7 (some (.sh (.lst L))) (some (.sh (.str S)))) := by
        rw [show frzD (callP 1 f_fresh [(frzD (revO (.va 8)))]) = fun r => (callP 1 f_fresh [(frzD (revO (.va 8)))] r).map OV.d from rfl]
        simp only [callP, evs, hr1, Rs.bind, Rs.map, ofO, OV.d, Rs.noE, List.map_cons, List.map_nil, List.length_cons, List.length_nil, List.length_map, List.replicate, List.cons_append, List.nil_append, List.append_nil, List.getElem?_cons_zero, List.getElem?_cons_succ, List.set_cons_zero, List.set_cons_succ, Option.bind_some, Option.bind_none, Option.map_some, Option.map_none, Nat.zero_add, Nat.add_zero, Nat.reduceAdd, Nat.reduceSub, Nat.sub_self, Nat.reduceLeDiff, Nat.reduceEqDiff, Nat.le_refl, Nat.add_sub_cancel, if_true, if_false, Bool.false_eq_true, Bool.not_true, Bool.not_false, Bool.not_not, reduceIte, reduceCtorEq, and_self, and_true, true_and, decide_true, decide_false, semEq_str, semNe_str, semEq_int, semNe_int, semEq_bl, semNe_bl, atI0, atI1, atI2, atI3, atI4, OkS_nx, post_ok, items_lst, items_tup, semAt_lst, semAt_tup, semAt_str, semAt_dic, e7]
      have hp : op2 (.ex (frzD (callP 1 f_fresh [(vD 8)]))) (.ex (frzD (callP 1 f_fresh [(frzD (revO (.va 8)))]))) semNe (envL ns b5 (some (.sh d)) (some (.sh (.str w))) o4 o5 o6 o7 (some (.sh (.lst L))) (some (.sh (.str S)))) = .ok (.bl false) (envL ns b5 (some (.sh d)) (some (.sh (.str w))) o4 o5 o6 o7 (some (.sh (.lst L))) (some (.sh (.str S)))) := op2_of (ex_run hf1) (ex_run hf2) rfl rfl n1
      have hv : vD 8 (envL ns b5 (some (.sh d)) (some (.sh (.str w))) o4 o5 o6 o7 (some (.sh (.lst L))) (some (.sh (.str S)))) = .ok (.lst L) (envL ns b5 (some (.sh d)) (some (.sh (.str w))) o4 o5 o6 o7 (some (.sh (.lst L))) (some (.sh (.str S)))) := rfl
      have hrt : frzD (callP 2 f__law_fresh_right [(vD 8), (frzD (callP 1 f_fresh [(vD 8)]))]) (envL ns b5 (some (.sh d)) (some (.sh (.str w))) o4 o5 o6 o7 (some (.sh (.lst L))) (some (.sh (.str S)))) = .ok (.bl true) (envL ns b5 (some (.sh d)) (some (.sh (.str w))) o4 o5 o6 o7 (some (.sh (.lst L))) (some (.sh (.str S)))) := by
        rw [show frzD (callP 2 f__law_fresh_right [(vD 8), (frzD (callP 1 f_fresh [(vD 8)]))]) = fun r => (callP 2 f__law_fresh_right [(vD 8), (frzD (callP 1 f_fresh [(vD 8)]))] r).map OV.d from rfl]
        simp only [callP, evs, hv, hf1, Rs.bind, Rs.map, ofO, OV.d, Rs.noE, List.map_cons, List.map_nil, List.length_cons, List.length_nil, List.length_map, List.replicate, List.cons_append, List.nil_append, List.append_nil, List.getElem?_cons_zero, List.getElem?_cons_succ, List.set_cons_zero, List.set_cons_succ, Option.bind_some, Option.bind_none, Option.map_some, Option.map_none, Nat.zero_add, Nat.add_zero, Nat.reduceAdd, Nat.reduceSub, Nat.sub_self, Nat.reduceLeDiff, Nat.reduceEqDiff, Nat.le_refl, Nat.add_sub_cancel, if_true, if_false, Bool.false_eq_true, Bool.not_true, Bool.not_false, Bool.not_not, reduceIte, reduceCtorEq, and_self, and_true, true_and, decide_true, decide_false, semEq_str, semNe_str, semEq_int, semNe_int, semEq_bl, semNe_bl, atI0, atI1, atI2, atI3, atI4, OkS_nx, post_ok, items_lst, items_tup, semAt_lst, semAt_tup, semAt_str, semAt_dic, e8]
      generalize envL ns b5 (some (.sh d)) (some (.sh (.str w))) o4 o5 o6 o7 (some (.sh (.lst L))) (some (.sh (.str S))) = R at *
      simp only [orT, notT, toB, Rs.bind, Rs.map, D.asB, ofO, hrt, hp, hq, Rs.noE, List.map_cons, List.map_nil, List.length_cons, List.length_nil, List.length_map, List.replicate, List.cons_append, List.nil_append, List.append_nil, List.getElem?_cons_zero, List.getElem?_cons_succ, List.set_cons_zero, List.set_cons_succ, Option.bind_some, Option.bind_none, Option.map_some, Option.map_none, Nat.zero_add, Nat.add_zero, Nat.reduceAdd, Nat.reduceSub, Nat.sub_self, Nat.reduceLeDiff, Nat.reduceEqDiff, Nat.le_refl, Nat.add_sub_cancel, if_true, if_false, Bool.false_eq_true, Bool.not_true, Bool.not_false, Bool.not_not, reduceIte, reduceCtorEq, and_self, and_true, true_and, decide_true, decide_false, semEq_str, semNe_str, semEq_int, semNe_int, semEq_bl, semNe_bl, atI0, atI1, atI2, atI3, atI4, OkS_nx, post_ok, items_lst, items_tup, semAt_lst, semAt_tup, semAt_str, semAt_dic]
    rw [ifS_no t1]
    exact ⟨b5, _, _, _, _, _, _, _, _, rfl, hb5⟩)).ex
  obtain ⟨bs', p2, p3, p4, p5, p6, p7, p8, p9, rfl, hb'⟩ := hI
  have hrt : ∀ r : En, rtS (shD (cD (.bl true))) r = .rt (.sh (.bl true)) r := fun _ => rfl
  have s1 : setS 1 (callP 1 f__law_bag [(vD 0)]) (startE 10 ([D.scr ns].map OV.sh)) = .nx (envL ns bs none none none none none none none none) := by
    simp only [envL, fnB, fnP, Rs.noE, startE, seqS, ifS, thenS, toB, op2, opN, op1, Opd.run, fill, lookV, look, Rs.bind, Rs.map, ofO, cD, vD, D.asB, semGt, semGe, semLt, semLe, setS, putS, DL.putF, shD, frzD, mvD, rtS, chgS, fillW, OV.lst?, OV.d, nxS, runs, looks, semInt, semMod, semFdiv, semAdd, semSub, semMul, semAbs, semLen, semTuple, semList, lstD, tupD, evs, callP, callB, slD, poN, poS, semSl, D.asI, appS, appF, extS, extF, augS, augF, exS, ifD, andT, orT, notT, notD, andD, orD, par2, par3, asgS, gN, gT, gsCons, gsNil, forD, rg1, rg2, itA, zpD, zip2, zipD, lcD, yesT, wipeE, m1D, tabD, semIs, semIsNot, D.isN, toT, orV, andV, notV, D.tru, chD, isiD, D.key, evPs, dicD, semDict, pairD, semRepr, callL, op2O, slO, opNO, lrgO, OV.flt, D.flt, semAddL, semMulL, semListL, mLD, popF, popS, insF, insS, clrS, revO, Rs.noE, List.map_cons, List.map_nil, List.length_cons, List.length_nil, List.length_map, List.replicate, List.cons_append, List.nil_append, List.append_nil, List.getElem?_cons_zero, List.getElem?_cons_succ, List.set_cons_zero, List.set_cons_succ, Option.bind_some, Option.bind_none, Option.map_some, Option.map_none, Nat.zero_add, Nat.add_zero, Nat.reduceAdd, Nat.reduceSub, Nat.sub_self, Nat.reduceLeDiff, Nat.reduceEqDiff, Nat.le_refl, Nat.add_sub_cancel, if_true, if_false, Bool.false_eq_true, Bool.not_true, Bool.not_false, Bool.not_not, reduceIte, reduceCtorEq, and_self, and_true, true_and, decide_true, decide_false, semEq_str, semNe_str, semEq_int, semNe_int, semEq_bl, semNe_bl, atI0, atI1, atI2, atI3, atI4, OkS_nx, post_ok, items_lst, items_tup, semAt_lst, semAt_tup, semAt_str, semAt_dic, eb]
  unfold f_law fnP m_law fr_law_3
  rw [seqS_nx s1, seqS_nx e, hrt]
end T

open PySem PySem.W PyProof.Rows
set_option maxHeartbeats 0 in
theorem PySem.Challenge.cw_scriptpicks_k11_words_known_holds : PySem.Challenge.rw_scriptpicks_k11_words_known.Holds := by
  w_on; o_law; k_head; (case hw => w_witness2)
  k_fill
  refine DL.walkG (l := PySem.Challenge.rw_scriptpicks_k11_words_known) (n := 63) (k := 4) (x := "_law_script") (f := T.f_law) rfl rfl (by decide) rfl ⟨rfl, by decide, by decide⟩ (fun w h Y => PySem.W.kIn_of Y) ?F T.plain
  case F =>
    intro w mg fz h inK ns hmg
    refine' T.all_mk inK ns hmg ?a1 ?l1 ?c1 ?k1 ?a2 ?l2 ?c2 ?k2 ?a3 ?l3 ?c3 ?k3 ?a4 ?l4 ?c4 ?k4 ?a5 ?l5 ?c5 ?k5 ?a6 ?l6 ?c6 ?k6 ?a7 ?l7 ?c7 ?k7 ?a8 ?l8 ?c8 ?k8 ?a9 ?l9 ?c9 ?k9 ?a10 ?l10 ?c10 ?k10 ?a11 ?l11 ?c11 ?k11 ?a12 ?l12 ?c12 ?k12 ?a13 ?l13 ?c13 ?k13 ?a14 ?l14 ?c14 ?k14 ?a15 ?l15 ?c15 ?k15 ?a16 ?l16 ?c16 ?k16 ?a17 ?l17 ?c17 ?k17 ?fv_HOMES ?fl_HOMES ?fv_LETTERS ?fv_MOST_LETTERS ?fv_RELATIONS ?fl_RELATIONS ?z_abs ?z_all ?z_bool ?z_int ?z_isinstance ?z_len ?z_list ?z_range ?z_repr ?z_set ?z_sorted ?z_str ?z_sum
    (case a1 => k_is); (case l1 => k_is); (case c1 => k_is); (case k1 => k_is); (case a2 => k_is); (case l2 => k_is); (case c2 => k_is); (case k2 => k_is); (case a3 => k_is); (case l3 => k_is); (case c3 => k_is); (case k3 => k_is); (case a4 => k_is); (case l4 => k_is); (case c4 => k_is); (case k4 => k_is); (case a5 => k_is); (case l5 => k_is); (case c5 => k_is); (case k5 => k_is); (case a6 => k_is); (case l6 => k_is); (case c6 => k_is); (case k6 => k_is); (case a7 => k_is); (case l7 => k_is); (case c7 => k_is); (case k7 => k_is); (case a8 => k_is); (case l8 => k_is); (case c8 => k_is); (case k8 => k_is); (case a9 => k_is); (case l9 => k_is); (case c9 => k_is); (case k9 => k_is); (case a10 => k_is); (case l10 => k_is); (case c10 => k_is); (case k10 => k_is); (case a11 => k_is); (case l11 => k_is); (case c11 => k_is); (case k11 => k_is); (case a12 => k_is); (case l12 => k_is); (case c12 => k_is); (case k12 => k_is); (case a13 => k_is); (case l13 => k_is); (case c13 => k_is); (case k13 => k_is); (case a14 => k_is); (case l14 => k_is); (case c14 => k_is); (case k14 => k_is); (case a15 => k_is); (case l15 => k_is); (case c15 => k_is); (case k15 => k_is); (case a16 => k_is); (case l16 => k_is); (case c16 => k_is); (case k16 => k_is); (case a17 => k_is); (case l17 => k_is); (case c17 => k_is); (case k17 => k_is); (case fv_HOMES => k_is); (case fl_HOMES => k_is); (case fv_LETTERS => k_is); (case fv_MOST_LETTERS => k_is); (case fv_RELATIONS => k_is); (case fl_RELATIONS => k_is); (case z_abs => k_is); (case z_all => k_is); (case z_bool => k_is); (case z_int => k_is); (case z_isinstance => k_is); (case z_len => k_is); (case z_list => k_is); (case z_range => k_is); (case z_repr => k_is); (case z_set => k_is); (case z_sorted => k_is); (case z_str => k_is); (case z_sum => k_is)
