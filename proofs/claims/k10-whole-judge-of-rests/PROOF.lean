import PyProof.Rows.All
import Wide.All
import OpenK.AllK
import Wide.FinOn
import HandS.ForMost
import HandS.TupSets
import KE.SortData
import HandS.SetFor
import HandS.TupLen
import HandS.Deep
import HandS.DictComp
import HandS.IsInst
import HandS.SetKeys
import PyProof.MaxThree
import KE.KDictPairs
import KE.KDictCopyH
import PySem.Challenge.RW_calltowers_k10_whole_judge_of_rests
import HandS.Codes
import HandS.Walk
set_option Elab.async false
set_option linter.all false
set_option maxRecDepth 100000
set_option maxHeartbeats 4000000
/-! Sets whose members are tuples of ints and texts: adding, and the set of a list. -/
namespace Wk
open PySem PySem.Spec PyProof.Rows L2

/-- the tuple at b, as a key of ints and texts -/
abbrev IsK (P : Program) (w : World) (h : Heap) (k : List Key) (b : Addr) : Prop := IsTupleKey (mixKind P w) h k b
abbrev kh (P : Program) (w : World) (k : List Key) : Int := tupleKeyHash (mixKind P w) k

section
variable {P : Program} {w : World} {A : Around} {E : Value → Shared → Prop} {s : Shared}

theorem mem_atom {k : List Key} {vs : List Value} (h : ItemsAre (mixKind P w) k vs) : ∀ v ∈ vs, (∃ i t, v = Value.int i t) ∨ ∃ x t, v = Value.str x t := by
  induction h with
  | nil => exact fun v hv => nomatch hv
  | cons h1 _ ih =>
    intro v hv
    cases hv with
    | head =>
      rcases keyIs_shape h1 with ⟨i, t, _, e⟩ | ⟨x, t, _, e⟩
      · exact .inl ⟨i, t, e⟩
      · exact .inr ⟨x, t, e⟩
    | tail _ hm => exact ih v hm
/-- a loop over a tuple's items whose body answers at once -/
theorem each_item {b : Addr} {k : List Key} (hk : IsK P w s.heap k b) : ∃ o items n, s.heap.get? b = some o ∧ o.data = .seq items n ∧ ∀ v ∈ items.toList, (∃ i t, v = Value.int i t) ∨ ∃ x t, v = Value.str x t := by
  obtain ⟨o, items, n, ho, _, hd, hi⟩ := hk
  exact ⟨o, items, n, ho, hd, mem_atom hi⟩
theorem notClass {v : Value} (n : Nat) (h : (∃ i t, v = Value.int i t) ∨ ∃ x t, v = Value.str x t) : ofAClassStatement n v = pure false := by
  rcases h with ⟨i, t, rfl⟩ | ⟨x, t, rfl⟩ <;> cases n <;> rfl
theorem byVal {v : Value} (n : Nat) (h : (∃ i t, v = Value.int i t) ∨ ∃ x t, v = Value.str x t) : ∃ c, hashByValue n v = pure c := by
  rcases h with ⟨i, t, rfl⟩ | ⟨x, t, rfl⟩
  · exact ⟨true, by cases n <;> rfl⟩
  · exact ⟨false, by cases n <;> rfl⟩

theorem k_notClass {k : List Key} {b : Addr} {Q : Bool → Shared → Prop} (hk : IsK P w s.heap k b) (h : Q false s) : wpAny (model P w) A (ofAClassStatement 8 (.ref b)) Q E s := by
  have ty := hk.typeIs
  obtain ⟨o, items, n, ho, hd, hall⟩ := each_item hk
  unfold ofAClassStatement
  refine wpAny_bind (wpAny_typeOf ty ?_)
  have e : (("tuple" : String) == "tuple") = true := by decide
  simp only [e, if_true, Bool.not_true, Bool.false_eq_true, if_false]
  try refine wpAny_bind (wpAny_pure ?_)
  try simp only [Bool.not_true, Bool.false_eq_true, if_false]
  refine wpAny_bind (wpAny_seqItems ho hd ?_)
  dsimp only
  refine wpAny_bind ?_
  show wpAny _ _ (forIn items _ _) _ _ s
  rw [← Array.forIn_toList]
  refine wpAny_forIn_list _ (fun rest r s' => s' = s ∧ r.1 = none ∧ ∀ v ∈ rest, (∃ i t, v = Value.int i t) ∨ ∃ x t, v = Value.str x t) _ (fun v rest r s' ⟨es, er, ha⟩ => ?_) (fun ⟨r1, r2⟩ s' ⟨es, er, _⟩ => ?_) _ _ ⟨rfl, rfl, hall⟩
  · subst es
    rw [notClass _ (ha v List.mem_cons_self)]
    refine wpAny_bind (wpAny_pure ?_)
    exact wp_if_neg (by decide) (wpAny_pure ⟨rfl, rfl, fun u m => ha u (List.mem_cons_of_mem _ m)⟩)
  · subst es
    simp only at er
    subst er
    exact wpAny_pure h

/-- whether the hash hangs on the value alone: some answer -/
theorem k_byVal {k : List Key} {b : Addr} {Q : Bool → Shared → Prop} (hk : IsK P w s.heap k b) (h : ∀ c, Q c s) : wpAny (model P w) A (hashByValue 8 (.ref b)) Q E s := by
  have ty := hk.typeIs
  obtain ⟨o, items, n, ho, hd, hall⟩ := each_item hk
  unfold hashByValue
  refine wpAny_bind (wpAny_specialOf ty F.slot_tuple_hash.lookup ?_)
  show wpAny _ _ (seqItems? (.ref b) >>= _) _ _ s
  refine wpAny_bind (wpAny_seqItems ho hd ?_)
  refine wpAny_bind ?_
  show wpAny _ _ (forIn items _ _) _ _ s
  rw [← Array.forIn_toList]
  refine wpAny_forIn_list _ (fun rest r s' => s' = s ∧ r.1 = none ∧ ∀ v ∈ rest, (∃ i t, v = Value.int i t) ∨ ∃ x t, v = Value.str x t) _ (fun v rest r s' ⟨es, er, ha⟩ => ?_) (fun ⟨r1, r2⟩ s' ⟨es, er, _⟩ => ?_) _ _ ⟨rfl, rfl, hall⟩
  · subst es
    obtain ⟨c, ec⟩ := byVal 7 (ha v List.mem_cons_self)
    rw [ec]
    refine wpAny_bind (wpAny_pure ?_)
    cases c with
    | true => exact wp_if_neg (by decide) (wpAny_pure ⟨rfl, rfl, fun u m => ha u (List.mem_cons_of_mem _ m)⟩)
    | false => exact wp_if_pos (by decide) (wpAny_pure (wpAny_pure (h false)))
  · subst es
    simp only at er
    subst er
    exact wpAny_pure (h true)

/-- nobody sees a search among such tuples -/
theorem k_unseen {k : List Key} {b : Addr} {ys : List Value} {Q : Bool → Shared → Prop} (hk : IsK P w s.heap k b) (hy : ∀ y ∈ ys, ∃ c k', y = Value.ref c ∧ IsK P w s.heap k' c) (h : Q false s) :
    wpAny (model P w) A (searchCouldBeSeen (.ref b) ys) Q E s := by
  unfold searchCouldBeSeen
  refine wpAny_bind (wpAny_forIn_list _ (fun rest r s' => s' = s ∧ r.1 = none ∧ ∀ y ∈ rest, ∃ c k', y = Value.ref c ∧ IsK P w s.heap k' c) _ (fun v rest r s' ⟨es, er, ha⟩ => ?_) (fun ⟨r1, r2⟩ s' ⟨es, er, _⟩ => ?_) _ _ ⟨rfl, rfl, hy⟩)
  · subst es
    obtain ⟨c, k', rfl, hc⟩ := ha v List.mem_cons_self
    have more : ∀ y ∈ rest, ∃ c k', y = Value.ref c ∧ IsK P w s'.heap k' c := fun y m => ha y (List.mem_cons_of_mem _ m)
    dsimp only
    by_cases same : (b == c || (carriedByValue (.ref b) && carriedByValue (.ref c))) = true
    · exact wp_if_pos same (wpAny_pure ⟨rfl, rfl, more⟩)
    · refine wp_if_neg same (wpAny_bind (wpAny_eqIsQuiet_tuple hk ?_))
      refine wp_if_neg (by decide) (wpAny_bind (wpAny_eqIsQuiet_tuple hc ?_))
      refine wp_if_neg (by decide) (wpAny_bind (k_notClass hk ?_))
      refine wp_if_neg (by decide) (wpAny_bind (k_notClass hc ?_))
      exact wp_if_neg (by decide) (wpAny_pure ⟨rfl, rfl, more⟩)
  · subst es
    simp only at er
    subst er
    exact wpAny_pure h
end
end Wk

namespace Wk
open PySem PySem.Spec PyProof.Rows L2
section
variable {P : Program} {w : World} {A : Around} {E : Value → Shared → Prop} {s : Shared}

/-- what a search in the set at a needs to know: x's hash is hx; the entry at i is asked by an == that answers eqs i -/
structure Ask (P : Program) (w : World) (A : Around) (E : Value → Shared → Prop) (s : Shared) (a x : Addr) (hx : Int) (es : Array (Int × Value)) (t : SetTable) (eqs : Nat → Bool) : Prop where
  ob : ∃ o ep, s.heap.get? a = some o ∧ o.data = .set es ep t
  fit : t.fits es.size = true
  tab : TabOk t (es.toList.map (·.1))
  ref : ∀ (i : Nat) e, es[i]? = some e → ∃ b, e.2 = Value.ref b
  ans : ∀ (i : Nat) e, es[i]? = some e → ∀ Q : Bool → Shared → Prop, Q (eqs i) s → wpAny (model P w) A (eqBool e.2 (.ref x)) Q E s
  dark : ∀ Q : Bool → Shared → Prop, Q false s → wpAny (model P w) A (searchCouldBeSeen (.ref x) ((es.filter (·.1 == hx)).toList.map (·.2))) Q E s

/-- the c-th probe for a hash -/
abbrev pr (t : SetTable) (hx : Int) (c : Nat) : SetTable.Probe := nth t.mask (runAt t.mask (SetTable.bits hx % (t.mask + 1)) (SetTable.bits hx)) c
theorem pr_dummy (t : SetTable) (hx : Int) (c : Nat) : (pr t hx c).dummy = none := by
  have go : ∀ (n : Nat) (p : SetTable.Probe), p.dummy = none → (nth t.mask p n).dummy = none := fun n => by
    induction n with
    | zero => exact fun p h => h
    | succ n ih =>
      intro p h
      refine ih (adv t.mask p) ?_
      unfold adv
      split <;> exact h
  exact go c _ rfl
theorem pr_add (t : SetTable) (hx : Int) (c q : Nat) : nth t.mask (pr t hx c) q = pr t hx (c + q) := (nth_add t.mask c _ q).symm

variable {a x : Addr} {hx : Int} {es : Array (Int × Value)} {t : SetTable} {eqs : Nat → Bool} {Q : SetFound → Shared → Prop}

theorem ask_loop (R : Ask P w A E s a x hx es t eqs) {K : Nat} (hKf : K < 10 * SetTable.turns t.mask) (hK : way t.mask hx K ∉ t.place.toList) (hb : ∀ c, c < K → way t.mask hx c ∈ t.place.toList)
    (hin : (∃ (i : Nat) (e : Int × Value), es[i]? = some e ∧ e.1 = hx ∧ eqs i = true) → Q (.there none) s)
    (hout : (∀ (i : Nat) (e : Int × Value), es[i]? = some e → e.1 = hx → eqs i = false) → Q (.free (way t.mask hx K) false) s) :
    ∀ (f c : Nat) (st : Option SetTable.Probe), K < f + c → c ≤ K → st.getD (t.probeStart hx) = pr t hx c →
      (∀ (i : Nat) (e : Int × Value), es[i]? = some e → e.1 = hx → eqs i = true → ∃ c', c ≤ c' ∧ c' < K ∧ t.place.toList[i]? = some (way t.mask hx c')) →
      wpAny (model P w) A (setSearchFrom a (.ref x) hx true f st) Q E s := by
  obtain ⟨o, ep, ho, hd⟩ := R.ob
  intro f
  induction f with
  | zero => exact fun c st hf hc => absurd hf (by omega)
  | succ f ih =>
    intro c st hf hc hst later
    rw [setSearchFrom_succ]
    refine wpAny_bind (wpAny_setState_of ho hd R.fit ?_)
    dsimp only
    have odd : ¬ t.gaveWay = true := by
      unfold SetTable.gaveWay
      rw [mask_odd R.tab.mok]
      decide
    refine wp_if_neg odd ?_
    try refine wpAny_bind (wpAny_pure ?_)
    have wayq : ∀ q, (nth t.mask (pr t hx c) q).j = way t.mask hx (c + q) := fun q => congrArg SetTable.Probe.j (pr_add t hx c q)
    have hKc : (nth t.mask (pr t hx c) (K - c)).j = way t.mask hx K := by
      rw [wayq, Nat.add_sub_cancel' hc]
    have two := go_spec t R.tab.ris R.tab.dm (fun i => (es[i]?.map (·.1)).getD 0) hx (10 * SetTable.turns t.mask) (K - c) (pr t hx c) (pr_dummy t hx c) (by omega)
      (fun q hq => by rw [wayq]; exact hb (c + q) (by omega)) (by rw [hKc]; exact hK)
    have hash : ∀ (i : Nat) (e : Int × Value), es[i]? = some e → (es[i]?.map (·.1)).getD 0 = e.1 := fun i e q => by rw [q]; rfl
    rcases two with ⟨q, i, hq, hi, hh, earlier, run⟩ | ⟨none, run⟩
    · have run' : t.probe (fun i => (es[i]?.map (·.1)).getD 0) hx (st.getD (t.probeStart hx)) = some (.candidate (way t.mask hx (c + q)) i (pr t hx (c + (q + 1)))) := by
        rw [hst, ← wayq, ← pr_add]
        exact run
      rw [run']
      dsimp only
      rw [wayq] at hi
      have hil : i < es.size := by
        have h1 := (List.getElem?_eq_some_iff.mp hi).1
        have h2 := R.tab.sz
        rw [List.length_map, Array.length_toList] at h2
        rw [Array.length_toList] at h1
        omega
      obtain ⟨e, he⟩ : ∃ e, es[i]? = some e := ⟨_, Array.getElem?_eq_getElem hil⟩
      have e1 : e.1 = hx := (hash i e he).symm.trans hh
      obtain ⟨b, eb⟩ := R.ref i e he
      have rest : wpAny (model P w) A (searchRest a (.ref x) hx true f es t (way t.mask hx (c + q)) i (pr t hx (c + (q + 1)))) Q E s := by
        unfold searchRest
        rw [he]
        dsimp only
        refine wpAny_bind (wpAny_holding (R.ans i e he _ ?_))
        refine wpAny_bind (wpAny_setState_of ho hd R.fit ?_)
        dsimp only
        cases eq : eqs i with
        | true => exact wp_if_pos (by decide) (wpAny_pure (hin ⟨i, e, he, e1, eq⟩))
        | false =>
          refine wp_if_neg (by decide) ?_
          try refine wpAny_bind (wpAny_pure ?_)
          have mem : t.sameMemory t.moves t.mask = some true := by
            unfold SetTable.sameMemory
            exact if_pos (beq_self_eq_true _)
          have live := slot_live R.tab.ris hi
          rw [mem]
          simp only [if_true, live, he, eb]
          refine wpAny_bind (wpAny_isSame_ref_self (wpAny_bind (wpAny_pure ?_)))
          simp only [if_true]
          refine wp_if_neg (by decide) (ih (c + (q + 1)) _ (by omega) (by omega) rfl fun i0 e0 h0 k0 q0 => ?_)
          obtain ⟨c', l1, l2, l3⟩ := later i0 e0 h0 k0 q0
          refine ⟨c', ?_, l2, l3⟩
          have notBefore : ¬ c' < c + q := fun z => earlier (c' - c) i0 (by omega) (by rw [wayq, Nat.add_sub_cancel' l1]; exact l3) ((hash i0 e0 h0).trans k0)
          have notHere : c' ≠ c + q := fun z => by
            rw [z] at l3
            have l4 := slot_live R.tab.ris l3
            rw [live] at l4
            injection l4 with l4
            rw [← l4, eq] at q0
            cases q0
          omega
      by_cases led : t.led = true
      · refine wp_if_neg (by rw [led]; decide) ?_
        try refine wpAny_bind (wpAny_pure ?_)
        exact rest
      · refine wp_if_pos (by simp [led]) (wpAny_bind (R.dark _ ?_))
        refine wp_if_neg (by decide) ?_
        try refine wpAny_bind (wpAny_pure ?_)
        exact rest
    · rw [hKc] at run
      have run' : t.probe (fun i => (es[i]?.map (·.1)).getD 0) hx (st.getD (t.probeStart hx)) = some (.empty (way t.mask hx K) Option.none) := by
        rw [hst]
        exact run
      rw [run']
      refine wpAny_pure (hout fun i e he e1 => ?_)
      cases eq : eqs i with
      | false => rfl
      | true =>
        obtain ⟨c', l1, l2, l3⟩ := later i e he e1 eq
        exact (none (c' - c) i (by omega) (by rw [wayq, Nat.add_sub_cancel' l1]; exact l3) ((hash i e he).trans e1)).elim

/-- the search of an add -/
theorem ask_run (R : Ask P w A E s a x hx es t eqs) (few : es.size ≤ t.mask)
    (hin : (∃ (i : Nat) (e : Int × Value), es[i]? = some e ∧ e.1 = hx ∧ eqs i = true) → Q (.there none) s)
    (hout : ∀ K, way t.mask hx K ∉ t.place.toList → (∀ c, c < K → way t.mask hx c ∈ t.place.toList) → (∀ (i : Nat) (e : Int × Value), es[i]? = some e → e.1 = hx → eqs i = false) → Q (.free (way t.mask hx K) false) s) :
    wpAny (model P w) A (setSearch a (.ref x) hx true) Q E s := by
  obtain ⟨K, hKf, hK, hb⟩ := R.tab.first (by rw [List.length_map, Array.length_toList]; exact few) hx
  have far : K < 100000 := by
    have : 10 * SetTable.turns t.mask ≤ 1420 := by
      unfold SetTable.turns
      rcases R.tab.mok with e | e | e <;> omega
    omega
  unfold setSearch
  refine ask_loop R hKf hK hb hin (hout K hK hb) 100000 0 none (by omega) (Nat.zero_le _) rfl fun i e he e1 _ => ?_
  have hl : (es.toList.map (·.1))[i]? = some hx := by
    rw [List.getElem?_map, Array.getElem?_toList, he, ← e1]
    rfl
  have hi : i < t.place.toList.length := by
    have h1 := (List.getElem?_eq_some_iff.mp hl).1
    have h2 := R.tab.sz
    rw [Array.length_toList]
    omega
  obtain ⟨c, hc, ec⟩ := R.tab.before hK hl (List.getElem?_eq_getElem hi)
  exact ⟨c, Nat.zero_le _, hc, by rw [List.getElem?_eq_getElem hi, ec]⟩
end
end Wk

namespace Wk
open PySem PySem.Spec PyProof.Rows L2

abbrev Ent := Addr × List Key
/-- an entry of the table -/
abbrev rowK (P : Program) (w : World) (p : Ent) : Int × Value := (kh P w p.2, Value.ref p.1)
/-- at a stands a set of the tuples L -/
structure KSet (P : Program) (w : World) (h : Heap) (a : Addr) (L : List Ent) (es : Array (Int × Value)) (ep : Nat) (t : SetTable) : Prop where
  ob : ∃ o, h.get? a = some o ∧ o.ExactSet ∧ o.data = .set es ep t
  rows : es.toList = L.map (rowK P w)
  tab : TabOk t (L.map fun p => kh P w p.2)
  nd : (L.map (·.2)).Nodup
  led : w.params.followText "set-order" = true ∨ t.led = true
  room : L.length * 5 < t.mask * 3
  few : L.length < 64

section
variable {P : Program} {w : World} {A : Around} {E : Value → Shared → Prop} {s : Shared} {h h' : Heap} {a : Addr} {L : List Ent} {es : Array (Int × Value)} {ep : Nat} {t : SetTable}
theorem KSet.size (R : KSet P w h a L es ep t) : es.size = L.length := by
  rw [← Array.length_toList, R.rows, List.length_map]
theorem KSet.fit (R : KSet P w h a L es ep t) : t.fits es.size = true := by
  have h1 := R.tab.sz
  have h2 := R.room
  rw [List.length_map] at h1
  unfold SetTable.fits SetTable.fill
  rw [R.size, R.tab.dm, h1]
  simp
  omega
theorem KSet.get (R : KSet P w h a L es ep t) (i : Nat) : es[i]? = (L[i]?).map (rowK P w) := by
  rw [← Array.getElem?_toList, R.rows, List.getElem?_map]
theorem KSet.move (R : KSet P w h a L es ep t) (k : ∀ o, h.get? a = some o → h'.get? a = some o) : KSet P w h' a L es ep t := by
  obtain ⟨o, ho, r⟩ := R.ob
  exact ⟨⟨o, k o ho, r⟩, R.rows, R.tab, R.nd, R.led, R.room, R.few⟩
/-- a tuple is no set: it stays when the set changes -/
theorem IsTupleKey.off {k : List Key} {b : Addr} {o : Obj} (x : IsK P w h k b) (ho : h.get? a = some o) (hd : o.data = .set es ep t) (hs : Heap.SameBut a h h') : IsK P w h' k b := by
  obtain ⟨o', its, n, e, hc, d, hi⟩ := x
  refine ⟨o', its, n, (hs.2 b fun z => ?_).trans e, hc, d, hi⟩
  rw [z, ho] at e
  cases e
  rw [hd] at d
  cases d
theorem IsTupleKey.stay {k : List Key} {b : Addr} (x : IsK P w h k b) (hk : ∀ c o, h.get? c = some o → h'.get? c = some o) : IsK P w h' k b := by
  obtain ⟨o', its, n, e, r⟩ := x
  exact ⟨o', its, n, hk _ _ e, r⟩

abbrev eqsOf (L : List Ent) (k : List Key) (i : Nat) : Bool := match L[i]? with
  | some p => decide (p.2 = k)
  | none => false
theorem KSet.ask (R : KSet P w s.heap a L es ep t) (tup : ∀ p ∈ L, IsK P w s.heap p.2 p.1) {x : Addr} {k : List Key} (hx : IsK P w s.heap k x) (hu : A.units < cLine) : Ask P w A E s a x (kh P w k) es t (eqsOf L k) where
  ob := by
    obtain ⟨o, ho, _, hd⟩ := R.ob
    exact ⟨o, ep, ho, hd⟩
  fit := R.fit
  tab := by
    have e : es.toList.map (·.1) = L.map fun p => kh P w p.2 := by
      rw [R.rows, List.map_map]
      rfl
    rw [e]
    exact R.tab
  ref := fun i e he => by
    rw [R.get] at he
    cases q : L[i]? with
    | none => rw [q] at he; cases he
    | some p => rw [q] at he; cases he; exact ⟨_, rfl⟩
  ans := fun i e he Q hQ => by
    rw [R.get] at he
    cases q : L[i]? with
    | none => rw [q] at he; cases he
    | some p =>
      rw [q] at he
      cases he
      have eqs : eqsOf L k i = decide (p.2 = k) := by unfold eqsOf; rw [q]
      rw [eqs] at hQ
      exact wpAny_eqBool_tuple hu (tup p (List.mem_of_getElem? q)) hx hQ
  dark := fun Q hQ => k_unseen hx (fun y hy => by
    obtain ⟨e, he, ey⟩ := List.mem_map.mp hy
    have he1 : e ∈ es.toList := by
      have : e ∈ es ∧ e.1 = kh P w k := by simpa using he
      simpa using this.1
    rw [R.rows] at he1
    obtain ⟨p, hp, ep'⟩ := List.mem_map.mp he1
    exact ⟨p.1, p.2, by rw [← ey, ← ep'], tup p hp⟩) hQ

theorem eqs_mem (R : KSet P w h a L es ep t) (k : List Key) : (∃ (i : Nat) (e : Int × Value), es[i]? = some e ∧ e.1 = kh P w k ∧ eqsOf L k i = true) → k ∈ L.map (·.2) := by
  rintro ⟨i, e, _, _, q⟩
  unfold eqsOf at q
  cases z : L[i]? with
  | none => rw [z] at q; cases q
  | some p =>
    rw [z] at q
    exact List.mem_map.mpr ⟨p, List.mem_of_getElem? z, of_decide_eq_true q⟩
theorem eqs_out (R : KSet P w h a L es ep t) {k : List Key} (hn : ∀ (i : Nat) (e : Int × Value), es[i]? = some e → e.1 = kh P w k → eqsOf L k i = false) : k ∉ L.map (·.2) := by
  intro m
  obtain ⟨p, hp, e⟩ := List.mem_map.mp m
  obtain ⟨i, hi, ei⟩ := List.getElem_of_mem hp
  have z : L[i]? = some p := by rw [List.getElem?_eq_getElem hi, ei]
  have q := hn i (rowK P w p) (by rw [R.get, z]; rfl) (by show kh P w p.2 = _; rw [e])
  unfold eqsOf at q
  rw [z] at q
  simp only [e, decide_true] at q
  cases q

/-! ### the table laid anew -/
theorem pick_range {α : Type} (L : List α) : ∀ n, (List.range n).filterMap (fun i => L[i]?) = L.take n
  | 0 => rfl
  | n + 1 => by
    rw [List.range_succ, List.filterMap_append, pick_range L n, List.take_add_one]
    cases e : L[n]? <;> simp [e]
theorem pick_all {α β : Type} {f : α → Option β} {g : α → β} : ∀ {l : List α}, (∀ i ∈ l, f i = some (g i)) → l.filterMap f = l.map g
  | [], _ => rfl
  | i :: l, h => by
    rw [List.filterMap_cons_some (h i List.mem_cons_self), List.map_cons, pick_all fun j m => h j (List.mem_cons_of_mem _ m)]

theorem relay_k {o : Obj} (ho : s.heap.get? a = some o) (hex : o.ExactSet) (hd : o.data = .set es ep t) (rows : es.toList = L.map (rowK P w)) (hsz : t.place.size = es.size) (hdm : t.dummies = #[]) (hfl : es.size ≤ t.mask)
    (nd : (L.map (·.2)).Nodup) (led : w.params.followText "set-order" = true ∨ t.led = true) (few : L.length < 64) {wanted M : Nat}
    (hw : SetTable.sizeAbove wanted - 1 = M) (hM : MaskOk M) (hw2 : SetTable.sizeAbove wanted ≤ 128) (hn : L.length * 5 < M * 3) {Q : Unit → Shared → Prop}
    (hQ : ∀ h' L' es' ep' t', Heap.SameBut a s.heap h' → KSet P w h' a L' es' ep' t' → L'.Perm L → Q () { s with heap := h' }) : wpAny (model P w) A (setRelay a wanted) Q E s := by
  have size : es.size = L.length := by rw [← Array.length_toList, rows, List.length_map]
  have get : ∀ i : Nat, es[i]? = (L[i]?).map (rowK P w) := fun i => by rw [← Array.getElem?_toList, rows, List.getElem?_map]
  have fit : t.fits es.size = true := by
    unfold SetTable.fits SetTable.fill
    rw [hdm, hsz]
    simp
    omega
  obtain ⟨t', order, e, hp, T, em, el, _, _⟩ := relaid_ok t (hs := es.map (·.1)) (wanted := wanted) hw hM (by rw [Array.size_map, size]; omega)
  rw [Array.size_map, size] at hp
  have inL : ∀ i ∈ order.toList, i < L.length := fun i m => List.mem_range.mp (hp.mem_iff.mp m)
  have newRows : (order.filterMap (es[·]?)).toList = (order.toList.filterMap (fun i => L[i]?)).map (rowK P w) := by
    rw [Array.toList_filterMap, List.map_filterMap]
    exact congrArg (fun f => List.filterMap f order.toList) (funext fun i => get i)
  have perm : (order.toList.filterMap (fun i => L[i]?)).Perm L := by
    have q := hp.filterMap fun i => L[i]?
    rw [pick_range, List.take_length] at q
    exact q
  have hashes : (order.toList.filterMap (fun i => L[i]?)).map (fun p => kh P w p.2) = order.toList.map fun i => (es.map (·.1)).getD i 0 := by
    rw [List.map_filterMap]
    refine pick_all fun i m => ?_
    have hi := inL i m
    have q : (es.map (·.1))[i]? = some (kh P w (L[i]).2) := by
      rw [Array.getElem?_map, get, List.getElem?_eq_getElem hi]
      rfl
    rw [List.getElem?_eq_getElem hi]
    simp [Array.getD_eq_getD_getElem?, q]
  have newSize : (order.filterMap (es[·]?)).size = L.length := by
    rw [← Array.length_toList, newRows, List.length_map, perm.length_eq]
  generalize order.toList.filterMap (fun i => L[i]?) = L2 at newRows perm hashes
  rw [← hashes] at T
  rw [setRelay_eq]
  refine wpAny_bind (wpAny_setState_of ho hd fit ?_)
  dsimp only
  refine wp_if_neg (by rw [sizeLine_eq]; omega) ?_
  try refine wpAny_bind (wpAny_pure ?_)
  rw [e]
  dsimp only
  refine wpAny_bind (wp_if_neg (by rw [newSize, size]; simp) ?_)
  try refine wpAny_bind (wpAny_pure ?_)
  refine wpAny_pure (wpAny_storeSet_of ho hd ?_ (by rw [newSize, sizeLine_eq]; omega))
  refine hQ _ L2 _ _ _ (Heap.SameBut.update ..) ⟨⟨_, store_at ho hd, ⟨hex.1, hex.2.1, hex.2.2⟩, rfl⟩, newRows, T, (perm.map (·.2)).nodup_iff.mpr nd, ?_, ?_, ?_⟩ perm
  · rw [el]; exact led
  · rw [perm.length_eq, em]; exact hn
  · rw [perm.length_eq]; exact few

/-! ### adding -/
theorem TabOk.plainOff {t : SetTable} {hs : List Int} (T : TabOk t hs) : TabOk { t with plain := false } hs := ⟨T.ris, T.dm, T.sz, T.mok, T.bd, T.reach⟩

theorem add_k (R : KSet P w s.heap a L es ep t) (tup : ∀ p ∈ L, IsK P w s.heap p.2 p.1) {x : Addr} {k : List Key} (hx : IsK P w s.heap k x) (hu : A.units < cLine) (hfew : L.length + 1 < 64) {Q : Bool → Shared → Prop}
    (hQ : ∀ b h' L' es' ep' t', Heap.SameBut a s.heap h' → KSet P w h' a L' es' ep' t' → (k ∈ L.map (·.2) → L' = L) → (k ∉ L.map (·.2) → L'.Perm ((x, k) :: L)) → Q b { s with heap := h' }) :
    wpAny (model P w) A (setAddHashed a (.ref x) (kh P w k)) Q E s := by
  obtain ⟨o, ho, hex, hd⟩ := R.ob
  have size := R.size
  have hroom := R.room
  unfold setAddHashed
  refine wpAny_holding ?_
  rw [show (100000 : Nat) = 99999 + 1 from rfl, setAddHashedIn_succ]
  refine wpAny_bind (wpAny_setState_of ho hd R.fit ?_)
  dsimp only
  refine wp_if_neg (by simp [byScan, Value.scannable]) ?_
  try refine wpAny_bind (wpAny_pure ?_)
  refine wpAny_bind (ask_run (R.ask tup hx hu) (by rw [size]; omega) (fun hin => ?_) fun K hK hb out => ?_)
  · exact wpAny_pure (hQ false s.heap L es ep t (Heap.SameBut.refl a s.heap) R (fun _ => rfl) fun z => absurd (eqs_mem R k hin) z)
  · have hm := eqs_out R out
    dsimp only
    refine wpAny_bind (wpAny_setState_of ho hd R.fit ?_)
    dsimp only
    obtain ⟨q1, q2, q3, q4, q5, q6, q7, q8, q9⟩ := R.tab.put hK hb
    generalize t.put (way t.mask (kh P w k) K) = pt at q1 q3 q4 q5 q6 q7 q8 q9 ⊢
    obtain ⟨t1, p⟩ := pt
    dsimp only at q1 q3 q4 q5 q6 q7 q8 q9 ⊢
    subst q1
    have rows1 : (SetTable.insertAt es (SetTable.below t.place (way t.mask (kh P w k) K)) (kh P w k, Value.ref x)).toList = (L.take (SetTable.below t.place (way t.mask (kh P w k) K)) ++ (x, k) :: L.drop (SetTable.below t.place (way t.mask (kh P w k) K))).map (rowK P w) := by
      rw [SetTable.toList_insertAt, R.rows, List.map_append, List.map_cons, List.map_take, List.map_drop]
    have hs1 : (L.take (SetTable.below t.place (way t.mask (kh P w k) K)) ++ (x, k) :: L.drop (SetTable.below t.place (way t.mask (kh P w k) K))).map (fun p => kh P w p.2) = (L.map fun p => kh P w p.2).take (SetTable.below t.place (way t.mask (kh P w k) K)) ++ kh P w k :: (L.map fun p => kh P w p.2).drop (SetTable.below t.place (way t.mask (kh P w k) K)) := by
      rw [List.map_append, List.map_cons, List.map_take, List.map_drop]
    rw [← hs1] at q3
    have pm := put_perm L (SetTable.below t.place (way t.mask (kh P w k) K)) (x, k)
    generalize SetTable.insertAt es (SetTable.below t.place (way t.mask (kh P w k) K)) (kh P w k, Value.ref x) = es1 at rows1 ⊢
    generalize L.take (SetTable.below t.place (way t.mask (kh P w k) K)) ++ (x, k) :: L.drop (SetTable.below t.place (way t.mask (kh P w k) K)) = L1 at rows1 q3 pm
    have len1 : L1.length = L.length + 1 := pm.length_eq
    have size1 : es1.size = L.length + 1 := by rw [← Array.length_toList, rows1, List.length_map, len1]
    have nd1 : (L1.map (·.2)).Nodup := by
      refine (pm.map (·.2)).nodup_iff.mpr ?_
      rw [List.map_cons]
      exact List.nodup_cons.mpr ⟨hm, R.nd⟩
    -- the rest, whatever the hash hangs on
    have goOn : ∀ t2 : SetTable, TabOk t2 (L1.map fun p => kh P w p.2) → t2.mask = t1.mask → t2.led = t1.led → t2.tooFull = t1.tooFull → t2.fill = t1.fill →
        wpAny (model P w) A (do
          storeSet a es1 t2
          if (!false && t2.tooFull) = true then setRelay a (SetTable.grown (es.size + 1))
          return true) Q E s := fun t2 T2 m2 l2 f2 fl2 => by
      refine wpAny_bind (wpAny_storeSet_of ho hd ?_ (by rw [size1, sizeLine_eq]; omega))
      have sb : Heap.SameBut a s.heap (s.heap.update a (Obj.putSet es1 t2)) := Heap.SameBut.update ..
      have ho1 := store_at (es' := es1) (t' := t2) ho hd
      generalize s.heap.update a (Obj.putSet es1 t2) = h1 at sb ho1 ⊢
      have led2 : w.params.followText "set-order" = true ∨ t2.led = true := by rw [l2, q5]; exact R.led
      have full : t2.tooFull = decide ((L.length + 1) * 5 ≥ t.mask * 3) := by
        unfold SetTable.tooFull
        rw [fl2, q9, List.length_map, m2, q4]
      by_cases hf : t2.tooFull = true
      · first
          | (refine wpAny_bind ?_; refine wp_if_pos (by simp [hf]) ?_)
          | (refine wp_if_pos (by simp [hf]) ?_; refine wpAny_bind ?_)
        rw [full, decide_eq_true_eq] at hf
        rw [size]
        have two : (t.mask = 7 ∧ L.length = 4) ∨ (t.mask = 31 ∧ L.length = 18) := by
          rcases R.tab.mok with e | e | e
          · exact .inl ⟨e, by rw [e] at hf hroom; omega⟩
          · exact .inr ⟨e, by rw [e] at hf hroom; omega⟩
          · exfalso; rw [e] at hf; omega
        have go : ∀ M, SetTable.sizeAbove (SetTable.grown (L.length + 1)) - 1 = M → MaskOk M → SetTable.sizeAbove (SetTable.grown (L.length + 1)) ≤ 128 → (L.length + 1) * 5 < M * 3 →
            wpAny (model P w) A (setRelay a (SetTable.grown (L.length + 1))) (fun _ s' => wpAny (model P w) A (pure true) Q E s') E { s with heap := h1 } := fun M c1 c2 c3 c4 => by
          have psz : t2.place.size = es1.size := by rw [T2.sz, List.length_map, len1, size1]
          have room2 : es1.size ≤ t2.mask := by
            rw [size1, m2, q4]
            rcases two with ⟨e, e2⟩ | ⟨e, e2⟩ <;> omega
          refine relay_k (s := { s with heap := h1 }) ho1 ⟨hex.1, hex.2.1, hex.2.2⟩ rfl rows1 psz T2.dm room2 nd1 led2 (by rw [len1]; exact hfew) c1 c2 c3 (by rw [len1]; exact c4) ?_
          exact fun h2 L2 es2 ep2 t3 sb2 R2 pm2 => wpAny_pure (hQ true h2 L2 es2 ep2 t3 (sb.trans sb2) R2 (fun z => absurd z hm) fun _ => pm2.trans pm)
        rcases two with ⟨_, e2⟩ | ⟨_, e2⟩
        · exact go 31 (by rw [e2, size_20]) (.inr (.inl rfl)) (by rw [e2, size_20]; decide) (by omega)
        · exact go 127 (by rw [e2, size_76]) (.inr (.inr rfl)) (by rw [e2, size_76]; decide) (by omega)
      · first
          | refine wp_if_neg (by simp [hf]) ?_
          | (refine wpAny_bind ?_; refine wp_if_neg (by simp [hf]) ?_; refine wpAny_pure ?_)
        rw [full] at hf
        simp only [decide_eq_true_eq] at hf
        refine wpAny_pure (hQ true h1 L1 es1 (ep + 1) t2 sb ⟨⟨_, ho1, ⟨hex.1, hex.2.1, hex.2.2⟩, rfl⟩, rows1, T2, nd1, led2, ?_, by rw [len1]; exact hfew⟩ (fun z => absurd z hm) fun _ => pm)
        rw [len1, m2, q4]
        omega
    have both : ∀ c : Bool, wpAny (model P w) A (do
          storeSet a es1 (if c = true then t1 else { t1 with plain := false })
          if (!false && (if c = true then t1 else { t1 with plain := false }).tooFull) = true then setRelay a (SetTable.grown (es.size + 1))
          return true) Q E s := fun c => by
      cases c with
      | true => exact goOn t1 q3 rfl rfl rfl rfl
      | false => exact goOn { t1 with plain := false } (TabOk.plainOff q3) rfl rfl rfl rfl
    by_cases hp1 : t1.plain = true
    · first
        | (refine wpAny_bind ?_; refine wp_if_pos hp1 ?_; refine k_byVal hx fun c => ?_; exact both c)
        | (refine wp_if_pos hp1 (wpAny_bind (k_byVal hx fun c => ?_)); exact both c)
    · first
        | (refine wpAny_bind ?_; refine wp_if_neg hp1 ?_; refine wpAny_pure ?_; exact both true)
        | (refine wp_if_neg hp1 (wpAny_bind (wpAny_pure ?_)); exact both true)
        | (refine wp_if_neg hp1 ?_; exact both true)
end
end Wk

namespace Wk
open PySem PySem.Spec PyProof.Rows L2

theorem nodup_le {α : Type} [DecidableEq α] : ∀ {l D : List α}, l.Nodup → (∀ x ∈ l, x ∈ D) → l.length ≤ D.length
  | [], _, _, _ => Nat.zero_le _
  | x :: l, D, hn, hs => by
    obtain ⟨h1, h2⟩ := List.nodup_cons.mp hn
    have hx : x ∈ D := hs x List.mem_cons_self
    have e := List.length_erase_of_mem hx
    have pos : 0 < D.length := List.length_pos_of_mem hx
    have ih := nodup_le (D := D.erase x) h2 fun y hy => (List.mem_erase_of_ne fun z => h1 (by rw [← z]; exact hy)).mpr (hs y (List.mem_cons_of_mem _ hy))
    rw [List.length_cons]
    omega

section
variable {P : Program} {w : World} {A : Around} {E : Value → Shared → Prop} {s : Shared}
/-- the loop of set.update -/
theorem fill_k {I S : Addr} {fp wr : List Addr} {n : Nat} {Pv : Nat → Value → Prop} {St : Nat → Heap → Prop} {R : Result → Shared → Prop} (W : Walks P w A.in1 I fp wr n Pv St) (hSf : S ∉ fp)
    (ks : List Ent) (hval : ∀ i v, Pv i v → ∃ p ∈ ks, v = .ref p.1) (U : List (List Key)) (hU : ∀ p ∈ ks, p.2 ∈ U) (small : U.length < 60)
    (h0 : Heap) (hk : ∀ p ∈ ks, IsK P w h0 p.2 p.1) (hS0 : h0.get? S = none) (hw0 : ∀ b ∈ wr, h0.get? b = none) (hu : A.in1.units < cLine) (g : Array GenState) (dr : Drawn) (os : OsState)
    (hR : ∀ h' tk L es ep t, KSet P w h' S L es ep t → (∀ p ∈ L, p ∈ ks) → (∀ b o, h0.get? b = some o → h'.get? b = some o) → R (.ok (.ret .none)) { heap := h', gens := g, drawn := dr, toks := tk, os := os }) :
    ∀ (m i : Nat) (hp : Heap) (tk : Nat), n - i = m → i ≤ n → St i hp → (∀ b o, h0.get? b = some o → hp.get? b = some o) → (∃ L es ep t, KSet P w hp S L es ep t ∧ ∀ p ∈ L, p ∈ ks) →
      codeAny (model P w) A (.builtin "set.update.loop" ⟨[.ref S, .ref I], []⟩) R { heap := hp, gens := g, drawn := dr, toks := tk, os := os } := by
  have hSw : S ∉ wr := fun z => hSf (W.sub _ z)
  have old : ∀ {hp h1 : Heap}, (∀ b o, h0.get? b = some o → hp.get? b = some o) → (∀ b o, b ∉ wr → hp.get? b = some o → h1.get? b = some o) → ∀ b o, h0.get? b = some o → h1.get? b = some o := fun a c b o e =>
    c b o (fun z => by rw [hw0 b z] at e; cases e) (a b o e)
  intro m
  induction m with
  | zero =>
    intro i hp tk em hi st k0 ⟨L, es, ep, t, R0, sub⟩
    obtain rfl : i = n := by omega
    refine codeAny_builtin F.entry_set_update_loop ?_
    rw [Around.under_plainId F.plain_set_update_loop _]
    show wpAny _ A.in1 (pyNext (.ref I) >>= _) _ _ _
    refine wpAny_bind (W.done _ _ _ st fun h1 t1 k1 => ?_)
    show wpAny (model P w) A.in1 (ret Value.none) _ _ { heap := h1, gens := g, drawn := dr, toks := t1, os := os }
    exact wpAny_pure (hR _ _ L es ep t (R0.move fun o e => k1 S o hSw e) sub (old k0 k1))
  | succ m ih =>
    intro i hp tk em hi st k0 ⟨L, es, ep, t, R0, sub⟩
    refine codeAny_builtin F.entry_set_update_loop ?_
    rw [Around.under_plainId F.plain_set_update_loop _]
    show wpAny _ A.in1 (pyNext (.ref I) >>= _) _ _ _
    refine wpAny_bind (W.item i _ _ _ (by omega) st fun v h1 t1 hP st1 k1 => ?_)
    obtain ⟨p, hpm, rfl⟩ := hval i v hP
    have k2 := old k0 k1
    have R1 : KSet P w h1 S L es ep t := R0.move fun o e => k1 S o hSw e
    have tup : ∀ q ∈ L, IsK P w h1 q.2 q.1 := fun q hq => IsTupleKey.stay (hk q (sub q hq)) k2
    have hx : IsK P w h1 p.2 p.1 := IsTupleKey.stay (hk p hpm) k2
    have cnt : L.length ≤ U.length := by
      have q := nodup_le (D := U) R0.nd fun y hy => by
        obtain ⟨q, hq, e⟩ := List.mem_map.mp hy
        rw [← e]
        exact hU q (sub q hq)
      rwa [List.length_map] at q
    show wpAny (model P w) A.in1 (holding [Value.ref p.1] (setAdd S (.ref p.1)) >>= _) _ _ { heap := h1, gens := g, drawn := dr, toks := t1, os := os }
    refine wpAny_bind (wpAny_holding ?_)
    unfold setAdd
    refine wpAny_holding (wpAny_bind (wpAny_pyHash_tuple hu hx ?_))
    refine add_k R1 tup hx hu (by omega) fun b h2 L2 es2 ep2 t2 sb R2 c1 c2 => ?_
    have sub2 : ∀ q ∈ L2, q ∈ ks := fun q hq => by
      rcases Classical.em (p.2 ∈ L.map (·.2)) with c | c
      · rw [c1 c] at hq
        exact sub q hq
      · rcases List.mem_cons.mp ((c2 c).mem_iff.mp hq) with e | hq
        · rw [e]; exact hpm
        · exact sub q hq
    have k3 : ∀ b o, h0.get? b = some o → h2.get? b = some o := fun b o e => (sb.2 b fun z => by rw [z, hS0] at e; cases e).trans (k2 b o e)
    refine wpAny_pure ⟨plainId_quiet F.plain_set_update_loop _, ih (i + 1) h2 _ (by omega) (by omega) (W.frame _ h1 _ st1 fun b hb o e => ?_) k3 ⟨L2, es2, ep2, t2, R2, sub2⟩⟩
    rw [sb.2 b fun z => hSf (by rw [← z]; exact hb)]
    exact e
end
end Wk

namespace Wk
open PySem PySem.Spec PyProof.Rows L2

section
variable {P : Program} {w : World} {A : Around} {E : Value → Shared → Prop} {s : Shared}
/-- the object of a new set -/
abbrev set0 (w : World) : Obj := { cls := .type "set", dict := none, data := .set #[] 0 (.fresh 0 0 (!w.params.followText "set-order")) }
theorem kset_new {h : Heap} {a : Addr} (e : h.get? a = some (set0 w)) : KSet P w h a [] #[] 0 (.fresh 0 0 (!w.params.followText "set-order")) where
  ob := ⟨_, e, ⟨rfl, rfl, rfl⟩, rfl⟩
  rows := rfl
  tab := ⟨List.Pairwise.nil, rfl, rfl, .inl rfl, fun x hx => (by cases hx), fun i h j hi => (by cases hi)⟩
  nd := .nil
  led := by
    show _ ∨ (!w.params.followText "set-order") = true
    cases w.params.followText "set-order" <;> simp
  room := by show 0 * 5 < 7 * 3; decide
  few := by show 0 < 64; decide

theorem fresh_none {h : Heap} {b : Addr} (hb : h.objs.size ≤ b) : h.get? b = none := by
  cases q : h.get? b with
  | none => rfl
  | some o => exact absurd (Heap.lt_size q) (Nat.not_lt.mpr hb)

set_option maxHeartbeats 6400000 in
/-- set(xs) of a list of tuples of ints and texts, of few kinds -/
theorem set_of_k {l : Addr} {items : Array Value} (ks : List Ent) (U : List (List Key)) {Q : Value → Shared → Prop} (hh : A.handled = none) (hl : s.heap.IsList l items) (hit : items.toList = ks.map fun p => Value.ref p.1)
    (hk : ∀ p ∈ ks, IsK P w s.heap p.2 p.1) (hU : ∀ p ∈ ks, p.2 ∈ U) (small : U.length < 60) (hu : A.units + 3 < cLine)
    (hQ : ∀ (h' : Heap) (tk : Nat) L es ep t, KSet P w h' s.heap.objs.size L es ep t → (∀ p ∈ L, p ∈ ks) → (∀ b o, s.heap.get? b = some o → h'.get? b = some o) → Q (.ref s.heap.objs.size) { s with heap := h', toks := tk }) :
    wpAny (model P w) A (call (.type "set") [.ref l]) Q E s := by
  obtain ⟨hp, gg, dd, tt, oo⟩ := s
  dsimp only at hl hk hQ ⊢
  have hlS : l < hp.objs.size := by
    obtain ⟨o, e, _⟩ := hl
    exact Heap.lt_size e
  generalize hS1 : hp.push (set0 w) = h1
  have z1 : h1.objs.size = hp.objs.size + 1 := by rw [← hS1]; exact Heap.size_push ..
  have e1 : h1.get? hp.objs.size = some (set0 w) := by rw [← hS1]; exact Heap.get?_push_size _ rfl
  have k1 : ∀ b o, hp.get? b = some o → h1.get? b = some o := fun b o e => by rw [← hS1]; exact Heap.get?_push_of_some _ e
  obtain ⟨c, tl, hmro⟩ := F.called_set.mro
  have hmade := F.called_set.made
  have hsub := F.called_set.sub
  refine wpAny_call (codeAny_of_tree ?_)
  show wpAny _ _ (callAny (.type "set") _) _ _ _
  refine wpAny_pure ⟨Code.quiet_builtin _ (by decide +kernel), codeAny_builtin F.entry_type_call ?_⟩
  rw [Around.under_plain (weight_type_call_type "set" [.ref l] []) rfl]
  have t1 := F.called_set.notType
  have t2 := F.called_set.canCreate
  have t3 := F.typeCall_set_1 (.ref l)
  repeat (any_goals (first | assumption | wp_step))
  refine codeAny_mono (code_set_led1 (.ref l) (E := E) (Q₁ := fun obj s₁ => obj = .ref hp.objs.size ∧ s₁ = { heap := h1, gens := gg, drawn := dd, toks := tt, os := oo }) ⟨rfl, by rw [← hS1]⟩) fun r s₁ hr => ?_
  cases r with
  | error e => exact hr
  | ok fl =>
    cases fl with
    | ret obj =>
      obtain ⟨rfl, rfl⟩ := hr
      have hT : Shared.TypeIs { heap := h1, gens := gg, drawn := dd, toks := tt, os := oo } (.ref hp.objs.size) "set" := ⟨_, e1, rfl⟩
      have hli := F.called_set.init.lookup
      have hbi := F.called_set.init.bind (.ref hp.objs.size)
      repeat (any_goals (first | assumption | wp_step))
      refine codeAny_mono (codeAny_call_builtin (R := wants (fun r s₂ => r = .none ∧ ∃ h' tk L es ep t, s₂ = { heap := h', gens := gg, drawn := dd, toks := tk, os := oo } ∧ KSet P w h' hp.objs.size L es ep t ∧ (∀ p ∈ L, p ∈ ks) ∧ ∀ b o, hp.get? b = some o → h'.get? b = some o) E)
        F.called_set.init.plain F.entry_set_init (check_set_init_1 hT ?_)) fun r₂ s₂ hr₂ => ?_
      · have hl1 : h1.IsList l items := by
          obtain ⟨o, e, r⟩ := hl
          exact ⟨o, k1 _ _ e, r⟩
        obtain ⟨ol, hol, hcl, nl, hdl⟩ := id hl1
        obtain ⟨ocls, odict, odata, oslots⟩ := ol
        simp only at hcl hdl
        subst hcl
        subst hdl
        have s1 := F.sub_list_set
        have s2 := F.sub_list_frozenset
        have s3 : (Value.type "list" == Value.type "dict") = false := by decide
        unfold Builtin.«set.__init__» noKeywords Builtin.Frozenset.updateFrom
        generalize hPI : pyIter = PI
        wp_walk
        subst hPI
        refine wpAny_pyIter_list hl1 ?_
        refine wpAny_bind (wpAny_runValue ?_)
        have hh3 : A.in1.in1.in1.handled = none := by simp [hh]
        have neI : l ≠ h1.objs.size := by rw [z1]; exact Nat.ne_of_lt (Nat.lt_succ_of_lt hlS)
        have nf : hp.objs.size ∉ [h1.objs.size, l] := by
          rw [z1]
          simp only [List.mem_cons, List.not_mem_nil, or_false, not_or]
          exact ⟨Nat.ne_of_lt (Nat.lt_succ_self _), Nat.ne_of_gt hlS⟩
        refine fill_k (Walks.list hh3 _ l neI items) nf ks (fun i v hv => ?_) U hU small hp hk (fresh_none (Nat.le_refl _)) (fun b hb => fresh_none (by rw [List.mem_singleton.mp hb, z1]; exact Nat.le_succ _)) (by simp; omega) gg dd oo ?hR (items.size - 0) 0 _ _ (by omega) (Nat.zero_le _)
          ⟨⟨_, Heap.get?_push_size _ rfl, rfl, rfl⟩, hl1.push _⟩ (fun b o e => Heap.get?_push_of_some _ (k1 b o e)) ⟨[], #[], 0, _, kset_new (Heap.get?_push_of_some _ e1), fun p hp => nomatch hp⟩
        · have q : items.toList[i]? = some v := by rw [Array.getElem?_toList]; exact hv
          rw [hit, List.getElem?_map] at q
          cases z : ks[i]? with
          | none => rw [z] at q; cases q
          | some p => rw [z] at q; exact ⟨p, List.mem_of_getElem? z, (Option.some.inj q).symm⟩
        case hR =>
          intro h' tk L es ep t R sub kp
          show wpAny _ _ _ _ _ _
          refine wpAny_pure ?_
          show wpAny _ _ (ret Value.none) _ _ _
          exact wpAny_pure ⟨rfl, h', tk, L, es, ep, t, rfl, R, sub, kp⟩
      · cases r₂ with
        | error e => exact hr₂
        | ok fl₂ =>
          cases fl₂ with
          | ret r =>
            obtain ⟨rfl, h', tk, L, es, ep, t, rfl, R, sub, kp⟩ := hr₂
            repeat (any_goals (first | assumption | wp_step))
            exact hQ _ _ _ _ _ _ R sub kp
          | _ => exact hr₂.elim
    | _ => exact hr.elim
end
end Wk

namespace Wk
open PySem PySem.Spec PyProof.Rows L2

/-- an ending (p, s, q, f) as the key of a tuple -/
abbrev En := Int × Str × Int × Int
def enK (e : En) : List Key := [Sum.inl e.1, Sum.inr e.2.1, Sum.inl e.2.2.1, Sum.inl e.2.2.2]
theorem enK_inj {a b : En} (h : enK a = enK b) : a = b := by
  obtain ⟨a1, a2, a3, a4⟩ := a
  obtain ⟨b1, b2, b3, b4⟩ := b
  unfold enK at h
  simp only [List.cons.injEq, Sum.inl.injEq, Sum.inr.injEq, and_true] at h
  obtain ⟨e1, e2, e3, e4⟩ := h
  rw [e1, e2, e3, e4]
def enD (e : En) : PyData := .tuple [.int e.1, .str e.2.1, .int e.2.2.1, .int e.2.2.2]
abbrev Qe := Addr × En
abbrev qk (p : Qe) : Ent := (p.1, enK p.2)

theorem each_map_inv {α β γ : Type} {R : β → γ → Prop} {f : α → β} {g : α → γ} (h : ∀ x, R (f x) (g x)) : ∀ l : List α, PySem.W.EachIs R (l.map f) (l.map g)
  | [] => .nil
  | x :: l => .cons (h x) (each_map_inv h l)
theorem perm_lift {α β : Type} {f : α → β} {vs ws : List β} (p : vs.Perm ws) : ∀ {L : List α}, ws = L.map f → ∃ L1 : List α, L1.Perm L ∧ vs = L1.map f := by
  induction p with
  | nil => exact fun {L} e => ⟨L, .refl _, e⟩
  | cons x _ ih =>
    intro L e
    cases L with
    | nil => cases e
    | cons y L =>
      rw [List.map_cons] at e
      injection e with e1 e2
      obtain ⟨L1, p1, q1⟩ := ih e2
      exact ⟨y :: L1, p1.cons y, by rw [List.map_cons, e1, q1]⟩
  | swap x y l =>
    intro L e
    match L, e with
    | [], e => cases e
    | [_], e => simp at e
    | a :: b :: L, e =>
      simp only [List.map_cons, List.cons.injEq] at e
      obtain ⟨e1, e2, e3⟩ := e
      exact ⟨b :: a :: L, .swap .., by simp only [List.map_cons]; rw [e1, e2, e3]⟩
  | trans _ _ ih1 ih2 =>
    intro L e
    obtain ⟨L2, p2, e2⟩ := ih2 e
    obtain ⟨L1, p1, e1⟩ := ih1 e2
    exact ⟨L1, p1.trans p2, e1⟩

section
variable {P : Program} {w : World} {A : Around} {E : Value → Shared → Prop} {s : Shared}
theorem en_reads {h : Heap} {e : En} {b : Addr} (x : IsK P w h (enK e) b) : Reads h (.ref b) (enD e) [] := by
  obtain ⟨o, its, n, ho, hc, hd, hi⟩ := x
  refine .tuple ho hc hd ?_
  generalize its.toList = vs at hi
  unfold enK at hi
  obtain _ | ⟨a1, hi⟩ := hi
  obtain _ | ⟨a2, hi⟩ := hi
  obtain _ | ⟨a3, hi⟩ := hi
  obtain _ | ⟨a4, hi⟩ := hi
  cases hi
  have num : ∀ {i : Int} {v : Value}, (mixKind P w).is (Sum.inl i) v = true → ∃ t, v = Value.int i t := fun {i v} h => by
    rcases keyIs_shape (k := Sum.inl i) (v := v) h with ⟨j, t, e, r⟩ | ⟨y, t, e, r⟩
    · cases e; exact ⟨t, r⟩
    · cases e
  have txt : ∀ {x : Str} {v : Value}, (mixKind P w).is (Sum.inr x) v = true → ∃ t, v = Value.str x t := fun {x v} h => by
    rcases keyIs_shape (k := Sum.inr x) (v := v) h with ⟨j, t, e, r⟩ | ⟨y, t, e, r⟩
    · cases e
    · cases e; exact ⟨t, r⟩
  obtain ⟨t1, rfl⟩ := num a1
  obtain ⟨t2, rfl⟩ := txt a2
  obtain ⟨t3, rfl⟩ := num a3
  obtain ⟨t4, rfl⟩ := num a4
  exact .cons (.int _ _) (.cons (.str _ _) (.cons (.int _ _) (.cons (.int _ _) .nil)))
theorem enD_alike (a b : En) : PySem.W.alike (enD a) (enD b) = true := by
  simp [enD, PySem.W.alike, PySem.W.alikeAll]
theorem enD_depth (a : En) : (enD a).depth ≤ 2 := by
  simp [enD, PyData.depth, PyData.depthAll]

/-- sorted(set) -/
theorem sorted_k {a : Addr} {L : List Qe} {es : Array (Int × Value)} {ep : Nat} {t : SetTable} {Q : Value → Shared → Prop} (R : KSet P w s.heap a (L.map qk) es ep t) (tup : ∀ p ∈ L, IsK P w s.heap (enK p.2) p.1) (hh : A.handled = none) (hu : A.units + 8 < cLine)
    (hQ : ∀ s' p (out : Array Value) (c : Nat) (L' : List Qe), (∀ b o, s.heap.get? b = some o → s'.heap.get? b = some o) → s'.gens = s.gens → s'.os = s.os → s.heap.objs.size ≤ p →
      s'.heap.get? p = some (seqObj "list" out c) → out.toList = L'.map (fun q => Value.ref q.1) → L'.Perm L → Q (.ref p) s') :
    wpAny (model P w) A (call (.builtin "sorted") [.ref a]) Q E s := by
  obtain ⟨o, ho, hex, hd⟩ := R.ob
  have size := R.size
  have few := R.few
  rw [List.length_map] at size few
  refine Calls.call_function_entry kind_sorted plain_sorted entry_sorted (args_sorted1 _) ?_
  unfold Builtin.«sorted»
  refine wpAny_bind (m := checkCount "sorted" 1 1 _) (wpAny_pure ?_)
  refine wpAny_bind (collect_set (A := A.in1) hh ⟨o, ho, hex.1, hd⟩ R.fit (by unfold scanBound; omega) R.tab.ris R.led fun s1 vs k1 hz g1 o1 pm => ?_)
  have vals : es.toList.map (·.2) = L.map fun q => Value.ref q.1 := by
    rw [R.rows, List.map_map, List.map_map]
    rfl
  rw [vals] at pm
  obtain ⟨L1, p1, e1⟩ := perm_lift (f := fun q : Qe => Value.ref q.1) pm rfl
  have len1 : vs.length = L.length := by rw [e1, List.length_map, p1.length_eq]
  refine wpAny_bind (wpAny_newList ?_ (by rw [sizeLine_eq]; omega))
  have oL : (s1.heap.push (seqObj "list" vs.toArray 0)).get? s1.heap.objs.size = some (seqObj "list" vs.toArray 0) := Heap.get?_push_size _ rfl
  have tup2 : ∀ q ∈ L1, IsK P w (s1.heap.push (seqObj "list" vs.toArray 0)) (enK q.2) q.1 := fun q hq => IsTupleKey.stay (tup q (p1.mem_iff.mp hq)) fun b u e => Heap.get?_push_of_some _ (k1 b u e)
  have reads : PySem.W.EachIs (fun (v : Value) (q : Qe) => ∃ as, Reads (s1.heap.push (seqObj "list" vs.toArray 0)) v (enD q.2) as ∧ s1.heap.objs.size ∉ as) vs L1 := by
    rw [e1]
    have go : ∀ l : List Qe, (∀ q ∈ l, q ∈ L1) → PySem.W.EachIs (fun (v : Value) (q : Qe) => ∃ as, Reads (s1.heap.push (seqObj "list" (L1.map fun q => Value.ref q.1).toArray 0)) v (enD q.2) as ∧ s1.heap.objs.size ∉ as) (l.map fun q => Value.ref q.1) l := by
      intro l
      induction l with
      | nil => exact fun _ => .nil
      | cons q l ih => exact fun m => .cons ⟨[], en_reads (P := P) (w := w) (by rw [← e1]; exact tup2 q (m q List.mem_cons_self)), by simp⟩ (ih fun r hr => m r (List.mem_cons_of_mem _ hr))
    exact go L1 fun q hq => hq
  have refs : PySem.W.EachIs (fun (v : Value) (q : Qe) => v = Value.ref q.1) vs L1 := by
    rw [e1]
    have := each_map_inv (R := fun (v : Value) (q : Qe) => v = Value.ref q.1) (f := fun q : Qe => Value.ref q.1) (g := id) (fun _ => rfl) L1
    rwa [List.map_id] at this
  have fin : ∀ {out : List Value} {l : List Qe}, PySem.W.EachIs (fun (v : Value) (q : Qe) => v = Value.ref q.1) out l → out = l.map fun q => Value.ref q.1 := fun {out l} x => by
    induction x with
    | nil => rfl
    | cons h _ ih => rw [h, ih]; rfl
  refine wpAny_bind (wpAny_holding (PySem.W.list_sort_data (s := { s1 with heap := s1.heap.push (seqObj "list" vs.toArray 0) }) (enc := fun q : Qe => enD q.2) oL refs reads (PySem.W.AllAlike.of fun a b => enD_alike _ _) (PySem.W.Sortable.tuples fun b => ⟨_, _, rfl⟩)
    (by rw [p1.length_eq, sizeLine_eq]; omega) (fun q _ => by have := enD_depth q.2; simp; omega) fun out lo eo => ?_))
  obtain ⟨c, hc⟩ := sortedHeap_at (vs := vs) (out := out.toArray) oL
  refine wpAny_pure ⟨_, rfl, hQ _ s1.heap.objs.size out.toArray c (L1.mergeSort (PySem.W.dataLe false fun q : Qe => enD q.2)) (fun b u e => ?_) g1 o1 hz hc (fin eo) ((List.mergeSort_perm _ _).trans p1)⟩
  have q := k1 b u e
  have lt := Heap.lt_size q
  show (sortedHeap (s1.heap.push (seqObj "list" vs.toArray 0)) s1.heap.objs.size vs out.toArray).get? b = some u
  rw [sortedHeap_old (Nat.ne_of_lt lt) (by rw [size_push']; exact Nat.lt_succ_of_lt lt)]
  exact Heap.get?_push_of_some _ q
end

/-! ### as rules -/
/-- the set at a, its tuples apart -/
def KSetO (P : Program) (w : World) (a : Addr) (L : List Qe) : HO := .ext fun h => ∃ es ep t, KSet P w h a (L.map qk) es ep t
theorem ksetO_ok {P : Program} {w : World} {H : Hp} {h : Heap} {a : Addr} {L : List Qe} {es : Array (Int × Value)} {ep : Nat} {t : SetTable} (R : KSet P w h a (L.map qk) es ep t) : ObjOk P w H h a (KSetO P w a L) := by
  obtain ⟨o, ho, r⟩ := R.ob
  exact ⟨⟨es, ep, t, R⟩, ⟨o, ho⟩, fun h1 h2 ⟨es', ep', t', R'⟩ k => ⟨es', ep', t', R'.move k⟩⟩
/-- an ending's tuple -/
abbrev EnAt (H : Hp) (b : Addr) (e : En) : Prop := H b = some (.tup ((enK e).map kV))
section
variable {X : Cx}
theorem isK_of {pins : List (Addr × Obj)} {σ : L2.St} {H : Hp} {s : Shared} {b : Addr} {k : List Key} (I : Inv X pins σ H s) (h : H b = some (.tup (k.map kV))) : IsK X.prog X.w s.heap k b := key_of I.hok h
def rSetQ (K : PySem.W.Frag) (P : Program) (w : World) : List V → Hp → VK → Prop := fun xs H Q => ∃ (l : Addr) (ks : List Qe) (U : List En), xs = [V.ref l] ∧ SqL K H l (ks.map fun p => V.ref p.1) ∧ (∀ p ∈ ks, EnAt H p.1 p.2) ∧ (∀ p ∈ ks, p.2 ∈ U) ∧ U.length < 60 ∧
  ∀ a (L : List Qe), H a = none → (∀ p ∈ L, p ∈ ks) → (L.map (·.2)).Nodup → Q (.ref a) (upd H a (KSetO P w a L))
theorem lift_sub {L : List Ent} {ks : List Qe} : (∀ p ∈ L, p ∈ ks.map qk) → ∃ L1 : List Qe, L = L1.map qk ∧ ∀ p ∈ L1, p ∈ ks := by
  induction L with
  | nil => exact fun _ => ⟨[], rfl, fun p hp => nomatch hp⟩
  | cons x L ih =>
    intro h
    obtain ⟨L1, e, s1⟩ := ih fun p hp => h p (List.mem_cons_of_mem _ hp)
    obtain ⟨q, hq, eq⟩ := List.mem_map.mp (h x List.mem_cons_self)
    refine ⟨q :: L1, by rw [List.map_cons, eq, e], fun p hp => ?_⟩
    rcases List.mem_cons.mp hp with z | z
    · rw [z]; exact hq
    · exact s1 p z
theorem cr_setQ (hc : X.calm = true) (hu : X.A.units + 64 < cLine) : CallR X (.type "set") (rSetQ X.K X.prog X.w) := by
  intro pins s σ H xs us Q I r h
  obtain ⟨l, ks, U, rfl, hl, hk, hU, small, q⟩ := h
  rw [Vals.ref1 r]
  obtain ⟨its, rv, pl, hz⟩ := I.list hl
  have hn : H s.heap.objs.size = none := I.hok.fresh (Nat.le_refl _)
  have items : its = (ks.map qk).map fun p => Value.ref p.1 := by
    have go : ∀ {ks : List Qe} {us : List Value}, Vals (ks.map fun p => V.ref p.1) us → us = (ks.map qk).map fun p => Value.ref p.1 := fun {ks} => by
      induction ks with
      | nil => intro us r; cases r; rfl
      | cons p ks ih => intro us r; cases r with | cons r1 r2 => cases r1; rw [ih r2]; rfl
    exact go rv
  refine set_of_k (P := X.prog) (w := X.w) (ks.map qk) (U.map enK) (I.ok.hd hc) pl.isList (by simpa using items) (fun p hp => ?_) (fun p hp => ?_) (by rw [List.length_map]; exact small) (by omega) fun h' tk L es ep t R sub kp => ?_
  · obtain ⟨q, hq, e⟩ := List.mem_map.mp hp
    rw [← e]
    exact isK_of I (hk q hq)
  · obtain ⟨q, hq, e⟩ := List.mem_map.mp hp
    rw [← e]
    exact List.mem_map.mpr ⟨q.2, hU q hq, rfl⟩
  · obtain ⟨L1, rfl, s1⟩ := lift_sub sub
    refine ⟨.ref s.heap.objs.size, upd H s.heap.objs.size (KSetO X.prog X.w s.heap.objs.size L1), I.laid (t' := tk) kp (Nat.le_refl _) (ksetO_ok R), rfl, q _ L1 hn s1 ?_⟩
    have nd := R.nd
    rw [List.map_map] at nd
    have e : (L1.map ((fun p : Ent => p.2) ∘ qk)) = (L1.map (·.2)).map enK := by rw [List.map_map]; rfl
    rw [e] at nd
    exact List.Pairwise.of_map enK (fun _ _ ne z => ne (congrArg enK z)) nd
/-- sorted of such a set -/
def rSortedQ (P : Program) (w : World) : List V → Hp → VK → Prop := fun vs H Q => ∃ (a : Addr) (L : List Qe), vs = [V.ref a] ∧ H a = some (KSetO P w a L) ∧ (∀ p ∈ L, EnAt H p.1 p.2) ∧
  ∀ (L' : List Qe) (p : Addr), L'.Perm L → H p = none → Q (.ref p) (upd H p (.lst (L'.map fun q => V.ref q.1)))
theorem cr_sortedQ (hc : X.calm = true) (hu : X.A.units + 64 < cLine) : CallR X (.builtin "sorted") (rSortedQ X.prog X.w) := by
  intro pins s σ H vs us Q I r h
  obtain ⟨a, L, rfl, ha, hk, q⟩ := h
  obtain ⟨es, ep, t, R⟩ : ∃ es ep t, KSet X.prog X.w s.heap a (L.map qk) es ep t := (I.hok a _ ha).1
  rw [Vals.ref1 r]
  refine sorted_k R (fun p hp => isK_of I (hk p hp)) (I.ok.hd hc) (by omega) fun s' p out c L' k g o hp hg hout pm => ?_
  have few : L'.length < 64 := by
    have := R.few
    rw [List.length_map] at this
    rw [pm.length_eq]
    exact this
  have len : (L'.map fun q => V.ref q.1).length ≤ sizeLine := by rw [List.length_map, sizeLine_eq]; omega
  have hn : H p = none := I.hok.fresh hp
  have hv : Vals (L'.map fun q => V.ref q.1) out.toList := by
    rw [hout]
    have go : ∀ l : List Qe, Vals (l.map fun q => V.ref q.1) (l.map fun q => Value.ref q.1) := fun l => by
      induction l with
      | nil => exact .nil
      | cons q l ih => exact .cons rfl ih
    exact go L'
  have J : Inv X pins σ (upd H p (.lst (L'.map fun q => V.ref q.1))) { s with heap := s'.heap, gens := s'.gens, drawn := s'.drawn, toks := s'.toks } :=
    I.call (ch := []) (Un.laid k hp hn) (I.hok.laid k hp ⟨len, out.toList, c, hv, hg⟩) (by rw [g]; exact I.bare) (fun _ z => nomatch z)
  have e : s' = { s with heap := s'.heap, gens := s'.gens, drawn := s'.drawn, toks := s'.toks } := by
    cases s'
    cases s
    cases o
    rfl
  rw [e]
  exact ⟨.ref p, _, J, rfl, q L' p pm hn⟩
end
end Wk

namespace Wk
open PySem PySem.Spec L2

section
variable {X : Cx}
/-- max(a, b, c) -/
theorem call_max3 (hc : X.calm = true) : CallR X (.builtin "max") (fun xs H Q => ∃ i j k, xs = [.int i, .int j, .int k] ∧ Q (.int (max (max i j) k)) H) := by
  intro pins s σ H xs us Q I r h
  obtain ⟨i, j, k, rfl, q⟩ := h
  cases r with | cons r1 r =>
  cases r with | cons r2 r =>
  cases r with | cons r3 r =>
  cases r
  obtain ⟨t1, rfl⟩ := r1
  obtain ⟨t2, rfl⟩ := r2
  obtain ⟨t3, rfl⟩ := r3
  refine max_three_ints (I.ok.hd hc) fun h' tk kp => ⟨_, H, I.kept kp, ?_, q⟩
  split <;> split
  · exact ⟨_, by rw [show max (max i j) k = k by omega]⟩
  · exact ⟨_, by rw [show max (max i j) k = j by omega]⟩
  · exact ⟨_, by rw [show max (max i j) k = k by omega]⟩
  · exact ⟨_, by rw [show max (max i j) k = i by omega]⟩
theorem call_maxP (hc : X.calm = true) : CallR X (.builtin "max") (fun xs H Q => ∃ i j, xs = [.int i, .int j] ∧ Q (.int (max i j)) H) := by
  intro pins s σ H xs us Q I r h
  obtain ⟨i, j, rfl, q⟩ := h
  refine call_max2 hc pins s σ H _ us Q I r ⟨i, j, rfl, ?_⟩
  have e : (if j > i then j else i) = max i j := by split <;> omega
  rw [e]
  exact q

/-! ### dicts with tuple keys: setdefault, dict(pairs) -/
theorem dT_obj {P : Program} {w : World} {H' : Hp} {h' : Heap} {a : Addr} {kvs : List (List Key × V)} {xs : List (List Key × Addr × Value)} (z : kvs.length ≤ sizeLine) (hd : (a == sysModules) = false) (rel : KT H' kvs xs) (dd : h'.DictOfH (tupleKind (mixKind P w)) a xs) : ObjOk P w H' h' a (.dT kvs) := by
  obtain ⟨o, es, ep, h1, h2, h3, h4, _, h5⟩ := dd
  exact ⟨z, hd, xs, rel, o, es, ep, h1, h2, h3, h4, h5⟩
theorem d_setdT {pins : List (Addr × Obj)} {σ : L2.St} {H : Hp} {s : Shared} {a b : Addr} {r : Value} {d : V} {k : List Key} {A : Around} {E : Value → Shared → Prop} {kvs : List (List Key × V)} {Q : Value → Shared → Prop} (hu : A.units + 1 < cLine) (I : Inv X pins σ H s)
    (e : H a = some (.dT kvs)) (eb : H b = some (.tup (k.map kV))) (rd : RelV d r) (hl : kvs.length < sizeLine)
    (h1 : ∀ v, valV kvs k = some v → ∀ (w' : Value) (s' : Shared), Inv X pins σ H s' → RelV v w' → Q w' s') (h2 : valV kvs k = none → ∀ (w' : Value) (s' : Shared), Inv X pins σ (upd H a (.dT (putK kvs k d))) s' → RelV d w' → Q w' s') :
    wpAny (model X.prog X.w) A (call (.builtin "dict.setdefault") [.ref a, .ref b, r]) Q E s := by
  obtain ⟨z, hd, xs, rel, dd⟩ := dt_of I.hok e
  have hz : xs.length ≤ sizeLine := by rw [← Paired.length rel]; exact z
  refine call_setdefault_heap (hsz := hz) (tupleKind_room_in1 hu) (key_of I.hok eb) hd dd (fun p hp => ?_) fun hn h' dd' hs => ?_
  · have q := rel.val k
    rw [hp] at q
    cases q0 : valV kvs k with
    | none => rw [q0] at q; exact (show False from q).elim
    | some v0 => rw [q0] at q; exact h1 v0 q0 _ _ (I.tok _) q
  · have q := rel.val k
    rw [hn] at q
    cases q0 : valV kvs k with
    | some v0 => rw [q0] at q; exact (show False from q).elim
    | none =>
      have hl2 : (putK kvs k d).length ≤ sizeLine := by have := length_putK kvs k d; omega
      obtain ⟨o, es, ep, hq, _⟩ := id dd'
      refine h2 q0 _ _ (d_write I (by rw [e]; exact True.intro) hs ⟨o, hq⟩ (dT_obj hl2 hd ((rel.put k eb rd).keeps fun c ys ec => ?_) dd')) rd
      rw [upd_ne (ne_of ec e (fun z => nomatch z))]
      exact ec
def tDSetdT (td ty tx : TE) : TE := fun σ H Q => td σ H fun x H1 => ∃ a, x = .ref a ∧ IsD H1 a ∧ ty σ H1 fun y H2 => tx σ H2 fun z H3 => ∃ (kvs : List (List Key × V)) (k : List Key) (b : Addr), H3 a = some (.dT kvs) ∧ y = .ref b ∧ H3 b = some (.tup (k.map kV)) ∧ kvs.length < sizeLine ∧
  (∀ v, valV kvs k = some v → Q v H3) ∧ (valV kvs k = none → Q z (upd H3 a (.dT (putK kvs k z))))
theorem pe_dsetdT {o e f : Expr} {td ty tx : TE} {apos cpos : Pos} (hu : X.A.units + 1 < cLine) (ho : PE X o td) (he : PE X e ty) (hf : PE X f tx) (m : M2 X o "setdefault" apos e f cpos) : PE X (.Call (.Attribute o "setdefault" apos) [e, f] [] cpos) (tDSetdT td ty tx) := by
  refine ⟨fun pins s σ H Q I h => ?_⟩
  refine wpAny_Call_method m.base m.few m.line PySem.F.plainAttrs_dict PySem.F.slot_dict_setdefault PySem.F.type_dict_setdefault (thn (ho.run pins s σ H _ I h) fun u s1 ⟨x, H1, I1, rx, a, ex, d, q1⟩ => ?_)
  subst ex
  cases (show u = Value.ref a from rx)
  refine ⟨(isD_at I1 d).1, (isD_at I1 d).2.1, ?_⟩
  rw [m.trees]
  refine Calls.callWith_builtin rfl (Calls.evalArgs_plain (Calls.spliced_cons (thn (he.run pins s1 σ H1 _ I1 q1) fun iv s2 ⟨y, H2, I2, ry, q2⟩ =>
    Calls.spliced_cons (thn (hf.run pins s2 σ H2 _ I2 q2) fun fv s3 ⟨z, H3, I3, rz, kvs, k, b, ea, ey, eb, hl, q3, q4⟩ => Calls.spliced_nil ?_))))
  subst ey
  cases (show iv = Value.ref b from ry)
  exact d_setdT hu I3 ea eb rz hl (fun v hv w' s4 I4 rw' => ⟨v, _, I4, rw', q3 v hv⟩) fun hn w' s4 I4 rw' => ⟨z, _, I4, rw', q4 hn⟩

/-- tuple(xs) of a list: the new tuple is known to the object, which has no dict -/
theorem call_tuple_frz : CallR X (.type "tuple") (fun xs H Q => ∃ p ys, xs = [.ref p] ∧ SqL X.K H p ys ∧ ∀ l o, H l = none → o.dict = none → Q (.ref l) (upd H l (.frz o (.tup ys)))) := by
  intro pins s σ H xs us Q I r h
  obtain ⟨p, ys, rfl, hq, q⟩ := h
  rw [Vals.ref1 r]
  obtain ⟨its, r', pl, hz⟩ := I.list hq
  have hlen := r'.length
  refine call_tuple_list pl.isList (fun h' kp => ?_) (by simp only [List.size_toArray]; omega)
  have I1 : Inv X pins σ H { s with heap := h' } := I.kept (t' := s.toks) kp
  have I2 : Inv X pins σ (upd H h'.objs.size (.frz { cls := .type "tuple", data := .seq its.toArray } (.tup ys))) { s with heap := h'.push { cls := .type "tuple", data := .seq its.toArray } } :=
    I1.laid (t' := s.toks) (fun b o e => Heap.get?_push_of_some _ e) (Nat.le_refl _) ⟨Heap.get?_push_size _ rfl, hz, its, r', PyProof.Rows.IsTup.new _ _⟩
  exact ⟨.ref h'.objs.size, _, I2, rfl, q _ _ (I1.hok.fresh (Nat.le_refl _)) rfl⟩

/-- a pair's tuple, its key's tuple, the key, the value -/
abbrev Pr := Addr × Addr × List Key × V
abbrev PrAt (H : Hp) (p : Pr) : Prop := H p.1 = some (.tup [.ref p.2.1, p.2.2.2]) ∧ H p.2.1 = some (.tup (p.2.2.1.map kV))
/-- the dict of pairs: a key that comes again takes the last value and keeps its place -/
def mergeT (acc : List (List Key × V)) (ps : List (List Key × V)) : List (List Key × V) := ps.foldl (fun acc kv => putK acc kv.1 kv.2) acc
theorem length_mergeT : ∀ (ps acc : List (List Key × V)), (mergeT acc ps).length ≤ acc.length + ps.length
  | [], acc => Nat.le_refl _
  | p :: ps, acc => by
    have h1 := length_putK acc p.1 p.2
    have h2 := length_mergeT ps (putK acc p.1 p.2)
    show (mergeT (putK acc p.1 p.2) ps).length ≤ _
    rw [List.length_cons]
    omega
theorem kt_merge {H : Hp} : ∀ {L : List (Pr × Value)} {acc : List (List Key × V)} {ax : List (List Key × Addr × Value)}, KT H acc ax → (∀ q ∈ L, H q.1.2.1 = some (.tup (q.1.2.2.1.map kV)) ∧ RelV q.1.2.2.2 q.2) →
    KT H (Wk.mergeT acc (L.map fun q => (q.1.2.2.1, q.1.2.2.2))) (storedAllH ax (L.map fun q => (q.1.2.2.1, q.1.2.1, q.2)))
  | [], _, _, r, _ => r
  | q :: L, acc, ax, r, h => by
    have h0 := h q List.mem_cons_self
    exact kt_merge (L := L) (L2.KT.put r q.1.2.2.1 h0.1 h0.2) fun p m => h p (List.mem_cons_of_mem _ m)

theorem call_dictT (hc : X.calm = true) (hu : X.A.units + 64 < cLine) : CallR X (.type "dict") (fun xs H Q => ∃ (t : Addr) (o : Obj) (ps : List Pr), xs = [.ref t] ∧ H t = some (.frz o (.tup (ps.map fun p => V.ref p.1))) ∧ o.dict = none ∧ (∀ p ∈ ps, PrAt H p) ∧
    ∀ d, H d = none → Q (.ref d) (upd H d (.dT (mergeT [] (ps.map fun p => (p.2.2.1, p.2.2.2)))))) := by
  intro pins s σ H xs us Q I r h
  obtain ⟨t, o, ps, rfl, ht, hd, hp, q⟩ := h
  rw [Vals.ref1 r]
  obtain ⟨ho, hz, its, rv, ⟨o', ho', hcls, n, hdat⟩⟩ := (show s.heap.get? t = some o ∧ (ps.map fun p => V.ref p.1).length ≤ sizeLine ∧ ∃ its : List Value, Vals (ps.map fun p => V.ref p.1) its ∧ PyProof.Rows.IsTup s.heap t its.toArray from I.hok t _ ht)
  obtain rfl : o' = o := Option.some.inj (ho'.symm.trans ho)
  rw [List.length_map] at hz
  -- the pairs' values
  have one : ∀ p : Pr, PrAt H p → ∃ u, RelV p.2.2.2 u ∧ PyProof.Rows.IsTup s.heap p.1 #[.ref p.2.1, u] := fun p hp => by
    obtain ⟨_, its, rv, ht⟩ := (show _ ∧ ∃ its : List Value, Vals [.ref p.2.1, p.2.2.2] its ∧ PyProof.Rows.IsTup s.heap p.1 its.toArray from I.hok _ _ hp.1)
    obtain ⟨a, b, rfl, ra, rb⟩ := Vals.two rv
    cases (show a = Value.ref p.2.1 from ra)
    exact ⟨b, rb, ht⟩
  have all : ∀ ps : List Pr, (∀ p ∈ ps, PrAt H p) → ∃ L : List (Pr × Value), L.map (·.1) = ps ∧ ∀ q ∈ L, RelV q.1.2.2.2 q.2 ∧ PyProof.Rows.IsTup s.heap q.1.1 #[.ref q.1.2.1, q.2] ∧ PrAt H q.1 := fun ps => by
    induction ps with
    | nil => exact fun _ => ⟨[], rfl, fun q hq => nomatch hq⟩
    | cons p ps ih =>
      intro h
      obtain ⟨L, e, hL⟩ := ih fun p m => h p (List.mem_cons_of_mem _ m)
      obtain ⟨u, ru, iu⟩ := one p (h p List.mem_cons_self)
      refine ⟨(p, u) :: L, by rw [List.map_cons, e], fun q hq => ?_⟩
      rcases List.mem_cons.mp hq with z | z
      · rw [z]; exact ⟨ru, iu, h p List.mem_cons_self⟩
      · exact hL q z
  obtain ⟨L, rfl, hL⟩ := all ps hp
  have items : its = L.map fun q => Value.ref q.1.1 := by
    rw [List.map_map] at rv
    have go : ∀ (L : List (Pr × Value)) (us : List Value), Vals (L.map ((fun p : Pr => V.ref p.1) ∘ fun q : Pr × Value => q.1)) us → us = L.map fun q => Value.ref q.1.1 := fun L => by
      induction L with
      | nil => intro us r; cases r; rfl
      | cons p L ih => intro us r; cases r with | cons r1 r2 => cases r1; rw [ih _ r2]; rfl
    exact go L _ rv
  subst items
  have big := I.big
  have hn : H s.heap.objs.size = none := I.hok.fresh (Nat.le_refl _)
  have sz : (L.map fun q => Value.ref q.1.1).toArray.size = L.length := by simp
  have mem : ∀ {j : Nat} {q : Pr × Value}, L[j]? = some q → q ∈ L := fun e => List.mem_of_getElem? e
  refine call_dict_pairsH (knd := tupleKind (mixKind X.prog X.w)) (ps := L.map fun q => (q.1.2.2.1, q.1.2.1, q.2)) (PairArg.tuple t (L.map fun q => Value.ref q.1.1).toArray (fun j => ((L[j]?).map fun q => q.1.1).getD 0) (L.map fun q => (Value.ref q.1.2.1, q.2))) (I.ok.hd hc)
    (by show X.A.in1.in1.units < cLine; simp; omega) ⟨⟨o', n, ho, hcls, hd, hdat⟩, by simp, fun j k v e => ?_⟩ ⟨by simp, fun i key v e => ?_⟩ (fun h' kp x hx => ?_) (by rw [List.length_map]; rw [List.length_map] at hz; exact hz) fun h' tk dd kp => ?_
  · rw [List.getElem?_map] at e
    cases z : L[j]? with
    | none => rw [z] at e; cases e
    | some q =>
      rw [z] at e
      cases e
      refine ⟨by simp [z], .inl ?_⟩
      have i2 : s.heap.IsTuple q.1.1 #[Value.ref q.1.2.1, q.2] := (hL q (mem z)).2.1
      simpa [z] using i2
  · have e : (L.map fun q => (Value.ref q.1.2.1, q.2))[i]? = some (key, v) := e
    rw [List.getElem?_map] at e
    cases z : L[i]? with
    | none => rw [z] at e; cases e
    | some q =>
      rw [z] at e
      cases e
      exact ⟨q.1.2.2.1, q.1.2.1, by rw [List.getElem?_map, z]; rfl, rfl⟩
  · obtain ⟨q, hq, rfl⟩ := List.mem_map.mp hx
    obtain ⟨o, its, n, e1, e2⟩ := key_of (P := X.prog) (w := X.w) I.hok (hL q hq).2.2.2
    exact ⟨o, its, n, kp _ o (Nat.ne_of_lt (Heap.lt_size e1)) (fun z => nomatch z) e1, e2⟩
  · rw [List.map_map] at q
    have hlen : (mergeT [] (L.map fun q => (q.1.2.2.1, q.1.2.2.2))).length ≤ sizeLine := by
      have := length_mergeT (L.map fun q => (q.1.2.2.1, q.1.2.2.2)) []
      simp only [List.length_map, List.length_nil] at this hz
      omega
    have rel := kt_merge (H := upd H s.heap.objs.size (.dT (mergeT [] (L.map fun q => (q.1.2.2.1, q.1.2.2.2))))) (L := L) (acc := []) (ax := []) .nil fun q hq => ⟨by rw [upd_ne (ne_of_none (hL q hq).2.2.2 hn)]; exact (hL q hq).2.2.2, (hL q hq).1⟩
    have notSys : (s.heap.objs.size == sysModules) = false := beq_eq_false_iff_ne.mpr (Nat.ne_of_gt big)
    exact ⟨.ref s.heap.objs.size, _, I.laid (t' := tk) (fun b o e => kp b o (fun z => nomatch z) e) (Nat.le_refl _) (dT_obj hlen notSys rel dd), rfl, q _ hn⟩
end
end Wk

namespace Wk
open PySem PySem.Spec L2
section
variable {X : Cx}
/-- a comprehension's store into a dict with tuple keys -/
theorem putT_ok {pins : List (Addr × Obj)} {σ : L2.St} {H : Hp} {s : Shared} {E : Value → Shared → Prop} {D b : Addr} {kvs : List (List Key × V)} {k : List Key} {v : V} {r : Value} {Q : Unit → Shared → Prop} (hu : X.A.units < cLine) (I : Inv X pins σ H s)
    (hD : H D = some (.dT kvs)) (hb : H b = some (.tup (k.map kV))) (hz : kvs.length < sizeLine) (rv : RelV v r) (h : ∀ s', Inv X pins σ (upd H D (.dT (putK kvs k v))) s' → Q () s') : wpAny (model X.prog X.w) X.A (dictSet D (.ref b) r) Q E s := by
  obtain ⟨_, hd, xs, rel, dd⟩ := dt_of I.hok hD
  have len : xs.length = kvs.length := (Paired.length rel).symm
  have few : (putK kvs k v).length ≤ sizeLine := by have := length_putK kvs k v; omega
  have key := key_of (P := X.prog) (w := X.w) I.hok hb
  have I1 : Inv X pins σ H { s with toks := s.toks + (k.length + 1) } := I.tok _
  unfold dictSet
  refine wpAny_holding (wpAny_bind (wpAny_pyHash_tuple hu key ?_))
  refine wpAny_dictSetHashed_heap (knd := tupleKind (mixKind X.prog X.w)) (s := { s with toks := s.toks + (k.length + 1) }) (hsz := by omega) hu key dd fun h' dd' hs => h _ ?_
  obtain ⟨q, es, ep, hq, _⟩ := id dd'
  refine d_write (t' := s.toks + (k.length + 1)) I1 (by rw [hD]; exact True.intro) hs ⟨q, hq⟩ (dT_obj few hd ((rel.put k hb rv).keeps fun c ys ec => ?_) dd')
  rw [upd_ne (ne_of ec hD fun z => nomatch z)]
  exact ec

/-- {key: value for target in iter}, the keys tuples: D is the new dict -/
def tDcT (wi : TI) (g : TG) (tk tv : TE) (vs : List Nat) : TE := fun σ H Q => wi σ H fun J H1 => ∀ D, H1 D = none → ∃ W : Nat → Nat → Hp → Prop, (∃ m, W 0 m (upd H1 D (.dT []))) ∧ ∀ i m H2, W i m H2 →
  (J.stop i H2 ∧ Q (.ref D) H2) ∨ (J.go i H2 ∧ ∃ Nx : Hp → Prop, (∀ H', Nx H' → ∃ m', m' < m ∧ W (i + 1) m' H') ∧ ∀ x H', J.yld i H2 x H' → g x (wipe σ vs) H' fun σ3 H3 => wipe σ3 vs = wipe σ vs ∧
    tk σ3 H3 fun y H4 => tv σ3 H4 fun z H5 => ∃ (kvs : List (List Key × V)) (k : List Key) (b : Addr), y = .ref b ∧ H5 b = some (.tup (k.map kV)) ∧ H5 D = some (.dT kvs) ∧ kvs.length < sizeLine ∧ Nx (upd H5 D (.dT (putK kvs k z))))

theorem pe_dcT {kx vx tg iter : Expr} {scope : Scope} {own : List (Str × Nat)} {pos : Pos} {wi : TI} {g : TG} {tk tv : TE} (hu : X.A.units < cLine) (hc : X.calm = true) (hN : X.N.Nodup) (hi : PI X tg iter wi) (ok : BlkOk X.N X.env.scope scope own)
    (hg : ∀ (s : Shared) (H : Hp) (C : Addr) (cl : List (Str × Addr)) (fp : List Addr), PG (X.blk s H scope (compEnvC scope cl C X.env) fp) tg g)
    (hk : ∀ (s : Shared) (H : Hp) (C : Addr) (cl : List (Str × Addr)) (fp : List Addr), PE (X.blk s H scope (compEnvC scope cl C X.env) fp) kx tk)
    (he : ∀ (s : Shared) (H : Hp) (C : Addr) (cl : List (Str × Addr)) (fp : List Addr), PE (X.blk s H scope (compEnvC scope cl C X.env) fp) vx tv) (hs : ∀ x, foldedSetIterable iter X.env x = pure x := by intro _; rfl) :
    PE X (.DictComp kx vx [⟨tg, iter, [], 0⟩] scope pos) (tDcT wi g tk tv (own.map (·.2))) := by
  refine ⟨fun pins s σ H Q I h => ?_⟩
  rw [arm_eval_DictComp]
  have captured : ∀ y ∈ scope.names, y.2 = .free → ∃ c, X.env.cells.lookup y.1 = some c := fun y hy e => (ok.free y hy e).elim (fun k => I.ok.has _ (.inl k)) fun k => I.ok.has _ (.inr k)
  refine wpAny_comprehension_free (use := none) rfl hs (closure_ok captured) ok.kind (fun y hy e => by rw [ok.uniq y hy, e]) (thn (hi.run pins s σ H _ I h) fun xv s1 hx => thn hx fun itv s2 h2 => ?_)
  obtain ⟨it, fp, tn, J, H2, rfl, I2, T, st2, f2, q⟩ := h2
  refine wpAny_newObj_type (newEnv_comp ?_)
  generalize hD : s2.heap.objs.size = D
  have fresh : H2 D = none := I2.hok.fresh (Nat.le_of_eq hD)
  obtain ⟨W, ⟨m0, w0⟩, turn⟩ := q D fresh
  generalize hs3 : ({ s2 with heap := s2.heap.push { cls := .type "dict", data := .dict #[] } } : Shared) = s3
  have old3 : ∀ b o, s2.heap.get? b = some o → s3.heap.get? b = some o := fun b o e => by rw [← hs3]; exact Heap.get?_push_of_some _ e
  have size3 : s3.heap.objs.size = s2.heap.objs.size + 1 := by rw [← hs3]; exact Heap.size_push ..
  have I3 : Inv X pins σ (upd H2 D (.dT [])) s3 := by
    have made := dt_empty (P := X.prog) (w := X.w) (H := upd H2 D (.dT [])) s2.heap I2.big
    rw [hD] at made
    rw [← hs3]
    exact I2.laid (t' := s2.toks) (fun b o e => Heap.get?_push_of_some _ e) (Nat.le_of_eq hD) made
  have f3 : ∀ b ∈ fp, FpOk X pins (upd H2 D (.dT [])) b ∧ b < s3.heap.objs.size := fun b hb => by
    obtain ⟨o, e, _⟩ := T.obj _ _ st2 b hb
    have lt := Heap.lt_size e
    exact ⟨⟨(upd_ne (by rw [← hD]; exact Nat.ne_of_lt lt)).trans (f2 b hb).1, (f2 b hb).2⟩, by rw [size3]; exact Nat.lt_succ_of_lt lt⟩
  have st3 : tn 0 s3.heap := T.keep _ _ _ st2 fun b _ o e => old3 b o e
  have I4 := block_start I3 ok hN f3
  show codeAny _ _ (.compStart (.DictComp kx vx [⟨tg, iter, [], 0⟩] scope pos) 0 (.ref it) (.ref D) (compEnvC scope (cellsFrom (s3.heap.objs.size + 1) scope.names (cloFrom X.env.cells scope.names [])) s3.heap.objs.size X.env)) (compPost (model X.prog X.w) X.A X.xe none _ (.ref D) s3.heap.objs.size) { s3 with heap := pushCells (s3.heap.push { cls := .type "dict", data := .dict #[] }) scope.names }
  have pg := hg s3 (upd H2 D (.dT [])) s3.heap.objs.size (cellsFrom (s3.heap.objs.size + 1) scope.names (cloFrom X.env.cells scope.names [])) fp
  have pk := hk s3 (upd H2 D (.dT [])) s3.heap.objs.size (cellsFrom (s3.heap.objs.size + 1) scope.names (cloFrom X.env.cells scope.names [])) fp
  have pe := he s3 (upd H2 D (.dT [])) s3.heap.objs.size (cellsFrom (s3.heap.objs.size + 1) scope.names (cloFrom X.env.cells scope.names [])) fp
  generalize hce : compEnvC scope (cellsFrom (s3.heap.objs.size + 1) scope.names (cloFrom X.env.cells scope.names [])) s3.heap.objs.size X.env = ce at I4 pg pk pe ⊢
  have at3 : ce.locals = s3.heap.objs.size := by rw [← hce]; rfl
  generalize hs4 : ({ s3 with heap := pushCells (s3.heap.push { cls := .type "dict", data := .dict #[] }) scope.names } : Shared) = s4 at I4 ⊢
  have st4 : tn 0 s4.heap := T.keep _ _ _ st3 fun b _ o e => by rw [← hs4]; exact pushCells_keeps _ _ _ _ (Heap.get?_push_of_some _ e)
  have free3 : ∀ b ∈ fp, (upd H2 D (.dT [])) b = none := fun b hb => (f3 b hb).1.1
  generalize upd H2 D (.dT []) = H3 at I3 I4 pg pk pe w0 f3 free3
  -- the iterator's records in the block
  have recs : ∀ {σ' : L2.St} {H' : Hp} {s' : Shared}, Inv (X.blk s3 H3 scope ce fp) [] σ' H' s' → (∀ b ∈ fp, H' b = none) → ∀ b ∈ fp, FpOk (X.blk s3 H3 scope ce fp) [] H' b := fun I' hn b hb =>
    ⟨hn b hb, (I'.ok.exf b hb).1, I'.ok.exfs b hb, .inl hb, (I'.ok.exf b hb).2, fun p hp => nomatch (show p ∈ ([] : List (Addr × Obj)) from hp)⟩
  have loop : codeAny (model X.prog X.w) X.A (.compLoop (.DictComp kx vx [⟨tg, iter, [], 0⟩] scope pos) 0 (.ref it) (.ref D) ce) (compPost (model X.prog X.w) X.A X.xe none (EP X pins σ Q) (.ref D) s3.heap.objs.size) s4 := by
    refine compLoop_anyD (fun n s' => ∃ i H', Inv (X.blk s3 H3 scope ce fp) [] (wipe σ (own.map (·.2))) H' s' ∧ tn i s'.heap ∧ (∀ b ∈ fp, H' b = none) ∧ W i n H') ?_ m0 ⟨0, H3, I4, st4, free3, w0⟩
    intro n s5 ⟨i, H5, I5, st5, n5, w5⟩
    rcases turn i n H5 w5 with ⟨stop, fin⟩ | ⟨go, Nx, back, step⟩
    · refine thnF (T.done (X.blk s3 H3 scope ce fp) rfl rfl rfl hc i [] s5 _ H5 (fun _ _ => False) I5 (recs I5 n5) st5 stop) fun r s6 ⟨hr, I6⟩ => ?_
      subst hr
      have out : Inv X pins σ H5 s6 := I3.call' (ch := fp) I6.os I6.base I6.hok I6.bare fun b hb =>
        let f := (f3 b hb).1
        ⟨f.2.2.2.1, f.2.1, f.2.2.2.2.1, f.2.2.2.2.2⟩
      have nC : H5 ce.locals = none := I6.free
      obtain ⟨m, hn, _⟩ := I6.loc
      have hn : s6.heap.Ns ce.locals m := hn
      rw [at3] at hn nC
      obtain ⟨g0, g1, g2, g3, g4, g5⟩ : FpOk X pins H5 s3.heap.objs.size := I3.fpOk (Nat.le_refl _) nC
      exact ⟨m, hn, fun h'' sb => ⟨.ref D, H5, out.turned (t' := s6.toks) (fun b o hb e => (sb.2 b hb).trans e) g0 g1 g3 g4 g5, rfl, fin⟩⟩
    · refine thnF (T.item (X.blk s3 H3 scope ce fp) rfl rfl rfl hc i [] s5 _ H5 (fun _ _ => False) I5 (recs I5 n5) st5 go) fun r s6 ⟨u, hr, h6⟩ => ?_
      subst hr
      refine thnF h6 fun _ s7 ⟨x, H7, I7, r7, y7, st7, n7⟩ => ?_
      refine thnF (pg.run _ s7 _ H7 x u _ (I7.pinned (recs I7 n7) (T.obj _ _ st7)) r7 (step x H7 y7)) fun _ s8 ⟨σ8, H8, I8, hw, q8⟩ => ?_
      rw [List.forIn_nil]
      refine wpAny_pure ?_
      simp only [if_true]
      refine thnF (pk.run _ s8 σ8 H8 _ I8 q8) fun z s9 ⟨yk, H9, I9, r9, q9⟩ => thnF (pe.run _ s9 σ8 H9 _ I9 q9) fun z2 s10 ⟨yv, H10, I10, r10, kvs, k, b, ek, eb, eD, few, nx⟩ => ?_
      subst ek
      cases (show z = Value.ref b from r9)
      refine putT_ok (X := X.blk s3 H3 scope ce fp) hu I10 eD eb few r10 fun s11 I11 => ?_
      obtain ⟨m', hm, w'⟩ := back _ nx
      have kept : ∀ b ∈ fp, ∀ o, s7.heap.get? b = some o → s11.heap.get? b = some o ∧ (upd H10 D (.dT (putK kvs k yv))) b = none := fun b hb o e =>
        let z := I11.pin (b, o) (List.mem_append_right _ (List.mem_append_right _ (mem_pinsAt hb e)))
        ⟨z.1, z.2.1⟩
      refine ⟨m', hm, i + 1, _, (I11.unpinned (pins := [])).weak (by rw [← hw, wipe_length]) (fun j v e => ?_), T.keep _ _ _ st7 fun b hb o e => (kept b hb o e).1, fun b hb => ?_, w'⟩
      · rw [← hw] at e
        exact (wipe_some e).1
      · obtain ⟨o, e, _⟩ := T.obj _ _ st7 b hb
        exact (kept b hb o e).2
  exact codeAny_compStart_dict loop (T.self X.A 0 _ _ _ st4 loop)
end
end Wk

namespace Wk
open PySem L2
/-! ### the text by places -/
def topS (i : Nat) : Stmt := PySem.Challenge.pw_calltowers_k10_whole_judge_of_rests.main.body.getD i (.Pass ⟨0, 0, 0, 0⟩)
abbrev sInit : Stmt := inClass (topS 1) 0
abbrev sFalls : Stmt := inClass (topS 1) 1
abbrev sEndsOf : Stmt := inClass (topS 1) 2
abbrev sAfter : Stmt := inClass (topS 1) 3
abbrev sHolds : Stmt := inClass (topS 1) 4
abbrev sTakes : Stmt := topS 2
abbrev sStart : Stmt := topS 4
abbrev sDraw : Stmt := topS 5
abbrev sPick : Stmt := topS 6
abbrev sIs : Stmt := topS 8
abbrev sPush : Stmt := topS 9
abbrev sOnce : Stmt := topS 11
abbrev sEnds : Stmt := topS 12
abbrev sSteps : Stmt := topS 13
abbrev sRight : Stmt := topS 14
abbrev sTakesL : Stmt := topS 15
abbrev sLaw : Stmt := topS 16

/-! ### heaps -/
theorem same_new {H : Hp} {p : Addr} {o : HO} (h : H p = none) : Same H (upd H p o) := fun b x e => by
  rw [upd_ne (ne_of_none e h)]
  exact e
/-- all tuples stay -/
def TSame (H H' : Hp) : Prop := ∀ b xs, H b = some (.tup xs) → H' b = some (.tup xs)
theorem TSame.refl (H : Hp) : TSame H H := fun _ _ h => h
theorem TSame.trans {H H1 H2 : Hp} (a : TSame H H1) (b : TSame H1 H2) : TSame H H2 := fun c o h => b c o (a c o h)
theorem _root_.L2.Same.ts {H H' : Hp} (s : Same H H') : TSame H H' := fun b xs h => s b _ h
theorem ts_put {H : Hp} {l : Addr} {o o' : HO} (h : H l = some o) (n : ∀ xs, o ≠ .tup xs) : TSame H (upd H l o') := fun b xs e => by
  rw [upd_ne (fun z => by rw [z, h] at e; cases e; exact n xs rfl)]
  exact e
/-- an object that was not there at H0 is written -/
theorem same_put {H0 H : Hp} {l : Addr} {o : HO} (s : Same H0 H) (n : H0 l = none) : Same H0 (upd H l o) := fun b x e => by
  rw [upd_ne (ne_of_none e n)]
  exact s b x e
/-- a new object -/
theorem alloc {H : Hp} {o : HO} {Q : V → Hp → Prop} (h : ∀ p H1, Same H H1 → H p = none → H1 p = some o → (∀ b, b ≠ p → H1 b = H b) → Q (.ref p) H1) : ∀ p, H p = none → Q (.ref p) (upd H p o) :=
  fun p n => h p _ (same_new n) n upd_same fun _ ne => upd_ne ne
/-- all but one object stay -/
def But (st : Addr) (H H' : Hp) : Prop := ∀ b o, b ≠ st → H b = some o → H' b = some o
theorem But.refl (st : Addr) (H : Hp) : But st H H := fun _ _ _ h => h
theorem But.trans {st : Addr} {H H1 H2 : Hp} (a : But st H H1) (b : But st H1 H2) : But st H H2 := fun c o n h => b c o n (a c o n h)
theorem But.of {st : Addr} {H H1 : Hp} (a : Same H H1) : But st H H1 := fun c o _ h => a c o h

/-! ### the data -/
abbrev Hd := Int × Str
structure Rl where
  p : Int
  s : Str
  q : Int
  w : List Str
  m : Int
/-- the symbols -/
def okS (x : Str) : Prop := x = "a" ∨ x = "b"
theorem okS.str {x : Str} (h : okS x) : PyData.strOk x = true := by
  rcases h with rfl | rfl <;> decide +kernel
def HdV (H : Hp) (v : V) (h : Hd) : Prop := okS h.2 ∧ ∃ a, v = .ref a ∧ H a = some (.tup [.int h.1, .str h.2])
def EnV (H : Hp) (v : V) (e : En) : Prop := okS e.2.1 ∧ ∃ a, v = .ref a ∧ H a = some (.tup [.int e.1, .str e.2.1, .int e.2.2.1, .int e.2.2.2])
abbrev Sp2 := Hd × Int
/-- a pair of a head and a number -/
def StV (H : Hp) (v : V) (x : Sp2) : Prop := okS x.1.2 ∧ ∃ a b, v = .ref a ∧ H a = some (.tup [.ref b, .int x.2]) ∧ H b = some (.tup [.int x.1.1, .str x.1.2])
def RlV (H : Hp) (v : V) (r : Rl) : Prop := (okS r.s ∧ (∀ x ∈ r.w, okS x) ∧ r.w.length ≤ 2) ∧ ∃ a b, v = .ref a ∧ H a = some (.tup [.int r.p, .str r.s, .int r.q, .ref b, .int r.m]) ∧ H b = some (.tup (r.w.map V.str))
theorem HdV.ts {H H' : Hp} {v : V} {h : Hd} (x : HdV H v h) (t : TSame H H') : HdV H' v h := let ⟨o, a, e, q⟩ := x; ⟨o, a, e, t _ _ q⟩
theorem EnV.ts {H H' : Hp} {v : V} {h : En} (x : EnV H v h) (t : TSame H H') : EnV H' v h := let ⟨o, a, e, q⟩ := x; ⟨o, a, e, t _ _ q⟩
theorem StV.ts {H H' : Hp} {v : V} {h : Sp2} (x : StV H v h) (t : TSame H H') : StV H' v h := let ⟨o, a, b, e, q, r⟩ := x; ⟨o, a, b, e, t _ _ q, t _ _ r⟩
theorem RlV.ts {H H' : Hp} {v : V} {h : Rl} (x : RlV H v h) (t : TSame H H') : RlV H' v h := let ⟨o, a, b, e, q, r⟩ := x; ⟨o, a, b, e, t _ _ q, t _ _ r⟩

/-- values that stand for data, one by one -/
abbrev Rep {α : Type} (R : Hp → V → α → Prop) (H : Hp) (xs : List V) (ds : List α) : Prop := Paired (fun v d => R H v d) xs ds
section
variable {α : Type} {R : Hp → V → α → Prop} {H H' : Hp} {xs ys : List V} {ds es : List α}
theorem Rep.len (r : Rep R H xs ds) : xs.length = ds.length := Paired.length r
theorem rep_mono (h : ∀ v d, R H v d → R H' v d) (r : Rep R H xs ds) : Rep R H' xs ds := Paired.mapP r h
theorem rep_app : ∀ {xs : List V} {ds : List α}, Rep R H xs ds → Rep R H ys es → Rep R H (xs ++ ys) (ds ++ es)
  | _, _, .nil, h => h
  | _, _, .cons a t, h => .cons a (rep_app t h)
theorem rep_snoc {v : V} {d : α} (r : Rep R H xs ds) (h : R H v d) : Rep R H (xs ++ [v]) (ds ++ [d]) := rep_app r (.cons h .nil)
theorem rep_get : ∀ {xs : List V} {ds : List α} {i : Nat} {v : V}, Rep R H xs ds → xs[i]? = some v → ∃ d, ds[i]? = some d ∧ R H v d
  | _, _, 0, v, .cons a _, e => by cases e; exact ⟨_, rfl, a⟩
  | _, _, i + 1, v, .cons _ t, e => rep_get (i := i) t e
theorem rep_at : ∀ {xs : List V} {ds : List α} {i : Nat} {d : α}, Rep R H xs ds → ds[i]? = some d → ∃ v, xs[i]? = some v ∧ R H v d
  | _, _, 0, v, .cons a _, e => by cases e; exact ⟨_, rfl, a⟩
  | _, _, i + 1, v, .cons _ t, e => rep_at (i := i) t e
theorem rep_erase : ∀ {xs : List V} {ds : List α} (i : Nat), Rep R H xs ds → Rep R H (xs.eraseIdx i) (ds.eraseIdx i)
  | _, _, _, .nil => .nil
  | _, _, 0, .cons _ t => t
  | _, _, i + 1, .cons a t => .cons a (rep_erase i t)
theorem rep_set {v : V} {d : α} (h : R H v d) : ∀ {xs : List V} {ds : List α} (i : Nat), Rep R H xs ds → Rep R H (xs.set i v) (ds.set i d)
  | _, _, _, .nil => .nil
  | _, _, 0, .cons _ t => .cons h t
  | _, _, i + 1, .cons a t => .cons a (rep_set h i t)
end

/-! ### data that == tells apart -/
def hdD (h : Hd) : PyData := .tuple [.int h.1, .str h.2]
def stD (x : Sp2) : PyData := .tuple [hdD x.1, .int x.2]
section
variable {K : PySem.W.Frag} {H : Hp} {v : V}
theorem sqt {a : Addr} {xs : List V} (h : H a = some (.tup xs)) : SqT K H a xs := .inl (.inl h)
theorem sql {a : Addr} {xs : List V} (h : H a = some (.lst xs)) : SqL K H a xs := .inl (.inl h)
theorem HdV.dp {h : Hd} (x : HdV H v h) : Dp K H v (hdD h) := by
  obtain ⟨_, a, rfl, e⟩ := x
  exact .tup (sqt e) (.cons (.int _) (.cons (.str _) .nil))
theorem EnV.dp {h : En} (x : EnV H v h) : Dp K H v (enD h) := by
  obtain ⟨_, a, rfl, e⟩ := x
  exact .tup (sqt e) (.cons (.int _) (.cons (.str _) (.cons (.int _) (.cons (.int _) .nil))))
theorem StV.dp {h : Sp2} (x : StV H v h) : Dp K H v (stD h) := by
  obtain ⟨o, a, b, rfl, e, f⟩ := x
  exact .tup (sqt e) (.cons (HdV.dp (h := h.1) ⟨o, b, rfl, f⟩) (.cons (.int _) .nil))
end
theorem hdD_eqv (a b : Hd) : PyData.eqv (hdD a) (hdD b) = decide (a = b) := by
  obtain ⟨a1, a2⟩ := a
  obtain ⟨b1, b2⟩ := b
  rw [Bool.eq_iff_iff]
  simp [hdD, PyData.eqv, PyData.eqvAll]
theorem enD_eqv (a b : En) : PyData.eqv (enD a) (enD b) = decide (a = b) := by
  obtain ⟨a1, a2, a3, a4⟩ := a
  obtain ⟨b1, b2, b3, b4⟩ := b
  rw [Bool.eq_iff_iff]
  simp [enD, PyData.eqv, PyData.eqvAll]
theorem stD_eqv (a b : Sp2) : PyData.eqv (stD a) (stD b) = decide (a = b) := by
  obtain ⟨a1, a2⟩ := a
  obtain ⟨b1, b2⟩ := b
  rw [Bool.eq_iff_iff]
  simp [stD, PyData.eqv, PyData.eqvAll, hdD_eqv]
theorem hdD_sh (a : Hd) (o : okS a.2) : SeqAt.shaped (hdD a) = true := by
  simp [o.str, hdD, SeqAt.shaped, PyData.depth, PyData.depthAll, PyData.canLay0, PyData.canLayAll0]
theorem enD_sh (a : En) (o : okS a.2.1) : SeqAt.shaped (enD a) = true := by
  simp [o.str, enD, SeqAt.shaped, PyData.depth, PyData.depthAll, PyData.canLay0, PyData.canLayAll0]
theorem stD_sh (a : Sp2) (o : okS a.1.2) : SeqAt.shaped (stD a) = true := by
  simp [o.str, stD, hdD, SeqAt.shaped, PyData.depth, PyData.depthAll, PyData.canLay0, PyData.canLayAll0]
/-- lists of such -/
theorem all_sh {ds : List PyData} (h : ∀ d ∈ ds, SeqAt.shaped d = true ∧ d.depth ≤ 4) : SeqAt.shaped (.list ds) = true ∧ SeqAt.shaped (.tuple ds) = true := by
  have go : PyData.canLayAll0 ds = true ∧ PyData.depthAll ds ≤ 4 := by
    induction ds with
    | nil => simp [PyData.canLayAll0, PyData.depthAll]
    | cons d ds ih =>
      have h1 := h d List.mem_cons_self
      have h2 := ih fun x m => h x (List.mem_cons_of_mem _ m)
      have h3 := SeqAt.canLay_of_shaped h1.1
      simp only [PyData.canLayAll0, PyData.depthAll, h3, h2.1, Bool.and_self, true_and]
      omega
  have d1 : PyData.depth (.list ds) ≤ 64 := by simp only [PyData.depth]; omega
  have d2 : PyData.depth (.tuple ds) ≤ 64 := by simp only [PyData.depth]; omega
  constructor
  · show (PyData.canLay0 (.list ds) && decide (PyData.depth (.list ds) ≤ 64)) = true
    rw [decide_eq_true d1, Bool.and_true]
    simp only [PyData.canLay0]
    exact go.1
  · show (PyData.canLay0 (.tuple ds) && decide (PyData.depth (.tuple ds) ≤ 64)) = true
    rw [decide_eq_true d2, Bool.and_true]
    simp only [PyData.canLay0]
    exact go.1
/-- a kind of tuples: what stands for them, as data -/
structure Kind (α : Type) [DecidableEq α] where
  R : Hp → V → α → Prop
  enc : α → PyData
  ts : ∀ {H H' v d}, R H v d → TSame H H' → R H' v d
  dp : ∀ {K H v d}, R H v d → Dp K H v (enc d)
  eqv : ∀ a b, PyData.eqv (enc a) (enc b) = decide (a = b)
  sh : ∀ {H v a}, R H v a → SeqAt.shaped (enc a) = true ∧ (enc a).depth ≤ 4
def kHd : Kind Hd := ⟨HdV, hdD, HdV.ts, HdV.dp, hdD_eqv, fun {_ _ a} r => ⟨hdD_sh a r.1, by simp [hdD, PyData.depth, PyData.depthAll]⟩⟩
def kEn : Kind En := ⟨EnV, enD, EnV.ts, EnV.dp, enD_eqv, fun {_ _ a} r => ⟨enD_sh a r.1, by simp [enD, PyData.depth, PyData.depthAll]⟩⟩
def kSt : Kind Sp2 := ⟨StV, stD, StV.ts, StV.dp, stD_eqv, fun {_ _ a} r => ⟨stD_sh a r.1, by simp [stD, hdD, PyData.depth, PyData.depthAll]⟩⟩
section
variable {α : Type} [DecidableEq α] (k : Kind α) {K : PySem.W.Frag} {H : Hp} {xs : List V} {ds : List α}
theorem Kind.all {xs : List V} {ds : List α} (r : Rep k.R H xs ds) : DpAll K H xs (ds.map k.enc) := by
  induction r with
  | nil => exact .nil
  | cons a _ ih => exact .cons (k.dp a) ih
theorem rep_mem {R : Hp → V → α → Prop} {a : α} : ∀ {xs : List V} {ds : List α}, Rep R H xs ds → a ∈ ds → ∃ v, v ∈ xs ∧ R H v a
  | _, _, .cons h t, m => by
    rcases List.mem_cons.mp m with z | z
    · exact ⟨_, List.mem_cons_self, by rw [z]; exact h⟩
    · obtain ⟨v, hv, r⟩ := rep_mem t z
      exact ⟨v, List.mem_cons_of_mem _ hv, r⟩
theorem Kind.lsh {xs : List V} {ds : List α} (r : Rep k.R H xs ds) : SeqAt.shaped (.list (ds.map k.enc)) = true ∧ SeqAt.shaped (.tuple (ds.map k.enc)) = true := all_sh fun d m => by
  obtain ⟨a, ha, rfl⟩ := List.mem_map.mp m
  obtain ⟨v, _, x⟩ := rep_mem r ha
  exact k.sh x
theorem Kind.any (ds : List α) (a : α) : ((ds.map k.enc).any fun z => PyData.eqv z (k.enc a)) = decide (a ∈ ds) := by
  rw [List.any_map, Bool.eq_iff_iff, List.any_eq_true, decide_eq_true_eq]
  constructor
  · rintro ⟨x, hx, e⟩
    simp only [Function.comp, k.eqv, decide_eq_true_eq] at e
    rw [← e]
    exact hx
  · exact fun h => ⟨a, h, by simp only [Function.comp, k.eqv, decide_true]⟩
end
/-- x in xs, x not in xs: a list or a tuple of such -/
def rInK {α : Type} [DecidableEq α] (k : Kind α) (K : PySem.W.Frag) (neg : Bool) : R2 := fun x y H Q => ∃ (p : Addr) (a : α) (xs : List V) (ds : List α), y = .ref p ∧ (SqL K H p xs ∨ SqT K H p xs) ∧ k.R H x a ∧ Rep k.R H xs ds ∧ Q (.bl (if neg then !decide (a ∈ ds) else decide (a ∈ ds))) H
section
variable {X : Cx} {α : Type} [DecidableEq α] (k : Kind α)
theorem op_inK (hu : X.A.units + 65 < cLine) : OpR X (compareOp .In) (rInK k X.K false) := by
  intro pins s σ H x y v u Q I rx ry h
  obtain ⟨p, a, xs, ds, rfl, hs, ha, hr, q⟩ := h
  obtain ⟨as, r1⟩ := Dp.reads I (k.enc a) x v (k.dp ha) rx
  have fin : EP X pins σ Q (.bool ((ds.map k.enc).any fun z => PyData.eqv z (k.enc a))) s := by
    rw [k.any]
    exact ⟨.bl _, H, I, rfl, q⟩
  rcases hs with hs | hs
  · obtain ⟨bs, r2⟩ := Dp.reads I (.list (ds.map k.enc)) (.ref p) u (.lst hs (k.all hr)) ry
    exact SeqAt.in_list_reads r2 r1 (SeqAt.canLay_of_shaped (k.lsh hr).1) (SeqAt.canLay_of_shaped (k.sh ha).1) (PyProof.Rows.room_in_shaped (k.sh ha).1 hu) fin
  · obtain ⟨bs, r2⟩ := Dp.reads I (.tuple (ds.map k.enc)) (.ref p) u (.tup hs (k.all hr)) ry
    exact SeqAt.in_tuple_reads r2 r1 (SeqAt.canLay_of_shaped (k.lsh hr).2) (SeqAt.canLay_of_shaped (k.sh ha).1) (PyProof.Rows.room_in_shaped (k.sh ha).1 hu) fin
theorem op_notInK (hu : X.A.units + 65 < cLine) : OpR X (compareOp .NotIn) (rInK k X.K true) := by
  intro pins s σ H x y v u Q I rx ry h
  obtain ⟨p, a, xs, ds, rfl, hs, ha, hr, q⟩ := h
  obtain ⟨as, r1⟩ := Dp.reads I (k.enc a) x v (k.dp ha) rx
  have fin : EP X pins σ Q (.bool (!((ds.map k.enc).any fun z => PyData.eqv z (k.enc a)))) s := by
    rw [k.any]
    exact ⟨.bl _, H, I, rfl, q⟩
  rcases hs with hs | hs
  · obtain ⟨bs, r2⟩ := Dp.reads I (.list (ds.map k.enc)) (.ref p) u (.lst hs (k.all hr)) ry
    exact SeqAt.notIn_list_reads r2 r1 (SeqAt.canLay_of_shaped (k.lsh hr).1) (SeqAt.canLay_of_shaped (k.sh ha).1) (PyProof.Rows.room_in_shaped (k.sh ha).1 hu) fin
  · obtain ⟨bs, r2⟩ := Dp.reads I (.tuple (ds.map k.enc)) (.ref p) u (.tup hs (k.all hr)) ry
    exact SeqAt.notIn_tuple_reads r2 r1 (SeqAt.canLay_of_shaped (k.lsh hr).2) (SeqAt.canLay_of_shaped (k.sh ha).1) (PyProof.Rows.room_in_shaped (k.sh ha).1 hu) fin
/-- a == b of two such -/
def rEqK {α : Type} [DecidableEq α] (k : Kind α) : R2 := fun x y H Q => ∃ a b, k.R H x a ∧ k.R H y b ∧ Q (.bl (decide (a = b))) H
theorem op_eqK (hu : X.A.units + 64 < cLine) : OpR X (compareOp .Eq) (rEqK k) := by
  intro pins s σ H x y v u Q I rx ry h
  obtain ⟨a, b, ha, hb, q⟩ := h
  refine op_eqD hu pins s σ H x y v u Q I rx ry ⟨k.enc a, k.enc b, k.dp ha, k.dp hb, (k.sh ha).1, (k.sh hb).1, ?_⟩
  rw [k.eqv]
  exact q
/-! the same rules, the written part named (within comprehensions) -/
theorem ixT (K : PySem.W.Frag) {X : Cx} (h : X.K = K := by rfl) : IxR X (rIxT K) := h ▸ ix_tup
theorem ixL (K : PySem.W.Frag) {X : Cx} (h : X.K = K := by rfl) : IxR X (rIxL K) := h ▸ ix_list
theorem slT (K : PySem.W.Frag) {X : Cx} (h : X.K = K := by rfl) : SlR X (rSlT K) := h ▸ sl_tup
theorem opIn (K : PySem.W.Frag) {X : Cx} (hu : X.A.units + 65 < cLine) (h : X.K = K := by rfl) : OpR X (compareOp .In) (rInK k K false) := h ▸ op_inK k hu
theorem opNotIn (K : PySem.W.Frag) {X : Cx} (hu : X.A.units + 65 < cLine) (h : X.K = K := by rfl) : OpR X (compareOp .NotIn) (rInK k K true) := h ▸ op_notInK k hu
end
end Wk

namespace Wk
open PySem L2

theorem small_line {n : Nat} (h : n ≤ 1000000) : n < sizeLine := by rw [sizeLine_eq]; omega
theorem same_seqT {K : PySem.W.Frag} {H H' : Hp} {a : Addr} {xs : List V} (e : Same H H') (h : SqT K H a xs) : SqT K H' a xs := by
  rcases h with (h | ⟨o, h⟩) | h
  · exact .inl (.inl (e _ _ h))
  · exact .inl (.inr ⟨o, e _ _ h⟩)
  · exact .inr h

section
variable {K : PySem.W.Frag} {a : Addr} {xs : List V} {g : TG} {tt : TT} {te : TE} {vs : List Nat} {σ : L2.St} {H1 : Hp} {D : Addr} {Qd : Hp → Prop} {α β : Type} {A : Hp → V → α → Prop} {B : Hp → V → β → Prop} {ds : List α} {f : α → Option β}
/-- one turn of a comprehension that leaves all that stood -/
abbrev LcTurn (g : TG) (tt : TT) (te : TE) (vs : List Nat) (σ : L2.St) (H1 : Hp) (A : Hp → V → α → Prop) (B : Hp → V → β → Prop) (f : α → Option β) (ds : List α) : Prop :=
  ∀ x d H (Nx : V → Hp → Prop) (Sk : Hp → Prop), d ∈ ds → A H x d → Same H1 H → (∀ y e H', f d = some e → Same H H' → B H' y e → Nx y H') → (∀ H', f d = none → Same H H' → Sk H') →
    g x (wipe σ vs) H fun σ2 H2 => wipe σ2 vs = wipe σ vs ∧ tt σ2 H2 fun b H3 => if b = true then te σ2 H3 Nx else Sk H3
theorem take_map_none {i : Nat} {d : α} (e : ds[i]? = some d) (h : f d = none) : (ds.take (i + 1)).filterMap f = (ds.take i).filterMap f := by
  rw [List.take_add_one, e, List.filterMap_append]
  simp [h]
theorem take_map_some {i : Nat} {d : α} {y : β} (e : ds[i]? = some d) (h : f d = some y) : (ds.take (i + 1)).filterMap f = (ds.take i).filterMap f ++ [y] := by
  rw [List.take_add_one, e, List.filterMap_append]
  simp [h]
theorem lc_list_rep (hA : ∀ {H H' v d}, A H v d → TSame H H' → A H' v d) (hB : ∀ {H H' v d}, B H v d → TSame H H' → B H' v d) (hl : SqL K H1 a xs) (r : Rep A H1 xs ds) (few : ds.length ≤ 1000000) (nD : H1 D = none)
    (turn : LcTurn g tt te vs σ H1 A B f ds) (hd : ∀ H ys, Same H1 H → H D = some (.lst ys) → Rep B H ys (ds.filterMap f) → Qd H) :
    ∃ W : Nat → Nat → Hp → Prop, (∃ m, W 0 m (upd H1 D (.lst []))) ∧ ∀ i m H, W i m H →
      ((Itl K a).stop i H ∧ Qd H) ∨ ((Itl K a).go i H ∧ ∃ Nx : Hp → Prop, (∀ H', Nx H' → ∃ m', m' < m ∧ W (i + 1) m' H') ∧ ∀ x H', (Itl K a).yld i H x H' → g x (wipe σ vs) H' fun σ2 H2 => wipe σ2 vs = wipe σ vs ∧ tt σ2 H2 fun b H3 =>
        if b = true then te σ2 H3 fun y H4 => ∃ acc, H4 D = some (.lst acc) ∧ acc.length < sizeLine ∧ Nx (upd H4 D (.lst (acc ++ [y]))) else Nx H3) := by
  have len := r.len
  refine lc_list (K := K) (a := a) (xs := xs) (fun i H => Same H1 H ∧ ∃ ys, H D = some (.lst ys) ∧ Rep B H ys ((ds.take i).filterMap f)) ⟨same_new nD, [], upd_same, .nil⟩ (fun i H _ p => p.1.seq hl) (fun i x H hx ⟨S, ys, hD, rb⟩ => ?_) fun H ⟨S, ys, hD, rb⟩ => hd H ys S hD (by rw [len, List.take_length] at rb; exact rb)
  obtain ⟨d, ed, ad⟩ := rep_get r hx
  have hi : i < ds.length := (List.getElem?_eq_some_iff.mp ed).1
  refine turn x d H _ _ (List.mem_of_getElem? ed) (hA ad S.ts) S (fun y e H' fe S' be => ?_) fun H' fe S' => ?_
  · have hD' := S' _ _ hD
    have short : ys.length ≤ 1000000 := by
      have h1 := rb.len
      have h2 := List.length_filterMap_le f (ds.take i)
      rw [List.length_take] at h2
      omega
    have T : TSame H' (upd H' D (.lst (ys ++ [y]))) := ts_put hD' fun _ z => nomatch z
    refine ⟨ys, hD', small_line short, same_put (S.trans S') nD, ys ++ [y], upd_same, ?_⟩
    rw [take_map_some ed fe]
    exact rep_snoc (rep_mono (fun v d q => hB q (S'.ts.trans T)) rb) (hB be T)
  · refine ⟨S.trans S', ys, S' _ _ hD, ?_⟩
    rw [take_map_none ed fe]
    exact rep_mono (fun v d q => hB q S'.ts) rb
theorem lc_tup_rep (hA : ∀ {H H' v d}, A H v d → TSame H H' → A H' v d) (hB : ∀ {H H' v d}, B H v d → TSame H H' → B H' v d) (hl : SqT K H1 a xs) (r : Rep A H1 xs ds) (few : ds.length ≤ 1000000) (nD : H1 D = none)
    (turn : LcTurn g tt te vs σ H1 A B f ds) (hd : ∀ H ys, Same H1 H → H D = some (.lst ys) → Rep B H ys (ds.filterMap f) → Qd H) :
    ∃ W : Nat → Nat → Hp → Prop, (∃ m, W 0 m (upd H1 D (.lst []))) ∧ ∀ i m H, W i m H →
      ((Itt K a).stop i H ∧ Qd H) ∨ ((Itt K a).go i H ∧ ∃ Nx : Hp → Prop, (∀ H', Nx H' → ∃ m', m' < m ∧ W (i + 1) m' H') ∧ ∀ x H', (Itt K a).yld i H x H' → g x (wipe σ vs) H' fun σ2 H2 => wipe σ2 vs = wipe σ vs ∧ tt σ2 H2 fun b H3 =>
        if b = true then te σ2 H3 fun y H4 => ∃ acc, H4 D = some (.lst acc) ∧ acc.length < sizeLine ∧ Nx (upd H4 D (.lst (acc ++ [y]))) else Nx H3) := by
  have len := r.len
  refine lc_tup (K := K) (a := a) (xs := xs) (fun i H => Same H1 H ∧ ∃ ys, H D = some (.lst ys) ∧ Rep B H ys ((ds.take i).filterMap f)) ⟨same_new nD, [], upd_same, .nil⟩ (fun i H _ p => same_seqT p.1 hl) (fun i x H hx ⟨S, ys, hD, rb⟩ => ?_) fun H ⟨S, ys, hD, rb⟩ => hd H ys S hD (by rw [len, List.take_length] at rb; exact rb)
  obtain ⟨d, ed, ad⟩ := rep_get r hx
  have hi : i < ds.length := (List.getElem?_eq_some_iff.mp ed).1
  refine turn x d H _ _ (List.mem_of_getElem? ed) (hA ad S.ts) S (fun y e H' fe S' be => ?_) fun H' fe S' => ?_
  · have hD' := S' _ _ hD
    have short : ys.length ≤ 1000000 := by
      have h1 := rb.len
      have h2 := List.length_filterMap_le f (ds.take i)
      rw [List.length_take] at h2
      omega
    have T : TSame H' (upd H' D (.lst (ys ++ [y]))) := ts_put hD' fun _ z => nomatch z
    refine ⟨ys, hD', small_line short, same_put (S.trans S') nD, ys ++ [y], upd_same, ?_⟩
    rw [take_map_some ed fe]
    exact rep_snoc (rep_mono (fun v d q => hB q (S'.ts.trans T)) rb) (hB be T)
  · refine ⟨S.trans S', ys, S' _ _ hD, ?_⟩
    rw [take_map_none ed fe]
    exact rep_mono (fun v d q => hB q S'.ts) rb
end
/-- a list of truth values, ints -/
def BlV (_ : Hp) (v : V) (b : Bool) : Prop := v = .bl b
def InV (_ : Hp) (v : V) (n : Int) : Prop := v = .int n
theorem BlV.vals {H : Hp} {xs : List V} {bs : List Bool} (r : Rep BlV H xs bs) : xs = bs.map V.bl := by
  induction r with
  | nil => rfl
  | cons h _ ih => rw [show _ = _ from h, ih]; rfl
theorem InV.vals {H : Hp} {xs : List V} {bs : List Int} (r : Rep InV H xs bs) : xs = bs.map V.int := by
  induction r with
  | nil => rfl
  | cons h _ ih => rw [show _ = _ from h, ih]; rfl
theorem filterMap_some {α β : Type} (f : α → β) (l : List α) : l.filterMap (fun x => some (f x)) = l.map f := by
  induction l with
  | nil => rfl
  | cons a l ih => simp
/-- one more item -/
theorem push_rep {α : Type} {R : Hp → V → α → Prop} (mono : ∀ {H H' v d}, R H v d → TSame H H' → R H' v d) {H0 H : Hp} {m : Addr} {ms : List V} {M : List α} {v : V} {e : α} (S : Same H0 H) (n : H0 m = none) (hm : H m = some (.lst ms)) (r : Rep R H ms M) (x : R H v e) :
    Same H0 (upd H m (.lst (ms ++ [v]))) ∧ upd H m (.lst (ms ++ [v])) m = some (.lst (ms ++ [v])) ∧ Rep R (upd H m (.lst (ms ++ [v]))) (ms ++ [v]) (M ++ [e]) := by
  have T : TSame H (upd H m (.lst (ms ++ [v]))) := ts_put hm fun _ z => nomatch z
  exact ⟨same_put S n, upd_same, rep_snoc (rep_mono (fun v d q => mono q T) r) (mono x T)⟩
/-- many more -/
theorem more_rep {α : Type} {R : Hp → V → α → Prop} (mono : ∀ {H H' v d}, R H v d → TSame H H' → R H' v d) {H0 H : Hp} {m : Addr} {ms zs : List V} {M Z : List α} (S : Same H0 H) (n : H0 m = none) (hm : H m = some (.lst ms)) (r : Rep R H ms M) (x : Rep R H zs Z) :
    Same H0 (upd H m (.lst (ms ++ zs))) ∧ upd H m (.lst (ms ++ zs)) m = some (.lst (ms ++ zs)) ∧ Rep R (upd H m (.lst (ms ++ zs))) (ms ++ zs) (M ++ Z) := by
  have T : TSame H (upd H m (.lst (ms ++ zs))) := ts_put hm fun _ z => nomatch z
  exact ⟨same_put S n, upd_same, rep_app (rep_mono (fun v d q => mono q T) r) (rep_mono (fun v d q => mono q T) x)⟩
end Wk

namespace Wk
open PySem L2
/-- the built-ins that stand as they were -/
structure Txt (mg : Str → Option Value) : Prop where
  abs : mg "abs" = none
  int : mg "int" = none
  len : mg "len" = none
  isi : mg "isinstance" = none
  bool : mg "bool" = none
  range : mg "range" = none
  tuple : mg "tuple" = none
  list : mg "list" = none
  set : mg "set" = none
  sorted : mg "sorted" = none
  max : mg "max" = none
  any : mg "any" = none
  all : mg "all" = none
  dict : mg "dict" = none

/-! ### the drawing state -/
def stK (cl : Addr) (at_ left mix : Int) : List (Key × V) := [(Sum.inr "cells", .ref cl), (Sum.inr "at", .int at_), (Sum.inr "left", .int left), (Sum.inr "mix", .int mix)]
def DrawSt (H : Hp) (st cl : Addr) : Prop := ∃ (cells : List Int) (at_ left mix : Int), H st = some (.dK (stK cl at_ left mix)) ∧ H cl = some (.lst (cells.map V.int)) ∧ cells.length ≤ 63 ∧ (∀ c ∈ cells, (0 : Int) ≤ c) ∧ 0 ≤ at_ ∧ 0 ≤ left
theorem k_ca : ¬ (Sum.inr "cells" : Key) = (Sum.inr "at" : Key) := by decide +kernel
theorem k_cl : ¬ (Sum.inr "cells" : Key) = (Sum.inr "left" : Key) := by decide +kernel
theorem k_cm : ¬ (Sum.inr "cells" : Key) = (Sum.inr "mix" : Key) := by decide +kernel
theorem k_al : ¬ (Sum.inr "at" : Key) = (Sum.inr "left" : Key) := by decide +kernel
theorem k_am : ¬ (Sum.inr "at" : Key) = (Sum.inr "mix" : Key) := by decide +kernel
theorem k_lm : ¬ (Sum.inr "left" : Key) = (Sum.inr "mix" : Key) := by decide +kernel
section
variable (cl : Addr) (a l m : Int)
theorem st_cells : valV (stK cl a l m) (Sum.inr "cells") = some (.ref cl) := valV_pos rfl
theorem st_at : valV (stK cl a l m) (Sum.inr "at") = some (.int a) := (valV_neg k_ca).trans (valV_pos rfl)
theorem st_left : valV (stK cl a l m) (Sum.inr "left") = some (.int l) := (valV_neg k_cl).trans ((valV_neg k_al).trans (valV_pos rfl))
theorem st_mix : valV (stK cl a l m) (Sum.inr "mix") = some (.int m) := (valV_neg k_cm).trans ((valV_neg k_am).trans ((valV_neg k_lm).trans (valV_pos rfl)))
theorem put_in {kvs : List (Key × V)} {k : Key} {u : V} (v : V) (h : valV kvs k = some u) : putK kvs k v = kvs.map fun kv => if kv.1 = k then (kv.1, v) else kv := by
  unfold putK
  rw [valV_any, h]
  rfl
theorem st_put_at (v : Int) : putK (stK cl a l m) (Sum.inr "at") (.int v) = stK cl v l m := by
  rw [put_in _ (st_at cl a l m)]
  simp only [stK, List.map_cons, List.map_nil, if_neg k_ca, if_neg (Ne.symm k_al), if_neg (Ne.symm k_am)]
  rfl
theorem st_put_left (v : Int) : putK (stK cl a l m) (Sum.inr "left") (.int v) = stK cl a v m := by
  rw [put_in _ (st_left cl a l m)]
  simp only [stK, List.map_cons, List.map_nil, if_neg k_cl, if_neg k_al, if_neg (Ne.symm k_lm)]
  rfl
theorem st_put_mix (v : Int) : putK (stK cl a l m) (Sum.inr "mix") (.int v) = stK cl a l v := by
  rw [put_in _ (st_mix cl a l m)]
  simp only [stK, List.map_cons, List.map_nil, if_neg k_cm, if_neg k_am, if_neg k_lm]
  rfl
end

def spStart (K : PySem.W.Frag) : Sp := fun vs H Q _ => ∃ (a : Addr) (ns : List Int), vs = [.ref a] ∧ SqL K H a (ns.map V.int) ∧ ns.length ≤ 63 ∧ ∀ st cl H', Same H H' → H st = none → H cl = none → DrawSt H' st cl → Q (.ref st) H'
def spDraw : Sp := fun vs H Q _ => ∃ (st cl : Addr) (b : Int), vs = [.ref st, .int b] ∧ DrawSt H st cl ∧ 0 < b ∧ b < 1000000 ∧ ∀ r H', 0 ≤ r → r < b → But st H H' → DrawSt H' st cl → Q (.int r) H'
def spPick : Sp := fun vs H Q _ => ∃ (st cl l : Addr) (xs : List V), vs = [.ref st, .ref l] ∧ DrawSt H st cl ∧ H l = some (.lst xs) ∧ xs ≠ [] ∧ xs.length < 1000 ∧ ∀ x H', x ∈ xs → But st H H' → DrawSt H' st cl → Q x H'
def spIs : Sp := fun vs H Q _ => ∃ (b c : Bool), vs = [.bl b, .bl c] ∧ Q (.bl (decide (b = c))) H

section
variable {P : Program} {w : World} {K : PySem.W.Frag} {mg : Str → Option Value} {base : Heap}
theorem scStart : FnScope ["_law_script", "_law_cell"] ["_law_script"] (defScope sStart) := ⟨rfl, rfl, rfl, by decide +kernel, rfl, by decide +kernel, by decide +kernel⟩
theorem ok_start {f : Addr} {fd : FuncData} (F : Fun K "_law_start" "_law_start" sStart f fd) (T : Txt mg) : FnOk P w K mg base CX0 1 f fd ["_law_script"] (spStart K) := by
  refine F.ok scStart (fun vs H Q E h => ?_) (fun cdv A outer s H vs Q E hr h => ?_)
  · obtain ⟨a, ns, rfl, _⟩ := h
    rfl
  · obtain ⟨a, ns, rfl, hl, few, k⟩ := h
    refine ⟨_, pss_one (ps_ret (pe_disp (pps_cons pe_str (pe_lc (own := [("_law_cell", 1)]) (g := gName 1) (tt := tYes) rfl scStart.nd (pi_list (pv 0)) (blkOk_by (N := ["_law_script", "_law_cell"]) (sc := defScope sStart) (by decide +kernel))
        (fun _ _ _ _ _ => pg_name (i := 1) scStart.nd rfl (Or.inl rfl)) (fun _ _ _ _ _ => pts_nil)
        (fun _ _ _ _ _ => pe_callB call_abs (by rfl) T.abs (by decide +kernel) (pa_cons (pe_callTy call_int1 (by rfl) T.int (by decide +kernel) (pa_cons (pv 1) pa_nil)) pa_nil)))
      (pps_cons pe_str pe_int (pps_cons pe_str pe_int (pps_cons pe_str (pe_op op_add pe_int (pe_callB call_len_seq (by rfl) T.len (by decide +kernel) (pa_cons (pv 0) pa_nil))) pps_nil)))) (by rfl) (by rfl) (fun z => by cases z) (by decide))), ?_⟩
    intro p np
    have hl1 := (same_new (o := .dK []) np).seq hl
    refine ⟨_, rfl, a, rfl, ⟨_, hl1⟩, fun D nD => ?_⟩
    refine lc_list_rep (K := K) (A := InV) (B := InV) (f := fun n => some (if n < 0 then -n else n)) (ds := ns) (fun h _ => h) (fun h _ => h) hl1 ?_ (by omega) nD ?_ ?_
    · generalize ns = l
      induction l with
      | nil => exact .nil
      | cons n l ih => exact .cons rfl ih
    · rintro x d H' Nx Sk _ rfl S nx _
      exact ⟨rfl, _, rfl, .inl ⟨d, rfl, d, rfl, nx _ _ H' rfl (Same.refl _) rfl⟩⟩
    · intro H2 ys S hD r
      refine ⟨_, rfl, a, _, rfl, .inl (S.seq hl1), _, _, rfl, rfl, S _ _ upd_same, [(Sum.inr "cells", .ref D), (Sum.inr "at", .int 0), (Sum.inr "left", .int 0), (Sum.inr "mix", .int (7 + ((ns.map V.int).length : Nat)))], rfl, (by show 4 ≤ 15; decide), ?_⟩
      rw [InV.vals r] at hD
      have e : mergeK [] [((Sum.inr "cells" : Key), V.ref D), (Sum.inr "at", .int 0), (Sum.inr "left", .int 0), (Sum.inr "mix", .int (7 + ((ns.map V.int).length : Nat)))] = stK D 0 0 (7 + ((ns.map V.int).length : Nat)) := by
        unfold mergeK stK
        simp only [List.foldl_cons, List.foldl_nil]
        rw [putK_new _ valV_nil, List.nil_append, putK_new _ ((valV_neg k_ca).trans valV_nil), List.cons_append, List.nil_append]
        rw [putK_new _ ((valV_neg k_cl).trans ((valV_neg k_al).trans valV_nil)), List.cons_append, List.cons_append, List.nil_append]
        rw [putK_new _ ((valV_neg k_cm).trans ((valV_neg k_am).trans ((valV_neg k_lm).trans valV_nil))), List.cons_append, List.cons_append, List.cons_append, List.nil_append]
      rw [e]
      have Dp : D ≠ p := fun z => by rw [z, upd_same] at nD; cases nD
      refine k p D _ (fun b o eb => ?_) np (by rw [upd_ne Dp] at nD; exact nD) ⟨_, _, _, _, upd_same, by rw [upd_ne Dp]; exact hD, ?_, ?_, Int.le_refl _, Int.le_refl _⟩
      · have bp := ne_of_none eb np
        rw [upd_ne bp]
        exact S _ _ (by rw [upd_ne bp]; exact eb)
      · rw [filterMap_some, List.length_map]
        exact few
      · intro c hc
        rw [filterMap_some] at hc
        obtain ⟨n, _, rfl⟩ := List.mem_map.mp hc
        split <;> omega
end
end Wk

namespace Wk
open PySem L2
theorem dgk {H : Hp} {a : Addr} {kvs : List (Key × V)} {k : Key} {v : V} (e : H a = some (.dK kvs)) (h : valV kvs k = some v) : DGet H a (kV k) (some v) := by
  rw [← h]
  exact DGet.k e
theorem dpk {H : Hp} {a : Addr} {kvs kvs' : List (Key × V)} {k : Key} {v : V} (e : H a = some (.dK kvs)) (h : putK kvs k v = kvs') (few : kvs.length < sizeLine) : DPut H a (kV k) v (upd H a (.dK kvs')) := by
  rw [← h]
  exact DPut.k e few
theorem st_few (cl : Addr) (a l m : Int) : (stK cl a l m).length < sizeLine := small_line (by show 4 ≤ 1000000; decide)
section
variable {P : Program} {w : World} {K : PySem.W.Frag} {mg : Str → Option Value} {base : Heap}
theorem scDraw : FnScope ["_law_state", "_law_bound", "_law_cell", "_law_number"] ["_law_state", "_law_bound"] (defScope sDraw) := ⟨rfl, rfl, rfl, by decide +kernel, rfl, by decide +kernel, by decide +kernel⟩
theorem ok_draw {f : Addr} {fd : FuncData} (F : Fun K "_law_draw" "_law_draw" sDraw f fd) (T : Txt mg) : FnOk P w K mg base CX0 1 f fd ["_law_state", "_law_bound"] spDraw := by
  refine F.ok scDraw (fun vs H Q E h => ?_) (fun cdv A outer s H vs Q E hr h => ?_)
  · obtain ⟨st, cl, b, rfl, _⟩ := h
    rfl
  · obtain ⟨st, cl, b, rfl, hd, b0, b1, k⟩ := h
    have hu := hu_of hr
    obtain ⟨cells, at_, left, mix, hs, hc, few, nn, a0, l0⟩ := hd
    have ne : cl ≠ st := ne_of hc hs fun z => nomatch z
    -- state['..']
    refine ⟨_, C8.pss_cut (ps_if (PW.pt (pw_and (pt_cmpR op_eq (pe_dget hu (pv 0) pe_str (fun _ _ => rfl)) pe_int (nomark _))
          (pw_and1 (pt_cmpR op_lt (pe_dget hu (pv 0) pe_str (fun _ _ => rfl)) (pe_callB call_len_seq (by rfl) T.len (by decide +kernel) (pa_cons (pe_dget hu (pv 0) pe_str (fun _ _ => rfl)) pa_nil)) (nomark _)))))
        (pss_cons (ps_set (i := 2) scDraw.nd rfl (Or.inl rfl) (pe_ix ix_list (pe_dget hu (pv 0) pe_str (fun _ _ => rfl)) (pe_dget hu (pv 0) pe_str (fun _ _ => rfl)) (fun _ _ => rfl)))
        (pss_cons (ps_dput hu (pv 0) pe_str (pe_op op_add (pe_dget hu (pv 0) pe_str (fun _ _ => rfl)) pe_int) rfl)
        (pss_cons (ps_dput hu (pv 0) pe_str (pe_op op_mod (pe_callTy call_int1 (by rfl) T.int (by decide +kernel) (pa_cons (pe_op op_add (pe_op op_add (pe_op op_mul (pe_dget hu (pv 0) pe_str (fun _ _ => rfl)) pe_int) (pv 2)) pe_int) pa_nil)) pe_int) rfl)
        (pss_cons (ps_if (pt_cmpR op_lt (pv 2) (pe_op op_pow pe_int pe_int) (nomark _)) (pss_one (ps_ret (pe_op op_mod (pe_callTy call_int1 (by rfl) T.int (by decide +kernel) (pa_cons (pv 2) pa_nil)) (pv 1)))) pss_nil)
        (pss_one (ps_dput hu (pv 0) pe_str (pv 2) rfl)))))) pss_nil)
      (C8.pss_cut (ps_if (pt_cmpR op_gt (pe_dget hu (pv 0) pe_str (fun _ _ => rfl)) pe_int (nomark _))
        (pss_cons (ps_set (i := 3) scDraw.nd rfl (Or.inl rfl) (pe_op op_mod (pe_callTy call_int1 (by rfl) T.int (by decide +kernel) (pa_cons (pe_dget hu (pv 0) pe_str (fun _ _ => rfl)) pa_nil)) (pv 1)))
        (pss_cons (ps_dput hu (pv 0) pe_str (pe_op op_fdivN (pe_dget hu (pv 0) pe_str (fun _ _ => rfl)) (pv 1)) rfl) (pss_one (ps_ret (pv 3))))) pss_nil)
      (pss_cons (ps_dput hu (pv 0) pe_str (pe_op op_mod (pe_callTy call_int1 (by rfl) T.int (by decide +kernel) (pa_cons (pe_op op_add (pe_op op_mul (pe_dget hu (pv 0) pe_str (fun _ _ => rfl)) pe_int) pe_int) pa_nil)) pe_int) rfl)
      (pss_one (ps_ret (pe_op op_mod (pe_callTy call_int1 (by rfl) T.int (by decide +kernel) (pa_cons (pe_op op_mod (pe_callTy call_int1 (by rfl) T.int (by decide +kernel) (pa_cons (pe_op op_add (pe_op op_mul (pe_dget hu (pv 0) pe_str (fun _ _ => rfl)) pe_int) pe_int) pa_nil)) pe_int) pa_nil)) (pv 1)))))), ?_⟩
    -- what stands behind each of the two ifs
    refine ⟨fun σ' H' => ∃ (v2 v3 : Option V) (a' l' m' : Int), σ' = [some (.ref st), some (.int b), v2, v3] ∧ But st H H' ∧ H' st = some (.dK (stK cl a' l' m')) ∧ 0 ≤ a' ∧ 0 ≤ l', ?_, ?_⟩
    · -- if left == 0 and at < len(cells)
      refine ⟨_, rfl, st, _, rfl, dgk (k := Sum.inr "left") hs (st_left ..), rfl, _, rfl, ite2 (fun e1 => ?_) (fun e1 => ?_)⟩
      · have e1 : left = 0 := by simpa using e1
        subst e1
        refine ⟨_, rfl, st, _, rfl, dgk (k := Sum.inr "at") hs (st_at ..), _, rfl, st, _, rfl, dgk (k := Sum.inr "cells") hs (st_cells ..), cl, _, rfl, .inl (sql hc), _, _, rfl, rfl, _, rfl, ite2 (fun e2 => ?_) (fun e2 => ?_)⟩
        · have e2 : at_ < (cells.length : Int) := by simpa using e2
          obtain ⟨c, ec⟩ : ∃ c, cells[at_.toNat]? = some c := ⟨_, List.getElem?_eq_getElem (by omega)⟩
          have c0 : 0 ≤ c := nn c (List.mem_of_getElem? ec)
          have at1 : atI (cells.map V.int) at_ = some (.int c) := at_of (j := at_.toNat) (by omega) (by rw [List.getElem?_map, ec]; rfl)
          refine ⟨_, rfl, st, _, rfl, dgk (k := Sum.inr "cells") hs (st_cells ..), _, rfl, st, _, rfl, dgk (k := Sum.inr "at") hs (st_at ..), cl, _, _, _, rfl, rfl, sql hc, at1, ?_⟩
          refine ⟨_, rfl, st, _, rfl, dgk (k := Sum.inr "at") hs (st_at ..), _, _, rfl, rfl, _, rfl, st, _, rfl, dpk (k := Sum.inr "at") hs (st_put_at ..) (st_few ..), ?_⟩
          have h1 : (upd H st (.dK (stK cl (at_ + 1) 0 mix))) st = _ := upd_same
          refine ⟨_, rfl, st, _, rfl, dgk (k := Sum.inr "mix") h1 (st_mix ..), _, _, rfl, rfl, .inr ⟨by decide, by decide⟩, _, rfl, _, _, rfl, rfl, _, _, rfl, rfl, .inl ⟨_, rfl, _, _, rfl, rfl, (by show (0 : Int) < 2147483647; decide), _, rfl, st, _, rfl, dpk (k := Sum.inr "mix") h1 (st_put_mix ..) (st_few ..), ?_⟩⟩
          rw [upd_upd]
          generalize (mix * 48271 + c + 11) % 2147483647 = mix1
          have b1' : But st H (upd H st (.dK (stK cl (at_ + 1) 0 mix1))) := fun x o n e => by rw [upd_ne n]; exact e
          refine ⟨_, rfl, _, _, rfl, rfl, ⟨by decide, by decide, by decide⟩, _, _, rfl, rfl, _, rfl, ite2 (fun _ => ?_) (fun _ => ?_)⟩
          · refine ⟨_, rfl, .inl ⟨_, rfl, _, rfl, _, _, rfl, rfl, b0, ?_⟩⟩
            refine k _ _ (Int.emod_nonneg _ (by omega)) (Int.emod_lt_of_pos _ b0) b1' ⟨cells, at_ + 1, 0, mix1, upd_same, by rw [upd_ne ne]; exact hc, few, nn, by omega, Int.le_refl _⟩
          · have h2 : (upd H st (.dK (stK cl (at_ + 1) 0 mix1))) st = _ := upd_same
            refine ⟨_, rfl, _, rfl, st, _, rfl, dpk (k := Sum.inr "left") h2 (st_put_left ..) (st_few ..), ?_⟩
            rw [upd_upd]
            exact ⟨_, _, _, _, _, rfl, fun x o n e => by rw [upd_ne n]; exact e, upd_same, by omega, c0⟩
        · exact ⟨_, _, _, _, _, rfl, But.refl _ _, hs, a0, l0⟩
      · exact ⟨_, _, _, _, _, rfl, But.refl _ _, hs, a0, l0⟩
    · rintro σ' H' ⟨v2, v3, a', l', m', rfl, B, hs, a0, l0⟩
      have hc := B _ _ ne hc
      -- if left > 0
      refine ⟨fun σ' H' => ∃ (v2 v3 : Option V) (a' l' m' : Int), σ' = [some (.ref st), some (.int b), v2, v3] ∧ But st H H' ∧ H' st = some (.dK (stK cl a' l' m')) ∧ 0 ≤ a' ∧ 0 ≤ l', ?_, ?_⟩
      · refine ⟨_, rfl, st, _, rfl, dgk (k := Sum.inr "left") hs (st_left ..), _, _, rfl, rfl, _, rfl, ite2 (fun e1 => ?_) (fun e1 => ?_)⟩
        · refine ⟨_, rfl, st, _, rfl, dgk (k := Sum.inr "left") hs (st_left ..), .inl ⟨_, rfl, _, rfl, _, _, rfl, rfl, b0, ?_⟩⟩
          refine ⟨_, rfl, st, _, rfl, dgk (k := Sum.inr "left") hs (st_left ..), _, rfl, _, _, rfl, rfl, ⟨by omega, by omega⟩, _, rfl, st, _, rfl, dpk (k := Sum.inr "left") hs (st_put_left ..) (st_few ..), ?_⟩
          refine ⟨_, rfl, k _ _ (Int.emod_nonneg _ (by omega)) (Int.emod_lt_of_pos _ b0) (B.trans fun x o n e => by rw [upd_ne n]; exact e) ⟨cells, a', _, m', upd_same, by rw [upd_ne ne]; exact hc, few, nn, a0, Int.fdiv_nonneg l0 (by omega)⟩⟩
        · exact ⟨_, _, _, _, _, rfl, B, hs, a0, l0⟩
      · rintro σ' H' ⟨v2, v3, a', l', m', rfl, B, hs, a0, l0⟩
        have hc := B _ _ ne (by assumption)
        refine ⟨_, rfl, st, _, rfl, dgk (k := Sum.inr "mix") hs (st_mix ..), _, _, rfl, rfl, .inr ⟨by decide, by decide⟩, _, _, rfl, rfl, .inl ⟨_, rfl, _, _, rfl, rfl, (by show (0 : Int) < 2147483647; decide), _, rfl, st, _, rfl, dpk (k := Sum.inr "mix") hs (st_put_mix ..) (st_few ..), ?_⟩⟩
        have h1 : (upd H' st (.dK (stK cl a' l' ((m' * 48271 + 11) % 2147483647)))) st = _ := upd_same
        refine ⟨_, rfl, st, _, rfl, dgk (k := Sum.inr "mix") h1 (st_mix ..), _, _, rfl, rfl, .inr ⟨by decide, by decide⟩, _, _, rfl, rfl, .inl ⟨_, rfl, _, _, rfl, rfl, (by show (0 : Int) < 2147483629; decide), .inl ⟨_, rfl, _, rfl, _, _, rfl, rfl, b0, ?_⟩⟩⟩
        exact k _ _ (Int.emod_nonneg _ (by omega)) (Int.emod_lt_of_pos _ b0) (B.trans fun x o n e => by rw [upd_ne n]; exact e) ⟨cells, a', l', _, upd_same, by rw [upd_ne ne]; exact hc, few, nn, a0, l0⟩
end
end Wk

namespace Wk
open PySem L2
section
variable {P : Program} {w : World} {K : PySem.W.Frag} {mg : Str → Option Value} {base : Heap}
theorem newFacts {H : Hp} {p : Addr} {o : HO} (n : H p = none) : ∃ H1, H1 = upd H p o ∧ Same H H1 ∧ H1 p = some o ∧ ∀ b, b ≠ p → H1 b = H b := ⟨_, rfl, same_new n, upd_same, fun _ ne => upd_ne ne⟩
/-- a global def: where it stands, that it is a def, how it binds -/
structure Gd (K : PySem.W.Frag) (mg : Str → Option Value) (x : Str) (f : Addr) (fd : FuncData) (ps : List Str) : Prop where
  at_ : mg x = some (.ref f)
  kp : PySem.W.keepIn K (.ref f) = true
  b : Binds K fd ps []

theorem scPick : FnScope ["_law_state", "_law_things"] ["_law_state", "_law_things"] (defScope sPick) := ⟨rfl, rfl, rfl, by decide +kernel, rfl, by decide +kernel, by decide +kernel⟩
theorem ok_pick {f f1 : Addr} {fd fd1 : FuncData} (F : Fun K "_law_pick" "_law_pick" sPick f fd) (T : Txt mg) (G1 : Gd K mg "_law_draw" f1 fd1 ["_law_state", "_law_bound"]) (F1 : FnOk P w K mg base CX0 1 f1 fd1 ["_law_state", "_law_bound"] spDraw) :
    FnOk P w K mg base CX0 2 f fd ["_law_state", "_law_things"] spPick := by
  refine F.ok scPick (fun vs H Q E h => ?_) (fun cdv A outer s H vs Q E hr h => ?_)
  · obtain ⟨st, cl, l, xs, rfl, _⟩ := h
    rfl
  · obtain ⟨st, cl, l, xs, rfl, hd, hl, ne, few, k⟩ := h
    refine ⟨_, pss_one (ps_ret (pe_ix ix_list (pv 1) (pe_call F1 hr (by rfl) G1.at_ G1.kp G1.b .nil pass0 (pa_cons (pv 0) (pa_cons (pe_callB call_len_seq (by rfl) T.len (by decide +kernel) (pa_cons (pv 1) pa_nil)) pa_nil))) (fun _ _ => rfl))), ?_⟩
    have pos : 0 < xs.length := List.length_pos_iff.mpr ne
    obtain ⟨cells, at_, left, mix, hs, hd'⟩ := id hd
    have nl : l ≠ st := ne_of hl hs fun z => nomatch z
    refine ⟨_, rfl, _, rfl, _, rfl, l, _, rfl, .inl (sql hl), st, cl, _, rfl, hd, by omega, by omega, fun r H' r0 r1 B D => ?_⟩
    have hr' : r.toNat < xs.length := by omega
    exact ⟨l, xs, r, xs[r.toNat], rfl, rfl, sql (B _ _ nl hl), at_of (j := r.toNat) (by omega) (List.getElem?_eq_getElem hr'), k _ _ (List.getElem_mem hr') B D⟩

theorem scIs : FnScope ["_law_actual", "_law_due"] ["_law_actual", "_law_due"] (defScope sIs) := ⟨rfl, rfl, rfl, by decide +kernel, rfl, by decide +kernel, by decide +kernel⟩
theorem ok_is {f : Addr} {fd : FuncData} (F : Fun K "_law_is" "_law_is" sIs f fd) (T : Txt mg) : FnOk P w K mg base CX0 1 f fd ["_law_actual", "_law_due"] spIs := by
  refine F.ok scIs (fun vs H Q E h => ?_) (fun cdv A outer s H vs Q E hr h => ?_)
  · obtain ⟨b, c, rfl, _⟩ := h
    rfl
  · obtain ⟨b, c, rfl, k⟩ := h
    refine ⟨_, pss_one (ps_ret (pe_and (pe_callB call_isi (by rfl) T.isi (by decide +kernel) (pa_cons (pv 0) (pa_cons (pe_bltn (v := .ty "bool") (by rfl) T.bool (by decide +kernel) rfl) pa_nil))) (pe_one (pe_cmpR op_eq (pv 0) (pv 1) (nomark _))))), ?_⟩
    exact ⟨_, rfl, V.bl b, .ty "bool", .type "bool", .type "bool", true, rfl, .ty _, .base (.bl b), kit_ty (by decide +kernel), true, rfl, iteT ⟨_, rfl, _, rfl, rfl, by
      have e : decide (V.bl b = V.bl c) = decide (b = c) := by rw [Bool.eq_iff_iff]; simp
      show Q (V.bl (decide (V.bl b = V.bl c))) H
      rw [e]
      exact k⟩⟩
/-- a list without what comes again -/
def onceL {α : Type} [DecidableEq α] (l : List α) : List α := l.foldl (fun acc x => if x ∈ acc then acc else acc ++ [x]) []
def spOnce (K : PySem.W.Frag) : Sp := fun vs H Q _ => ∃ (α : Type) (_ : DecidableEq α) (k : Kind α) (a : Addr) (xs : List V) (ds : List α), vs = [.ref a] ∧ SqL K H a xs ∧ Rep k.R H xs ds ∧ ds.length ≤ 1000000 ∧
  ∀ l ys H', Same H H' → H l = none → H' l = some (.lst ys) → Rep k.R H' ys (onceL ds) → Q (.ref l) H'
theorem onceL_step {α : Type} [DecidableEq α] {l : List α} {i : Nat} {x : α} (h : l[i]? = some x) : onceL (l.take (i + 1)) = if x ∈ onceL (l.take i) then onceL (l.take i) else onceL (l.take i) ++ [x] := by
  unfold onceL
  rw [List.take_add_one, h, Option.toList_some, List.foldl_append]
  rfl
theorem onceL_len {α : Type} [DecidableEq α] (l : List α) : ∀ acc : List α, (l.foldl (fun acc x => if x ∈ acc then acc else acc ++ [x]) acc).length ≤ acc.length + l.length := by
  induction l with
  | nil => exact fun acc => Nat.le_refl _
  | cons a l ih =>
    intro acc
    refine Nat.le_trans (ih _) ?_
    have one : (if a ∈ acc then acc else acc ++ [a]).length ≤ acc.length + 1 := by
      split
      · omega
      · rw [List.length_append, List.length_singleton]; omega
    show (if a ∈ acc then acc else acc ++ [a]).length + l.length ≤ acc.length + (l.length + 1)
    omega
theorem scOnce : FnScope ["_law_things", "_law_kept", "_law_thing"] ["_law_things"] (defScope sOnce) := ⟨rfl, rfl, rfl, by decide +kernel, rfl, by decide +kernel, by decide +kernel⟩
theorem ok_once {f : Addr} {fd : FuncData} (F : Fun K "_law_once" "_law_once" sOnce f fd) (T : Txt mg) : FnOk P w K mg base CX0 1 f fd ["_law_things"] (spOnce K) := by
  refine F.ok scOnce (fun vs H Q E h => ?_) (fun cdv A outer s H vs Q E hr h => ?_)
  · obtain ⟨α, _, k, a, xs, ds, rfl, _⟩ := h
    rfl
  · obtain ⟨α, _, kd, a, xs, ds, rfl, hl, r, few, k⟩ := h
    have hu : (A.deeper (PyProof.Rows.envOfC (Str.ofString "_law_once") (defScope sOnce) s.heap.objs.size f cdv)).units + 65 < cLine := by have := hr.un; omega
    refine ⟨_, pss_cons (ps_set (i := 1) scOnce.nd rfl (.inl rfl) (pe_lst pa_nil)) (pss_cons (ps_for PassesOwn.never rfl (pi_list (pv 0)) (pg_name (i := 2) scOnce.nd rfl (.inl rfl))
      (pss_one (ps_if (pt_cmpR (op_notInK kd hu) (pv 2) (pv 1) (by rfl)) (pss_one (ps_expr (pe_bm PySem.F.plainAttrs_list PySem.F.slot_list_append PySem.F.type_list_append mt_append (pv 1) (pa_cons (pv 2) pa_nil)))) pss_nil)))
      (pss_one (ps_ret (pv 1)))), ?_⟩
    refine ⟨Nat.zero_le _, fun l nl => ?_⟩
    obtain ⟨H1, e1, S1, hl1, _⟩ := newFacts (o := .lst []) nl
    rw [← e1]
    have len := r.len
    refine ⟨_, rfl, a, rfl, ⟨_, S1.seq hl⟩, for_list (K := K) (a := a) (xs := xs) (fun i σ H' => ∃ (v : Option V) (ys : List V), σ = [some (.ref a), some (.ref l), v] ∧ Same H H' ∧ H' l = some (.lst ys) ∧ Rep kd.R H' ys (onceL (ds.take i)))
      ⟨none, [], rfl, S1, hl1, .nil⟩ (fun i σ H' _ ⟨_, _, _, S, _⟩ => S.seq hl) ?_ ?_⟩
    · rintro i x σ H' hx ⟨v, ys, rfl, S, hy, ry⟩
      obtain ⟨d, ed, xd⟩ := rep_get r hx
      have xd' := kd.ts xd S.ts
      have hi : i < ds.length := (List.getElem?_eq_some_iff.mp ed).1
      refine ⟨_, rfl, _, rfl, l, d, ys, _, rfl, .inl (sql hy), xd', ry, _, rfl, ?_⟩
      have step := onceL_step ed
      refine ite2 (fun c => ?_) (fun c => ?_)
      · have c : d ∉ onceL (ds.take i) := by simpa using c
        rw [if_neg c] at step
        have short : ys.length ≤ 1000000 := by
          have h1 := ry.len
          have h2 := onceL_len (ds.take i) []
          rw [List.length_nil, List.length_take] at h2
          unfold onceL at h1
          omega
        refine ⟨_, rfl, .inl ⟨rfl, _, sql hy⟩, _, rfl, l, _, _, rfl, rfl, hy, small_line short, ?_⟩
        have T : TSame H' (upd H' l (.lst (ys ++ [x]))) := ts_put hy fun _ z => nomatch z
        refine ⟨_, _, rfl, same_put S nl, upd_same, ?_⟩
        rw [step]
        exact rep_snoc (rep_mono (fun v d q => kd.ts q T) ry) (kd.ts xd' T)
      · have c : d ∈ onceL (ds.take i) := by simpa using c
        rw [if_pos c] at step
        exact ⟨_, ys, rfl, S, hy, by rw [step]; exact ry⟩
    · rintro σ H' ⟨v, ys, rfl, S, hy, ry⟩
      rw [len, List.take_length] at ry
      exact ⟨_, rfl, k l ys H' S nl hy ry⟩
end
end Wk

namespace Wk
open PySem L2
theorem but_put {st : Addr} {H0 H : Hp} {l : Addr} {o : HO} (s : But st H0 H) (n : H0 l = none) : But st H0 (upd H l o) := fun b x ne e => by
  rw [upd_ne (ne_of_none e n)]
  exact s b x ne e
theorem but_new {st : Addr} {H0 H : Hp} {l : Addr} {o : HO} (s : But st H0 H) (n : H l = none) : But st H0 (upd H l o) := s.trans (But.of (same_new n))
theorem DrawSt.ne {H : Hp} {st cl b : Addr} {o : HO} (d : DrawSt H st cl) (e : H b = some o) (n : ∀ kvs, o ≠ .dK kvs) : b ≠ st := by
  obtain ⟨_, _, _, _, hs, _⟩ := d
  exact ne_of e hs fun z => n _ z
theorem DrawSt.same {H H' : Hp} {st cl : Addr} (d : DrawSt H st cl) (s : Same H H') : DrawSt H' st cl := by
  obtain ⟨cells, a, l, m, hs, hc, r⟩ := d
  exact ⟨cells, a, l, m, s _ _ hs, s _ _ hc, r⟩
theorem DrawSt.there {H : Hp} {st cl : Addr} (d : DrawSt H st cl) : ∃ xs, H cl = some (.lst xs) := by
  obtain ⟨cells, a, l, m, hs, hc, r⟩ := d
  exact ⟨_, hc⟩
theorem but_ts {H H' : Hp} {st cl : Addr} (d : DrawSt H st cl) (b : But st H H') : TSame H H' := fun c xs e => b c _ (d.ne e fun _ z => nomatch z) e
/-- another list is written -/
theorem DrawSt.put {H : Hp} {st cl l : Addr} {ys : List V} {o : HO} (d : DrawSt H st cl) (hl : H l = some (.lst ys)) (n : l ≠ cl) : DrawSt (upd H l o) st cl := by
  obtain ⟨cells, a, b, m, hs, hc, r⟩ := d
  exact ⟨cells, a, b, m, by rw [upd_ne (ne_of hs hl fun z => nomatch z)]; exact hs, by rw [upd_ne n.symm]; exact hc, r⟩
/-- what the rules keep -/
def RlB (r : Rl) : Prop := 0 ≤ r.p ∧ r.p < 3 ∧ 0 ≤ r.q ∧ r.q < 3 ∧ 0 ≤ r.m ∧ r.m ≤ 1
def spPush : Sp := fun vs H Q _ => ∃ (st cl : Addr), vs = [.ref st] ∧ DrawSt H st cl ∧ ∀ t xs rs H', But st H H' → DrawSt H' st cl → H' t = some (.tup xs) → Rep RlV H' xs rs → (∀ r ∈ rs, RlB r) → rs ≠ [] → rs.length ≤ 8 → Q (.ref t) H'
section
variable {P : Program} {w : World} {K : PySem.W.Frag} {mg : Str → Option Value} {base : Heap}
theorem scPush : FnScope ["_law_state", "_law_rules", "_law_k", "_law_w", "_law_j"] ["_law_state"] (defScope sPush) := ⟨rfl, rfl, rfl, by decide +kernel, rfl, by decide +kernel, by decide +kernel⟩
theorem ok_push {f f1 f2 : Addr} {fd fd1 fd2 : FuncData} (F : Fun K "_law_pushdown" "_law_pushdown" sPush f fd) (T : Txt mg) (G1 : Gd K mg "_law_draw" f1 fd1 ["_law_state", "_law_bound"]) (F1 : FnOk P w K mg base CX0 1 f1 fd1 ["_law_state", "_law_bound"] spDraw)
    (G2 : Gd K mg "_law_pick" f2 fd2 ["_law_state", "_law_things"]) (F2 : FnOk P w K mg base CX0 2 f2 fd2 ["_law_state", "_law_things"] spPick) :
    FnOk P w K mg base CX0 3 f fd ["_law_state"] spPush := by
  refine F.ok scPush (fun vs H Q E h => ?_) (fun cdv A outer s H vs Q E hr h => ?_)
  · obtain ⟨st, cl, rfl, _⟩ := h
    rfl
  · obtain ⟨st, cl, rfl, hd, k⟩ := h
    have hr1 : Room 1 _ := hr.mono (by decide)
    refine ⟨_, pss_cons (ps_set (i := 1) scPush.nd rfl (.inl rfl) (pe_lst pa_nil)) (pss_cons (ps_for PassesOwn.never rfl
        (pi_range1 (by rfl) T.range (pa_cons (pe_op op_add pe_int (pe_call F1 hr1 (by rfl) G1.at_ G1.kp G1.b .nil pass0 (pa_cons (pv 0) (pa_cons pe_int pa_nil)))) pa_nil)) (pg_name (i := 2) scPush.nd rfl (.inl rfl))
      (pss_cons (ps_set (i := 3) scPush.nd rfl (.inl rfl) (pe_callTy call_tuple_of (by rfl) T.tuple (by decide +kernel) (pa_cons
          (pe_lc (own := [("_law_j", 4)]) (g := gName 4) (tt := tYes) rfl scPush.nd (pi_range1 (by rfl) T.range (pa_cons (pe_call F2 hr (by rfl) G2.at_ G2.kp G2.b .nil pass0 (pa_cons (pv 0) (pa_cons (pe_lst (pa_cons pe_int (pa_cons pe_int (pa_cons pe_int (pa_cons pe_int (pa_cons pe_int pa_nil)))))) pa_nil))) pa_nil))
            (blkOk_by (N := ["_law_state", "_law_rules", "_law_k", "_law_w", "_law_j"]) (sc := defScope sPush) (by decide +kernel)) (fun _ _ _ _ _ => pg_name (i := 4) scPush.nd rfl (Or.inl rfl)) (fun _ _ _ _ _ => pts_nil)
            (fun _ _ _ _ _ => pe_call F2 hr (by rfl) G2.at_ G2.kp G2.b .nil pass0 (pa_cons (pv 0) (pa_cons (pe_lst (pa_cons pe_str (pa_cons pe_str pa_nil))) pa_nil)))) pa_nil)))
      (pss_one (ps_expr (pe_bm PySem.F.plainAttrs_list PySem.F.slot_list_append PySem.F.type_list_append mt_append (pv 1) (pa_cons
        (pe_tup (pa_cons (pe_call F1 hr1 (by rfl) G1.at_ G1.kp G1.b .nil pass0 (pa_cons (pv 0) (pa_cons pe_int pa_nil)))
          (pa_cons (pe_call F2 hr (by rfl) G2.at_ G2.kp G2.b .nil pass0 (pa_cons (pv 0) (pa_cons (pe_lst (pa_cons pe_str (pa_cons pe_str pa_nil))) pa_nil)))
          (pa_cons (pe_call F1 hr1 (by rfl) G1.at_ G1.kp G1.b .nil pass0 (pa_cons (pv 0) (pa_cons pe_int pa_nil))) (pa_cons (pv 3)
          (pa_cons (pe_callTy call_int1 (by rfl) T.int (by decide +kernel) (pa_cons (pe_cmpR op_eq (pe_call F1 hr1 (by rfl) G1.at_ G1.kp G1.b .nil pass0 (pa_cons (pv 0) (pa_cons pe_int pa_nil))) pe_int (nomark _)) pa_nil)) pa_nil)))))) pa_nil))))))
      (pss_one (ps_ret (pe_callTy call_tuple_of (by rfl) T.tuple (by decide +kernel) (pa_cons (pv 1) pa_nil))))), ?_⟩
    refine ⟨Nat.zero_le _, fun l nl => ?_⟩
    obtain ⟨H1, e1, S1, hl1, _⟩ := newFacts (o := .lst []) nl
    rw [← e1]
    have d1 := hd.same S1
    have lcl : l ≠ cl := by
      obtain ⟨xs, hx⟩ := hd.there
      exact (ne_of_none hx nl).symm
    refine ⟨_, rfl, st, cl, 8, rfl, d1, by decide, by decide, fun n H2 n0 n1 B2 d2 => ?_⟩
    have hl2 := B2 _ _ (d1.ne hl1 fun _ z => nomatch z) hl1
    refine ⟨_, _, rfl, rfl, 1 + n, rfl, by omega, by omega, ?_⟩
    refine for_range (lo := 0) (n := (1 + n).toNat) (fun i σ H' => ∃ (v2 v3 : Option V) (ys : List V) (rs : List Rl), σ = [some (.ref st), some (.ref l), v2, v3, none] ∧ But st H H' ∧ DrawSt H' st cl ∧ H' l = some (.lst ys) ∧ Rep RlV H' ys rs ∧ (∀ r ∈ rs, RlB r) ∧ rs.length = i)
      ⟨none, none, [], [], rfl, (But.of S1).trans B2, d2, hl2, .nil, (fun r m => nomatch m), rfl⟩ ?_ ?_
    · rintro i σ H3 hi ⟨v2, v3, ys, rs, rfl, B, d, hl, ry, rb, el⟩
      -- w = tuple([..])
      refine ⟨_, rfl, (by show 5 ≤ sizeLine; decide), fun t5 nt5 => ?_⟩
      obtain ⟨H4, e4, S4, ht5, _⟩ := newFacts (o := .lst [.int 0, .int 0, .int 1, .int 2, .int 2]) nt5
      rw [← e4]
      refine ⟨st, cl, t5, _, rfl, d.same S4, ht5, (fun z => nomatch z), (by show 5 < 1000; decide), fun x H5 hx B5 d5 => ?_⟩
      have b4 := B.trans (But.of S4)
      obtain ⟨m, rfl, m0, m2⟩ : ∃ m : Int, x = .int m ∧ 0 ≤ m ∧ m ≤ 2 := by
        simp only [List.mem_cons, List.not_mem_nil, or_false] at hx
        rcases hx with rfl | rfl | rfl | rfl | rfl
        · exact ⟨0, rfl, by omega, by omega⟩
        · exact ⟨0, rfl, by omega, by omega⟩
        · exact ⟨1, rfl, by omega, by omega⟩
        · exact ⟨2, rfl, by omega, by omega⟩
        · exact ⟨2, rfl, by omega, by omega⟩
      have b5 := b4.trans B5
      have hl5 : H5 l = some (.lst ys) := B5 _ _ ((d.same S4).ne (S4 _ _ hl) fun _ z => nomatch z) (S4 _ _ hl)
      have T35 : TSame H3 H5 := S4.ts.trans (but_ts (d.same S4) B5)
      refine ⟨m, rfl, by omega, by omega, fun D nD => ?_⟩
      have Dst : D ≠ st := by
        obtain ⟨_, _, _, _, hs, _⟩ := id d5
        exact (ne_of_none hs nD).symm
      have Dcl : D ≠ cl := by
        obtain ⟨xs, hx⟩ := d5.there
        exact (ne_of_none hx nD).symm
      refine lc_range (lo := 0) (n := m.toNat) (fun j H' => But st H5 H' ∧ DrawSt H' st cl ∧ ∃ ws : List Str, H' D = some (.lst (ws.map V.str)) ∧ (∀ x ∈ ws, okS x) ∧ ws.length = j) ⟨But.of (same_new nD), d5.same (same_new nD), [], upd_same, (fun _ z => nomatch z), rfl⟩ ?_ ?_
      · rintro j H6 hj ⟨B6, d6, ws, hD, ok, lw⟩
        refine ⟨rfl, _, rfl, (by show 2 ≤ sizeLine; decide), fun t2 nt2 => ?_⟩
        obtain ⟨H7, e7, S7, ht2, _⟩ := newFacts (o := .lst [.str "a", .str "b"]) nt2
        rw [← e7]
        refine ⟨st, cl, t2, _, rfl, d6.same S7, ht2, (fun z => nomatch z), (by show 2 < 1000; decide), fun x H8 hx B8 d8 => ?_⟩
        obtain ⟨y, rfl, oy⟩ : ∃ y, x = .str y ∧ okS y := by
          simp only [List.mem_cons, List.not_mem_nil, or_false] at hx
          rcases hx with rfl | rfl
          · exact ⟨_, rfl, .inl rfl⟩
          · exact ⟨_, rfl, .inr rfl⟩
        have hD8 : H8 D = some (.lst (ws.map V.str)) := B8 _ _ Dst (S7 _ _ hD)
        refine ⟨_, hD8, small_line (by rw [List.length_map]; omega), but_put ((B6.trans (But.of S7)).trans B8) nD, d8.put hD8 Dcl, ws ++ [y], by rw [upd_same, List.map_append]; rfl, fun x hx => ?_, by rw [List.length_append, lw]; rfl⟩
        rcases List.mem_append.mp hx with z | z
        · exact ok x z
        · rw [List.mem_singleton.mp z]; exact oy
      · rintro H6 ⟨B6, d6, ws, hD, ok, lw⟩
        have hl6 : H6 l = some (.lst ys) := B6 _ _ (d5.ne hl5 fun _ z => nomatch z) hl5
        refine ⟨D, _, rfl, .inl ⟨sql hD, fun q nq => ?_⟩⟩
        obtain ⟨H7, e7, S7, hq, _⟩ := newFacts (o := .tup (ws.map V.str)) nq
        rw [← e7]
        have d7 := d6.same S7
        have T37 : TSame H3 H7 := (T35.trans (but_ts d5 B6)).trans S7.ts
        have b7 := (b5.trans B6).trans (But.of S7)
        have hl7 := S7 _ _ hl6
        -- rules.append((..))
        refine ⟨_, rfl, .inl ⟨rfl, _, sql hl7⟩, _, rfl, st, cl, 3, rfl, d7, by decide, by decide, fun p H8 p0 p1 B8 d8 => ?_⟩
        refine ⟨_, rfl, (by show 2 ≤ sizeLine; decide), fun t2 nt2 => ?_⟩
        obtain ⟨H9, e9, S9, ht2, _⟩ := newFacts (o := .lst [.str "a", .str "b"]) nt2
        rw [← e9]
        refine ⟨st, cl, t2, _, rfl, d8.same S9, ht2, (fun z => nomatch z), (by show 2 < 1000; decide), fun x Ha hx Ba da => ?_⟩
        obtain ⟨y, rfl, oy⟩ : ∃ y, x = .str y ∧ okS y := by
          simp only [List.mem_cons, List.not_mem_nil, or_false] at hx
          rcases hx with rfl | rfl
          · exact ⟨_, rfl, .inl rfl⟩
          · exact ⟨_, rfl, .inr rfl⟩
        refine ⟨_, rfl, st, cl, 3, rfl, da, by decide, by decide, fun q2 Hb q0 q1 Bb db => ?_⟩
        refine ⟨_, rfl, _, rfl, st, cl, 3, rfl, db, by decide, by decide, fun z Hc z0 z1 Bc dc => ?_⟩
        have bc : But st H7 Hc := ((B8.trans (But.of S9)).trans Ba).trans (Bb.trans Bc)
        have hlc := bc _ _ (d7.ne hl7 fun _ z => nomatch z) hl7
        have T7c : TSame H7 Hc := but_ts d7 bc
        refine ⟨rfl, .inr ⟨_, rfl, (by show 5 ≤ sizeLine; decide), fun p5 np5 => ?_⟩⟩
        obtain ⟨Hd, ed, Sd, hp5, _⟩ := newFacts (o := .tup [.int p, .str y, .int q2, .ref q, .int (if decide (V.int z = V.int 0) = true then 1 else 0)]) np5
        rw [← ed]
        have hld := Sd _ _ hlc
        have short := ry.len
        have i8 : i < 9 := by omega
        refine ⟨l, ys, _, rfl, rfl, hld, small_line (by omega), ?_⟩
        have Tde : TSame Hd (upd Hd l (.lst (ys ++ [.ref p5]))) := ts_put hld fun _ z => nomatch z
        have T3e := ((T37.trans T7c).trans Sd.ts).trans Tde
        refine ⟨_, _, _, rs ++ [⟨p, y, q2, ws, if decide (V.int z = V.int 0) = true then 1 else 0⟩], rfl, but_put ((b7.trans bc).trans (But.of Sd)) nl, (dc.same Sd).put hld lcl, upd_same, ?_, ?_, by rw [List.length_append, el]; rfl⟩
        · refine rep_snoc (rep_mono (fun v d x => RlV.ts x T3e) ry) ⟨⟨oy, ok, by rw [lw]; omega⟩, p5, q, rfl, Tde _ _ hp5, Tde _ _ (Sd.ts _ _ (T7c _ _ hq))⟩
        · intro r hr
          rcases List.mem_append.mp hr with m | m
          · exact rb r m
          · rw [List.mem_singleton.mp m]
            refine ⟨p0, p1, q0, q1, ?_, ?_⟩
            · show 0 ≤ (if decide (V.int z = V.int 0) = true then (1 : Int) else 0)
              split <;> omega
            · show (if decide (V.int z = V.int 0) = true then (1 : Int) else 0) ≤ 1
              split <;> omega
    · rintro σ H3 ⟨v2, v3, ys, rs, rfl, B, d, hl, ry, rb, el⟩
      refine ⟨_, rfl, l, ys, rfl, .inl ⟨sql hl, fun t nt => ?_⟩⟩
      obtain ⟨H4, e4, S4, ht, _⟩ := newFacts (o := .tup ys) nt
      rw [← e4]
      exact k t ys rs H4 (B.trans (But.of S4)) (d.same S4) ht (rep_mono (fun v d x => RlV.ts x S4.ts) ry) rb (fun z => by rw [z] at el; simp at el; omega) (by omega)
end
end Wk

namespace Wk
open PySem L2
/-! ### endings -/
abbrev enH (e : En) : Hd := (e.1, e.2.1)
abbrev enQ (e : En) : Int := e.2.2.1
abbrev enF (e : En) : Int := e.2.2.2
inductive Snd (rs : List Rl) : En → Prop
  | zero {r : Rl} : r ∈ rs → r.w = [] → Snd rs (r.p, r.s, r.q, r.m)
  | one {r : Rl} {x : Str} {e : En} : r ∈ rs → r.w = [x] → Snd rs e → enH e = (r.q, x) → Snd rs (r.p, r.s, enQ e, max r.m (enF e))
  | two {r : Rl} {x y : Str} {e e2 : En} : r ∈ rs → r.w = [x, y] → Snd rs e → enH e = (r.q, x) → Snd rs e2 → enH e2 = (enQ e, y) → Snd rs (r.p, r.s, enQ e2, max (max r.m (enF e)) (enF e2))
def EnB (e : En) : Prop := 0 ≤ e.1 ∧ e.1 < 3 ∧ okS e.2.1 ∧ 0 ≤ enQ e ∧ enQ e < 3 ∧ 0 ≤ enF e ∧ enF e ≤ 1
def UE : List En := ([0, 1, 2] : List Int).flatMap fun p => (["a", "b"] : List Str).flatMap fun s => ([0, 1, 2] : List Int).flatMap fun q => ([0, 1] : List Int).map fun f => (p, s, q, f)
theorem UE_len : UE.length = 36 := by decide +kernel
theorem three {p : Int} (h0 : 0 ≤ p) (h1 : p < 3) : p ∈ ([0, 1, 2] : List Int) := by
  have : p = 0 ∨ p = 1 ∨ p = 2 := by omega
  simpa using this
theorem EnB.mem {e : En} (b : EnB e) : e ∈ UE := by
  obtain ⟨p, s, q, f⟩ := e
  obtain ⟨p0, p1, os, q0, q1, f0, f1⟩ := b
  refine List.mem_flatMap.mpr ⟨p, three p0 p1, List.mem_flatMap.mpr ⟨s, ?_, List.mem_flatMap.mpr ⟨q, three q0 q1, List.mem_map.mpr ⟨f, ?_, rfl⟩⟩⟩⟩
  · rcases os with h | h <;> simp only at h <;> rw [h] <;> simp
  · have f0 : (0 : Int) ≤ f := f0
    have f1 : f ≤ 1 := f1
    have : f = 0 ∨ f = 1 := by omega
    simpa using this
/-- sound, and in the few -/
abbrev Good (rs : List Rl) (e : En) : Prop := Snd rs e ∧ EnB e
theorem good_few {rs : List Rl} {F : List En} (nd : F.Nodup) (h : ∀ e ∈ F, Good rs e) : F.length ≤ 36 := by
  rw [← UE_len]
  exact nodup_le nd fun e m => (h e m).2.mem
section
variable {rs : List Rl} {r : Rl} (hr : r ∈ rs) (rb : RlB r) (os : okS r.s)
theorem good_zero (hr : r ∈ rs) (rb : RlB r) (os : okS r.s) (w : r.w = []) : Good rs (r.p, r.s, r.q, r.m) := ⟨.zero hr w, rb.1, rb.2.1, os, rb.2.2⟩
theorem good_one (hr : r ∈ rs) (rb : RlB r) (os : okS r.s) {x : Str} {e : En} (w : r.w = [x]) (g : Good rs e) (h : enH e = (r.q, x)) : Good rs (r.p, r.s, enQ e, max r.m (enF e)) := by
  obtain ⟨_, _, _, q0, q1, f0, f1⟩ := g.2
  obtain ⟨p0, p1, _, _, m0, m1⟩ := rb
  exact ⟨.one hr w g.1 h, p0, p1, os, q0, q1, by show 0 ≤ max r.m (enF e); omega, by show max r.m (enF e) ≤ 1; omega⟩
theorem good_two (hr : r ∈ rs) (rb : RlB r) (os : okS r.s) {x y : Str} {e e2 : En} (w : r.w = [x, y]) (g : Good rs e) (h : enH e = (r.q, x)) (g2 : Good rs e2) (h2 : enH e2 = (enQ e, y)) : Good rs (r.p, r.s, enQ e2, max (max r.m (enF e)) (enF e2)) := by
  obtain ⟨_, _, _, q0, q1, f0, f1⟩ := g2.2
  obtain ⟨_, _, _, _, _, e0, e1⟩ := g.2
  obtain ⟨p0, p1, _, _, m0, m1⟩ := rb
  exact ⟨.two hr w g.1 h g2.1 h2, p0, p1, os, q0, q1, by show 0 ≤ max (max r.m (enF e)) (enF e2); omega, by show max (max r.m (enF e)) (enF e2) ≤ 1; omega⟩
end
/-- as entries of a set -/
theorem rep_ents {H : Hp} {ys : List V} {M : List En} (r : Rep EnV H ys M) : ∃ ks : List Qe, ys = ks.map (fun p => V.ref p.1) ∧ ks.map (·.2) = M ∧ ∀ p ∈ ks, EnAt H p.1 p.2 ∧ okS p.2.2.1 := by
  induction r with
  | nil => exact ⟨[], rfl, rfl, fun p m => nomatch m⟩
  | cons h _ ih =>
    obtain ⟨ks, e1, e2, h3⟩ := ih
    obtain ⟨o, a, ea, h4⟩ := h
    refine ⟨(a, _) :: ks, by rw [ea, e1]; rfl, by rw [List.map_cons, e2], fun p m => ?_⟩
    rcases List.mem_cons.mp m with z | z
    · rw [z]; exact ⟨h4, o⟩
    · exact h3 p z
theorem ents_rep {H : Hp} : ∀ {ks : List Qe}, (∀ p ∈ ks, EnAt H p.1 p.2 ∧ okS p.2.2.1) → Rep EnV H (ks.map fun p => V.ref p.1) (ks.map (·.2))
  | [], _ => .nil
  | p :: ks, h => .cons ⟨(h p List.mem_cons_self).2, p.1, rfl, (h p List.mem_cons_self).1⟩ (ents_rep fun q m => h q (List.mem_cons_of_mem _ m))
/-- the first two of an ending -/
theorem cut2 (a b c d : V) : cutV [a, b, c, d] none (some 2) = [a, b] := rfl
theorem part4 : ¬ (HT.sIx 4 0 none = 0 ∧ HT.sIx 4 4 (some 2) = 4) := by decide
theorem part5 : ¬ (HT.sIx 5 0 none = 0 ∧ HT.sIx 5 5 (some 2) = 5) := by decide
end Wk

namespace Wk
open PySem L2
def spEnds : Sp := fun vs H Q _ => ∃ (t : Addr) (xs : List V) (rs : List Rl), vs = [.ref t] ∧ H t = some (.tup xs) ∧ Rep RlV H xs rs ∧ (∀ r ∈ rs, RlB r) ∧ rs.length ≤ 8 ∧
  ∀ l ys F H', Same H H' → H l = none → H' l = some (.lst ys) → Rep EnV H' ys F → F.Nodup → (∀ e ∈ F, Good rs e) → Q (.ref l) H'
abbrev nmEnds : List Str := ["_law_rules", "_law_found", "_law_turn", "_law_more", "_law_p", "_law_s", "_law_q", "_law_w", "_law_m", "_law_one", "_law_after", "_law_missing", "_law_two", "_law_each"]
theorem len01 {α : Type} {l : List α} (h : l.length ≤ 2) : l = [] ∨ (∃ x, l = [x]) ∨ ∃ x y, l = [x, y] := by
  match l, h with
  | [], _ => exact .inl rfl
  | [x], _ => exact .inr (.inl ⟨x, rfl⟩)
  | [x, y], _ => exact .inr (.inr ⟨x, y, rfl⟩)
  | _ :: _ :: _ :: _, h => simp at h
theorem dec_int_iff {a b : Int} : (decide (V.int a = V.int b) = true) ↔ a = b := by simp
section
variable {P : Program} {w : World} {K : PySem.W.Frag} {mg : Str → Option Value} {base : Heap}
theorem scEnds : FnScope nmEnds ["_law_rules"] (defScope sEnds) := ⟨rfl, rfl, rfl, by decide +kernel, rfl, by decide +kernel, by decide +kernel⟩
theorem ok_ends {f : Addr} {fd : FuncData} (F : Fun K "_law_endings" "_law_endings" sEnds f fd) (T : Txt mg) : FnOk P w K mg base CX0 1 f fd ["_law_rules"] spEnds := by
  refine F.ok scEnds (fun vs H Q E h => ?_) (fun cdv A outer s H vs Q E hr h => ?_)
  · obtain ⟨t, xs, rs, rfl, _⟩ := h
    rfl
  · obtain ⟨t, xs, rs, rfl, ht, rr, rb, few, k⟩ := h
    have hu65 : (A.deeper (PyProof.Rows.envOfC (Str.ofString "_law_endings") (defScope sEnds) s.heap.objs.size f cdv)).units + 65 < cLine := by have := hr.un; omega
    have hu64 : (A.deeper (PyProof.Rows.envOfC (Str.ofString "_law_endings") (defScope sEnds) s.heap.objs.size f cdv)).units + 64 < cLine := by omega
    refine ⟨_, pss_cons (ps_set (i := 1) scEnds.nd rfl (.inr rfl) (pe_lst pa_nil)) (pss_cons (ps_for PassesOwn.never rfl (pi_range1 (by rfl) T.range (pa_cons pe_int pa_nil)) (pg_name (i := 2) scEnds.nd rfl (.inl rfl))
      (pss_cons (ps_set (i := 3) scEnds.nd rfl (.inl rfl) (pe_lst pa_nil))
      (pss_cons (ps_for PassesOwn.never rfl (pi_tup (pv 0)) (pg_tup rfl (pgs_cons (pg_name (i := 4) scEnds.nd rfl (.inr rfl)) (pgs_cons (pg_name (i := 5) scEnds.nd rfl (.inr rfl)) (pgs_cons (pg_name (i := 6) scEnds.nd rfl (.inl rfl)) (pgs_cons (pg_name (i := 7) scEnds.nd rfl (.inr rfl)) (pgs_cons (pg_name (i := 8) scEnds.nd rfl (.inr rfl)) pgs_nil))))))
        (C8.pss_cut (ps_if (pt_cmpR op_eq (pe_callB call_len_seq (by rfl) T.len (by decide +kernel) (pa_cons (pv 7) pa_nil)) pe_int (nomark _))
          (pss_one (ps_expr (pe_bm PySem.F.plainAttrs_list PySem.F.slot_list_append PySem.F.type_list_append mt_append (pv 3) (pa_cons (pe_tup (pa_cons (pv 4) (pa_cons (pv 5) (pa_cons (pv 6) (pa_cons (pv 8) pa_nil))))) pa_nil)))) pss_nil)
        (pss_one (ps_for PassesOwn.never rfl (pi_list (pv 1)) (pg_name (i := 9) scEnds.nd rfl (.inr rfl))
          (pss_one (ps_if (PW.pt (pw_and (pt_cmpR op_gt (pe_callB call_len_seq (by rfl) T.len (by decide +kernel) (pa_cons (pv 7) pa_nil)) pe_int (nomark _))
              (pw_and1 (pt_cmpR (op_eqK kHd hu64) (pe_slice (slT K) (pv 9) po_none (po_some pe_int)) (pe_tup (pa_cons (pv 6) (pa_cons (pe_ix (ixT K) (pv 7) pe_int (fun _ _ => rfl)) pa_nil))) (nomark _)))))
            (pss_one (ps_if (pt_cmpR op_eq (pe_callB call_len_seq (by rfl) T.len (by decide +kernel) (pa_cons (pv 7) pa_nil)) pe_int (nomark _))
              (pss_one (ps_expr (pe_bm PySem.F.plainAttrs_list PySem.F.slot_list_append PySem.F.type_list_append mt_append (pv 3) (pa_cons (pe_tup (pa_cons (pv 4) (pa_cons (pv 5) (pa_cons (pe_ix (ixT K) (pv 9) pe_int (fun _ _ => rfl))
                (pa_cons (pe_callB (call_maxP rfl) (by rfl) T.max (by decide +kernel) (pa_cons (pv 8) (pa_cons (pe_ix (ixT K) (pv 9) pe_int (fun _ _ => rfl)) pa_nil))) pa_nil))))) pa_nil))))
              (pss_cons (ps_setLc (i := 10) (own := [("_law_two", 12)]) (g := gName 12) (tt := _) rfl scEnds.nd rfl rfl (sw_true rfl rfl rfl (by decide +kernel)) (pi_list (pv 1)) (blkOk_by (N := nmEnds) (sc := defScope sEnds) (by decide +kernel))
                  (fun _ _ _ _ _ => pg_name (i := 12) scEnds.nd rfl (Or.inl rfl))
                  (fun _ _ _ _ _ => pts_one (pt_cmpR (op_eqK kHd hu64) (pe_slice (slT K) (pv 12) po_none (po_some pe_int)) (pe_tup (pa_cons (pe_ix (ixT K) (pv 9) pe_int (fun _ _ => rfl)) (pa_cons (pe_ix (ixT K) (pv 7) pe_int (fun _ _ => rfl)) pa_nil))) (nomark _)))
                  (fun _ _ _ _ _ => pv 12))
              (pss_one (ps_expr (pe_bm PySem.F.plainAttrs_list PySem.F.slot_list_extend PySem.F.type_list_extend mt_extend (pv 3) (pa_cons
                (pe_lc (own := [("_law_two", 12)]) (g := gName 12) (tt := tYes) rfl scEnds.nd (pi_list (pv 10)) (blkOk_by (N := nmEnds) (sc := defScope sEnds) (by decide +kernel))
                  (fun _ _ _ _ _ => pg_name (i := 12) scEnds.nd rfl (Or.inl rfl)) (fun _ _ _ _ _ => pts_nil)
                  (fun _ _ _ _ _ => pe_tup (pa_cons (pv 4) (pa_cons (pv 5) (pa_cons (pe_ix (ixT K) (pv 12) pe_int (fun _ _ => rfl))
                    (pa_cons (pe_callB (call_max3 rfl) (by rfl) T.max (by decide +kernel) (pa_cons (pv 8) (pa_cons (pe_ix (ixT K) (pv 9) pe_int (fun _ _ => rfl)) (pa_cons (pe_ix (ixT K) (pv 12) pe_int (fun _ _ => rfl)) pa_nil)))) pa_nil)))))) pa_nil)))))))
            pss_nil))))))
      (pss_cons (ps_set (i := 11) scEnds.nd rfl (.inl rfl) (pe_callB (cr_sortedQ rfl hu64) (by rfl) T.sorted (by decide +kernel) (pa_cons (pe_callTy (cr_setQ rfl hu64) (by rfl) T.set (by decide +kernel) (pa_cons
          (pe_lc (own := [("_law_each", 13)]) (g := gName 13) (tt := _) rfl scEnds.nd (pi_list (pv 3)) (blkOk_by (N := nmEnds) (sc := defScope sEnds) (by decide +kernel))
            (fun _ _ _ _ _ => pg_name (i := 13) scEnds.nd rfl (Or.inl rfl)) (fun _ _ _ _ _ => pts_one (pt_cmpR (opNotIn kEn K hu65) (pv 13) (pv 1) (by rfl))) (fun _ _ _ _ _ => pv 13)) pa_nil)) pa_nil)))
      (pss_cons (ps_if (pt_cmpR op_eq (pe_callB call_len_seq (by rfl) T.len (by decide +kernel) (pa_cons (pv 11) pa_nil)) pe_int (nomark _)) (pss_one ps_break) pss_nil)
      (pss_one (ps_expr (pe_bm PySem.F.plainAttrs_list PySem.F.slot_list_extend PySem.F.type_list_extend mt_extend (pv 1) (pa_cons (pv 11) pa_nil)))))))))
      (pss_one (ps_ret (pv 1)))), ?_⟩
    refine ⟨Nat.zero_le _, fun l nl => ?_⟩
    obtain ⟨H1, e1, S1, hl1, _⟩ := newFacts (o := .lst []) nl
    rw [← e1]
    have few36 : ∀ {F : List En}, F.Nodup → (∀ e ∈ F, Good rs e) → F.length ≤ 36 := fun nd g => good_few nd g
    refine ⟨200, rfl, by decide, by decide, for_range (lo := 0) (n := 200) (fun i σ H' => ∃ (v2 v3 v4 v5 v6 v7 v8 v9 v10 v11 : Option V) (ys : List V) (F : List En), σ = [some (.ref t), some (.ref l), v2, v3, v4, v5, v6, v7, v8, v9, v10, v11, none, none] ∧
        Same H H' ∧ H' l = some (.lst ys) ∧ Rep EnV H' ys F ∧ F.Nodup ∧ ∀ e ∈ F, Good rs e)
      ⟨none, none, none, none, none, none, none, none, none, none, [], [], rfl, S1, hl1, .nil, .nil, (fun e m => nomatch m)⟩ ?_ ?_⟩
    · rintro i σ H2 _ ⟨v2, v3, v4, v5, v6, v7, v8, v9, v10, v11, ys, F, rfl, S2, hl2, rF, nd, gF⟩
      have F36 := few36 nd gF
      have lF := rF.len
      -- more = []
      refine ⟨Nat.zero_le _, fun mr nmr => ?_⟩
      obtain ⟨H3, e3, S3, hmr3, _⟩ := newFacts (o := .lst []) nmr
      rw [← e3]
      have lmr : l ≠ mr := ne_of_none hl2 nmr
      have tAt : ∀ {H' : Hp}, Same H2 H' → H' t = some (.tup xs) := fun S => S _ _ (S2 _ _ ht)
      refine ⟨_, rfl, t, rfl, ⟨_, sqt (tAt S3)⟩, for_tup (K := K) (a := t) (xs := xs) (fun j σ H' => ∃ (v4 v5 v6 v7 v8 v9 v10 : Option V) (ms : List V) (M : List En), σ = [some (.ref t), some (.ref l), some (.int (0 + ((i : Nat) : Int))), some (.ref mr), v4, v5, v6, v7, v8, v9, v10, v11, none, none] ∧
          Same H2 H' ∧ H' mr = some (.lst ms) ∧ Rep EnV H' ms M ∧ (∀ e ∈ M, Good rs e) ∧ M.length ≤ 2000 * j)
        ⟨v4, v5, v6, v7, v8, v9, v10, [], [], rfl, S3, hmr3, .nil, (fun e m => nomatch m), Nat.zero_le _⟩ (fun i σ H' _ ⟨_, _, _, _, _, _, _, _, _, _, S, _⟩ => sqt (tAt S)) ?_ ?_⟩
      · rintro j x σ H4 hx ⟨v4, v5, v6, v7, v8, v9, v10, ms, M, rfl, S4, hm4, rM, gM, lM⟩
        obtain ⟨r, er, xr⟩ := rep_get rr hx
        have rmem := List.mem_of_getElem? er
        have rbr := rb r rmem
        have j8 : j < 8 := by
          have := (List.getElem?_eq_some_iff.mp er).1
          omega
        obtain ⟨⟨os, ow, lw⟩, a, b, rfl, ea, eb⟩ := RlV.ts xr (S2.ts.trans S4.ts)
        refine ⟨a, _, rfl, sqt ea, rfl, _, _, rfl, _, _, rfl, _, _, rfl, _, _, rfl, _, _, rfl, rfl, ?_⟩
        have lenW : (r.w.map V.str).length = r.w.length := List.length_map ..
        refine ⟨fun σ' H' => σ' = [some (.ref t), some (.ref l), some (.int (0 + ((i : Nat) : Int))), some (.ref mr), some (.int r.p), some (.str r.s), some (.int r.q), some (.ref b), some (.int r.m), v9, v10, v11, none, none] ∧
          Same H2 H' ∧ H' b = some (.tup (r.w.map V.str)) ∧ ∃ (ms : List V) (M : List En), H' mr = some (.lst ms) ∧ Rep EnV H' ms M ∧ (∀ e ∈ M, Good rs e) ∧ M.length ≤ 2000 * j + 1, ?_, ?_⟩
        · -- if len(w) == 0
          refine ⟨_, rfl, b, _, rfl, .inr (sqt eb), rfl, _, rfl, ite2 (fun c => ?_) (fun c => ?_)⟩
          · have w0 : r.w = [] := by
              rw [dec_int_iff, lenW] at c
              exact List.length_eq_zero_iff.mp (by omega)
            refine ⟨_, rfl, .inl ⟨rfl, _, sql hm4⟩, _, rfl, _, rfl, _, rfl, _, rfl, (by show 4 ≤ sizeLine; decide), fun p np => ?_⟩
            obtain ⟨H5, e5, S5, hp5, _⟩ := newFacts (o := .tup [.int r.p, .str r.s, .int r.q, .int r.m]) np
            rw [← e5]
            have short := rM.len
            have hm5 := S5 _ _ hm4
            refine ⟨mr, ms, _, rfl, rfl, hm5, small_line (by omega), ?_⟩
            obtain ⟨c1, c2, c3⟩ := push_rep (R := EnV) EnV.ts (e := (r.p, r.s, r.q, r.m)) (S4.trans S5) nmr hm5 (rep_mono (fun v d q => EnV.ts q S5.ts) rM) (show EnV H5 (.ref p) (r.p, r.s, r.q, r.m) from ⟨os, p, rfl, hp5⟩)
            refine ⟨rfl, c1, ?_, _, _, c2, c3, fun e m => ?_, by rw [List.length_append]; simp; omega⟩
            · exact ts_put hm5 (fun _ z => nomatch z) _ _ (S5 _ _ eb)
            · rcases List.mem_append.mp m with z | z
              · exact gM e z
              · rw [List.mem_singleton.mp z]; exact good_zero rmem rbr os w0
          · exact ⟨rfl, S4, eb, ms, M, hm4, rM, gM, by omega⟩
        · rintro σ' H5 ⟨rfl, S5, eb5, ms, M, hm5, rM, gM, lM⟩
          -- for one in found
          refine ⟨_, rfl, l, rfl, ⟨_, sql (S5 _ _ hl2)⟩, for_list (K := K) (a := l) (xs := ys) (fun u σ' H' => ∃ (v9 v10 : Option V), σ' = [some (.ref t), some (.ref l), some (.int (0 + ((i : Nat) : Int))), some (.ref mr), some (.int r.p), some (.str r.s), some (.int r.q), some (.ref b), some (.int r.m), v9, v10, v11, none, none] ∧
            Same H2 H' ∧ H' b = some (.tup (r.w.map V.str)) ∧ ∃ (ms : List V) (M : List En), H' mr = some (.lst ms) ∧ Rep EnV H' ms M ∧ (∀ e ∈ M, Good rs e) ∧ M.length ≤ 2000 * j + 1 + 36 * u)
            ⟨v9, v10, rfl, S5, eb5, ms, M, hm5, rM, gM, by omega⟩ (fun u σ H' _ ⟨_, _, _, S, _⟩ => sql (S _ _ hl2)) ?_ ?_⟩
          · rintro u x σ H6 hx ⟨v9, v10, rfl, S6, eb6, ms, M, hm6, rM, gM, lM⟩
            obtain ⟨e, ee, xe⟩ := rep_get rF hx
            have eF := List.mem_of_getElem? ee
            have u36 : u < 36 := by
              have := (List.getElem?_eq_some_iff.mp ee).1
              omega
            obtain ⟨oe, ae, rfl, he6⟩ := EnV.ts xe S6.ts
            -- if len(w) > 0 and one[:2] == (q, w[0])
            refine ⟨_, rfl, b, _, rfl, .inr (sqt eb6), _, _, rfl, rfl, _, rfl, ite2 (fun c => ?_) (fun c => ?_)⟩
            · have w0 : r.w ≠ [] := fun z => by rw [z] at c; simp at c
              obtain ⟨x0, wr, hw⟩ : ∃ x0 wr, r.w = x0 :: wr := List.exists_cons_of_ne_nil w0
              have ox : okS x0 := ow x0 (by rw [hw]; exact List.mem_cons_self)
              -- one[:2]
              refine ⟨_, rfl, 2, rfl, ae, _, rfl, sqt he6, part4, fun p np => ?_⟩
              obtain ⟨H7, e7, S7, hp7, _⟩ := newFacts (o := .tup (cutV [V.int e.1, .str e.2.1, .int e.2.2.1, .int e.2.2.2] none (some 2))) np
              rw [← e7]
              refine ⟨_, rfl, _, rfl, b, _, 0, _, rfl, rfl, sqt (S7 _ _ eb6), atI_nat (j := 0) (by rw [hw]; rfl), (by show 2 ≤ sizeLine; decide), fun p2 np2 => ?_⟩
              obtain ⟨H8, e8, S8, hp8, _⟩ := newFacts (o := .tup [.int r.q, .str x0]) np2
              rw [← e8]
              have S68 := S7.trans S8
              have eb8 := S68 _ _ eb6
              refine ⟨enH e, (r.q, x0), ⟨oe, p, rfl, S8 _ _ hp7⟩, ⟨ox, p2, rfl, hp8⟩, _, rfl, ite2 (fun ce => ?_) (fun ce => ?_)⟩
              · have heq : enH e = (r.q, x0) := of_decide_eq_true ce
                have he8 := S68 _ _ he6
                have hm8 := S68 _ _ hm6
                have rM8 := rep_mono (fun v d q => EnV.ts q S68.ts) rM
                have S8' := S6.trans S68
                have short := rM.len
                refine ⟨_, rfl, b, _, rfl, .inr (sqt eb8), rfl, _, rfl, ite2 (fun c1 => ?_) (fun c1 => ?_)⟩
                · have w1 : r.w = [x0] := by
                    rw [dec_int_iff, lenW, hw, List.length_cons] at c1
                    rw [hw, List.length_eq_zero_iff.mp (show wr.length = 0 by omega)]
                  refine ⟨_, rfl, .inl ⟨rfl, _, sql hm8⟩, _, rfl, _, rfl, _, rfl, ae, _, 2, _, rfl, rfl, sqt he8, atI_nat (j := 2) rfl, _, rfl, _, rfl, ae, _, 3, _, rfl, rfl, sqt he8, atI_nat (j := 3) rfl, _, _, rfl, (by show 4 ≤ sizeLine; decide), fun p3 np3 => ?_⟩
                  obtain ⟨H9, e9, S9, hp9, _⟩ := newFacts (o := .tup [.int r.p, .str r.s, .int e.2.2.1, .int (max r.m e.2.2.2)]) np3
                  rw [← e9]
                  have hm9 := S9 _ _ hm8
                  refine ⟨mr, ms, _, rfl, rfl, hm9, small_line (by omega), ?_⟩
                  obtain ⟨d1, d2, d3⟩ := push_rep (R := EnV) EnV.ts (e := (r.p, r.s, enQ e, max r.m (enF e))) (S8'.trans S9) nmr hm9 (rep_mono (fun v d q => EnV.ts q S9.ts) rM8) (show EnV H9 (.ref p3) (r.p, r.s, enQ e, max r.m (enF e)) from ⟨os, p3, rfl, hp9⟩)
                  refine ⟨_, _, rfl, d1, ts_put hm9 (fun _ z => nomatch z) _ _ (S9 _ _ eb8), _, _, d2, d3, fun e' m => ?_, by rw [List.length_append]; simp; omega⟩
                  rcases List.mem_append.mp m with z | z
                  · exact gM e' z
                  · rw [List.mem_singleton.mp z]; exact good_one rmem rbr os w1 (gF e eF) heq
                · obtain ⟨y0, w2⟩ : ∃ y0, r.w = [x0, y0] := by
                    rw [dec_int_iff, lenW, hw, List.length_cons] at c1
                    rw [hw, List.length_cons] at lw
                    rcases len01 (l := wr) (by omega) with z | ⟨y, z⟩ | ⟨y, y', z⟩
                    · rw [z] at c1; simp at c1
                    · exact ⟨y, by rw [hw, z]⟩
                    · rw [z] at lw; simp at lw
                  have oy : okS y0 := ow y0 (by rw [w2]; simp)
                  -- after = [..]
                  have hl8 := S8' _ _ hl2
                  have rF8 : Rep EnV H8 ys F := rep_mono (fun v d q => EnV.ts q S8'.ts) rF
                  refine ⟨_, rfl, l, rfl, ⟨_, sql hl8⟩, fun D nD => ?_⟩
                  refine lc_list_rep (K := K) (A := EnV) (B := EnV) (ds := F) (f := fun e2 => if enH e2 = (enQ e, y0) then some e2 else none) EnV.ts EnV.ts (sql hl8) rF8 (by omega) nD ?_ ?_
                  · rintro x d Hx Nx Sk dm ⟨od, ad, rfl, hd⟩ Sx nx sk
                    refine ⟨rfl, _, rfl, 2, rfl, ad, _, rfl, sqt hd, part4, fun p3 np3 => ?_⟩
                    obtain ⟨H9, e9, S9, hp9, _⟩ := newFacts (o := .tup (cutV [V.int d.1, .str d.2.1, .int d.2.2.1, .int d.2.2.2] none (some 2))) np3
                    rw [← e9]
                    refine ⟨_, rfl, ae, _, 2, _, rfl, rfl, sqt (S9 _ _ (Sx _ _ he8)), atI_nat (j := 2) rfl, _, rfl, b, _, 1, _, rfl, rfl, sqt (S9 _ _ (Sx _ _ eb8)), atI_nat (j := 1) (by rw [w2]; rfl), (by show 2 ≤ sizeLine; decide), fun p4 np4 => ?_⟩
                    obtain ⟨Ha, ea', Sa, hpa, _⟩ := newFacts (o := .tup [.int e.2.2.1, .str y0]) np4
                    rw [← ea']
                    refine ⟨enH d, (enQ e, y0), ⟨od, p3, rfl, Sa _ _ hp9⟩, ⟨oy, p4, rfl, hpa⟩, _, rfl, ite2 (fun c => ?_) (fun c => ?_)⟩
                    · exact ⟨_, rfl, nx _ d _ (if_pos (of_decide_eq_true c)) (S9.trans Sa) ⟨od, ad, rfl, Sa _ _ (S9 _ _ hd)⟩⟩
                    · exact sk _ (if_neg (of_decide_eq_false (by simpa using c))) (S9.trans Sa)
                  · intro H9 zs S9 hD9 rZ
                    -- more.extend([..])
                    have hm9 := S9 _ _ hm8
                    refine ⟨_, rfl, .inl ⟨rfl, _, sql hm9⟩, _, rfl, D, rfl, ⟨_, sql hD9⟩, fun D2 nD2 => ?_⟩
                    have lZ : (F.filterMap fun e2 => if enH e2 = (enQ e, y0) then some e2 else none).length ≤ 36 := Nat.le_trans (List.length_filterMap_le _ _) F36
                    refine lc_list_rep (K := K) (A := EnV) (B := EnV) (f := fun e2 => some (r.p, r.s, enQ e2, max (max r.m (enF e)) (enF e2))) EnV.ts EnV.ts (sql hD9) rZ (by omega) nD2 ?_ ?_
                    · rintro x d Hx Nx Sk dm ⟨od, ad, rfl, hd⟩ Sx nx sk
                      refine ⟨rfl, _, rfl, _, rfl, _, rfl, ad, _, 2, _, rfl, rfl, sqt hd, atI_nat (j := 2) rfl, _, rfl, _, rfl, ae, _, 3, _, rfl, rfl, sqt (Sx _ _ (S9 _ _ he8)), atI_nat (j := 3) rfl, _, rfl, ad, _, 3, _, rfl, rfl, sqt hd, atI_nat (j := 3) rfl, _, _, _, rfl, (by show 4 ≤ sizeLine; decide), fun p5 np5 => ?_⟩
                      obtain ⟨Hb, eb', Sb, hpb, _⟩ := newFacts (o := .tup [.int r.p, .str r.s, .int d.2.2.1, .int (max (max r.m e.2.2.2) d.2.2.2)]) np5
                      rw [← eb']
                      exact nx _ _ _ rfl Sb ⟨os, p5, rfl, hpb⟩
                    · intro Hc zs2 Sc hDc rZc
                      have hmc := Sc _ _ hm9
                      have lz := rZc.len
                      have lz2 := List.length_filterMap_le (fun e2 : En => some ((r.p, r.s, enQ e2, max (max r.m (enF e)) (enF e2)) : En)) (F.filterMap fun e2 => if enH e2 = (enQ e, y0) then some e2 else none)
                      refine ⟨mr, D2, ms, zs2, rfl, rfl, hmc, hDc, Nat.le_of_lt (small_line (by omega)), ?_⟩
                      obtain ⟨d1, d2, d3⟩ := more_rep (R := EnV) EnV.ts ((S8'.trans S9).trans Sc) nmr hmc (rep_mono (fun v d q => EnV.ts q (S9.trans Sc).ts) rM8) rZc
                      refine ⟨_, _, rfl, d1, ts_put hmc (fun _ z => nomatch z) _ _ (Sc _ _ (S9 _ _ eb8)), _, _, d2, d3, fun e' m => ?_, by rw [List.length_append]; omega⟩
                      rcases List.mem_append.mp m with z | z
                      · exact gM e' z
                      · obtain ⟨e2, m2, q2⟩ := List.mem_filterMap.mp z
                        obtain ⟨e3, m3, q3⟩ := List.mem_filterMap.mp m2
                        split at q3
                        · rename_i hh
                          cases q3
                          cases q2
                          exact good_two rmem rbr os w2 (gF e eF) heq (gF e2 m3) hh
                        · cases q3
              · exact ⟨_, _, rfl, S6.trans S68, eb8, ms, M, S68 _ _ hm6, rep_mono (fun v d q => EnV.ts q S68.ts) rM, gM, by omega⟩
            · exact ⟨_, _, rfl, S6, eb6, ms, M, hm6, rM, gM, by omega⟩
          · rintro σ H6 ⟨v9, v10, rfl, S6, eb6, ms, M, hm6, rM, gM, lM⟩
            exact ⟨_, _, _, _, _, _, _, ms, M, rfl, S6, hm6, rM, gM, by omega⟩
      · rintro σ H4 ⟨v4, v5, v6, v7, v8, v9, v10, ms, M, rfl, S4, hm4, rM, gM, lM⟩
        have lM' : M.length ≤ 16000 := by
          have := rr.len
          omega
        have rF4 : Rep EnV H4 ys F := rep_mono (fun v d q => EnV.ts q S4.ts) rF
        -- missing = sorted(set([..]))
        refine ⟨_, rfl, mr, rfl, ⟨_, sql hm4⟩, fun D nD => ?_⟩
        refine lc_list_rep (K := K) (A := EnV) (B := EnV) (ds := M) (f := fun e => if e ∉ F then some e else none) EnV.ts EnV.ts (sql hm4) rM (by omega) nD ?_ ?_
        · rintro x d Hx Nx Sk dm xd Sx nx sk
          refine ⟨rfl, _, rfl, _, rfl, l, d, ys, F, rfl, .inl (sql (Sx _ _ (S4 _ _ hl2))), xd, rep_mono (fun v d q => EnV.ts q Sx.ts) rF4, _, rfl, ite2 (fun c => ?_) (fun c => ?_)⟩
          · exact ⟨_, rfl, nx _ d _ (if_pos (by simpa using c)) (Same.refl _) xd⟩
          · exact sk _ (if_neg (by simpa using c)) (Same.refl _)
        · intro H5 zs S5 hD5 rZ
          obtain ⟨ks, ez, em, hk⟩ := rep_ents rZ
          have inZ : ∀ p ∈ ks, p.2 ∈ M ∧ p.2 ∉ F := fun p hp => by
            have h1 : p.2 ∈ M.filterMap fun e => if e ∉ F then some e else none := by rw [← em]; exact List.mem_map.mpr ⟨p, hp, rfl⟩
            obtain ⟨e, me, q⟩ := List.mem_filterMap.mp h1
            split at q
            · rename_i hh
              rw [← Option.some.inj q]
              exact ⟨me, hh⟩
            · cases q
          refine ⟨D, ks, UE, rfl, sql (by rw [← ez]; exact hD5), fun p hp => (hk p hp).1, fun p hp => (gM _ (inZ p hp).1).2.mem, by rw [UE_len]; decide, fun a L na sub ndL => ?_⟩
          have S6 := same_new (o := KSetO P w a L) na
          refine ⟨a, L, rfl, upd_same, fun p hp => S6 _ _ (hk p (sub p hp)).1, fun L' p pm np => ?_⟩
          have S7 := same_new (o := .lst (L'.map fun q => V.ref q.1)) np
          have hp7 : (upd (upd H5 a (KSetO P w a L)) p (.lst (L'.map fun q => V.ref q.1))) p = some _ := upd_same
          have S47 : Same H2 (upd (upd H5 a (KSetO P w a L)) p (.lst (L'.map fun q => V.ref q.1))) := ((S4.trans S5).trans S6).trans S7
          have good' : ∀ q ∈ L', q ∈ ks := fun q hq => sub q (pm.mem_iff.mp hq)
          have rN : Rep EnV (upd (upd H5 a (KSetO P w a L)) p (.lst (L'.map fun q => V.ref q.1))) (L'.map fun q => V.ref q.1) (L'.map (·.2)) := ents_rep fun q hq => ⟨(S6.trans S7) _ _ (hk q (good' q hq)).1, (hk q (good' q hq)).2⟩
          have ndN : (L'.map (·.2)).Nodup := (pm.map (·.2)).nodup_iff.mpr ndL
          have freshN : ∀ e ∈ L'.map (·.2), Good rs e ∧ e ∉ F := fun e he => by
            obtain ⟨q, hq, rfl⟩ := List.mem_map.mp he
            exact ⟨gM _ (inZ q (good' q hq)).1, (inZ q (good' q hq)).2⟩
          show tSeq _ _ _ _ (upd (upd H5 a (KSetO P w a L)) p (.lst (L'.map fun q => V.ref q.1)))
          generalize upd (upd H5 a (KSetO P w a L)) p (.lst (L'.map fun q => V.ref q.1)) = H7 at hp7 S47 rN
          have hl7 := S47 _ _ hl2
          have rF7 : Rep EnV H7 ys F := rep_mono (fun v d q => EnV.ts q S47.ts) rF
          have lN := few36 ndN fun e he => (freshN e he).1
          refine ⟨_, rfl, p, _, rfl, .inl (sql hp7), rfl, _, rfl, ite2 (fun c => ?_) (fun c => ?_)⟩
          · exact ⟨_, rfl, k l ys F H7 (S2.trans S47) nl hl7 rF7 nd gF⟩
          · have ln := rN.len
            refine ⟨_, rfl, .inl ⟨rfl, _, sql hl7⟩, _, rfl, l, p, ys, _, rfl, rfl, hl7, hp7, Nat.le_of_lt (small_line (by omega)), ?_⟩
            obtain ⟨d1, d2, d3⟩ := more_rep (R := EnV) EnV.ts (S2.trans S47) nl hl7 rF7 rN
            refine ⟨_, _, _, _, _, _, _, _, _, _, _, _, rfl, d1, d2, d3, ?_, fun e m => ?_⟩
            · exact List.nodup_append.mpr ⟨nd, ndN, fun x hx y hy z => (freshN y hy).2 (by rw [← z]; exact hx)⟩
            · rcases List.mem_append.mp m with z | z
              · exact gF e z
              · exact (freshN e z).1
    · rintro σ H2 ⟨v2, v3, v4, v5, v6, v7, v8, v9, v10, v11, ys, F, rfl, S2, hl2, rF, nd, gF⟩
      exact ⟨_, rfl, k l ys F H2 S2 nl hl2 rF nd gF⟩
end
end Wk

namespace Wk
open PySem L2
/-! ### steps between heads -/
def stepsR (F : List En) (h : Hd) (r : Rl) : List Sp2 :=
  if (r.p, r.s) = h then
    match r.w with
    | [] => []
    | [x] => [((r.q, x), r.m)]
    | x :: y :: _ => ((r.q, x), r.m) :: F.filterMap fun e => if enH e = (r.q, x) then some ((enQ e, y), max r.m (enF e)) else none
  else []
def stepsOf (rs : List Rl) (F : List En) (h : Hd) : List Sp2 := rs.flatMap (stepsR F h)
def spSteps : Sp := fun vs H Q _ => ∃ (t el : Addr) (hv : V) (xs es : List V) (rs : List Rl) (F : List En) (h : Hd), vs = [.ref t, .ref el, hv] ∧ H t = some (.tup xs) ∧ Rep RlV H xs rs ∧ rs.length ≤ 8 ∧ H el = some (.lst es) ∧ Rep EnV H es F ∧ F.length ≤ 36 ∧ HdV H hv h ∧
  ∀ l ys H', Same H H' → H l = none → H' l = some (.lst ys) → Rep StV H' ys (onceL (stepsOf rs F h)) → Q (.ref l) H'
theorem flat_take {α β : Type} {f : α → List β} {l : List α} {j : Nat} {r : α} (e : l[j]? = some r) : (l.take (j + 1)).flatMap f = (l.take j).flatMap f ++ f r := by
  rw [List.take_add_one, e, List.flatMap_append]
  simp
abbrev nmSteps : List Str := ["_law_rules", "_law_ends", "_law_head", "_law_found", "_law_p", "_law_s", "_law_q", "_law_w", "_law_m", "_law_one"]
section
variable {P : Program} {w : World} {K : PySem.W.Frag} {mg : Str → Option Value} {base : Heap}
theorem scSteps : FnScope nmSteps ["_law_rules", "_law_ends", "_law_head"] (defScope sSteps) := ⟨rfl, rfl, rfl, by decide +kernel, rfl, by decide +kernel, by decide +kernel⟩
theorem ok_steps {f f1 : Addr} {fd fd1 : FuncData} (F : Fun K "_law_steps" "_law_steps" sSteps f fd) (T : Txt mg) (G1 : Gd K mg "_law_once" f1 fd1 ["_law_things"]) (F1 : FnOk P w K mg base CX0 1 f1 fd1 ["_law_things"] (spOnce K)) :
    FnOk P w K mg base CX0 2 f fd ["_law_rules", "_law_ends", "_law_head"] spSteps := by
  refine F.ok scSteps (fun vs H Q E h => ?_) (fun cdv A outer s H vs Q E hr h => ?_)
  · obtain ⟨t, el, hv, xs, es, rs, F, h, rfl, _⟩ := h
    rfl
  · obtain ⟨t, el, hv, xs, es, rs, F, h, rfl, ht, rr, few, hel, rF, F36, hh, k⟩ := h
    have hu64 : (A.deeper (PyProof.Rows.envOfC (Str.ofString "_law_steps") (defScope sSteps) s.heap.objs.size f cdv)).units + 64 < cLine := by have := hr.un; omega
    refine ⟨_, pss_cons (ps_set (i := 3) scSteps.nd rfl (.inl rfl) (pe_lst pa_nil)) (pss_cons (ps_for PassesOwn.never rfl (pi_tup (pv 0))
        (pg_tup rfl (pgs_cons (pg_name (i := 4) scSteps.nd rfl (.inl rfl)) (pgs_cons (pg_name (i := 5) scSteps.nd rfl (.inl rfl)) (pgs_cons (pg_name (i := 6) scSteps.nd rfl (.inr rfl)) (pgs_cons (pg_name (i := 7) scSteps.nd rfl (.inr rfl)) (pgs_cons (pg_name (i := 8) scSteps.nd rfl (.inr rfl)) pgs_nil))))))
      (pss_one (ps_if (PW.pt (pw_and (pt_cmpR (op_eqK kHd hu64) (pe_tup (pa_cons (pv 4) (pa_cons (pv 5) pa_nil))) (pv 2) (nomark _)) (pw_and1 (pt_cmpR op_gt (pe_callB call_len_seq (by rfl) T.len (by decide +kernel) (pa_cons (pv 7) pa_nil)) pe_int (nomark _)))))
        (pss_cons (ps_expr (pe_bm PySem.F.plainAttrs_list PySem.F.slot_list_append PySem.F.type_list_append mt_append (pv 3) (pa_cons (pe_tup (pa_cons (pe_tup (pa_cons (pv 6) (pa_cons (pe_ix (ixT K) (pv 7) pe_int (fun _ _ => rfl)) pa_nil))) (pa_cons (pv 8) pa_nil))) pa_nil)))
        (pss_one (ps_if (pt_cmpR op_eq (pe_callB call_len_seq (by rfl) T.len (by decide +kernel) (pa_cons (pv 7) pa_nil)) pe_int (nomark _))
          (pss_one (ps_expr (pe_bm PySem.F.plainAttrs_list PySem.F.slot_list_extend PySem.F.type_list_extend mt_extend (pv 3) (pa_cons
            (pe_lc (own := [("_law_one", 9)]) (g := gName 9) (tt := _) rfl scSteps.nd (pi_list (pv 1)) (blkOk_by (N := nmSteps) (sc := defScope sSteps) (by decide +kernel)) (fun _ _ _ _ _ => pg_name (i := 9) scSteps.nd rfl (Or.inl rfl))
              (fun _ _ _ _ _ => pts_one (pt_cmpR (op_eqK kHd hu64) (pe_slice (slT K) (pv 9) po_none (po_some pe_int)) (pe_tup (pa_cons (pv 6) (pa_cons (pe_ix (ixT K) (pv 7) pe_int (fun _ _ => rfl)) pa_nil))) (nomark _)))
              (fun _ _ _ _ _ => pe_tup (pa_cons (pe_tup (pa_cons (pe_ix (ixT K) (pv 9) pe_int (fun _ _ => rfl)) (pa_cons (pe_ix (ixT K) (pv 7) pe_int (fun _ _ => rfl)) pa_nil)))
                (pa_cons (pe_callB (call_maxP rfl) (by rfl) T.max (by decide +kernel) (pa_cons (pv 8) (pa_cons (pe_ix (ixT K) (pv 9) pe_int (fun _ _ => rfl)) pa_nil))) pa_nil)))) pa_nil)))) pss_nil))) pss_nil)))
      (pss_one (ps_ret (pe_call F1 hr (by rfl) G1.at_ G1.kp G1.b .nil pass0 (pa_cons (pv 3) pa_nil))))), ?_⟩
    refine ⟨Nat.zero_le _, fun l nl => ?_⟩
    obtain ⟨H1, e1, S1, hl1, _⟩ := newFacts (o := .lst []) nl
    rw [← e1]
    have lrs := rr.len
    refine ⟨_, rfl, t, rfl, ⟨_, sqt (S1 _ _ ht)⟩, for_tup (K := K) (a := t) (xs := xs) (fun j σ H' => ∃ (v4 v5 v6 v7 v8 : Option V) (ms : List V), σ = [some (.ref t), some (.ref el), some hv, some (.ref l), v4, v5, v6, v7, v8, none] ∧
        Same H H' ∧ H' l = some (.lst ms) ∧ Rep StV H' ms ((rs.take j).flatMap (stepsR F h)) ∧ ms.length ≤ 40 * j)
      ⟨none, none, none, none, none, [], rfl, S1, hl1, .nil, Nat.zero_le _⟩ (fun i σ H' _ ⟨_, _, _, _, _, _, _, S, _⟩ => sqt (S _ _ ht)) ?_ ?_⟩
    · rintro j x σ H2 hx ⟨v4, v5, v6, v7, v8, ms, rfl, S2, hm2, rM, lM⟩
      obtain ⟨r, er, xr⟩ := rep_get rr hx
      have j8 : j < 8 := by
        have := (List.getElem?_eq_some_iff.mp er).1
        omega
      obtain ⟨⟨os, ow, lw⟩, a, b, rfl, ea, eb⟩ := RlV.ts xr S2.ts
      have lenW : (r.w.map V.str).length = r.w.length := List.length_map ..
      have tk := flat_take (f := stepsR F h) er
      refine ⟨a, _, rfl, sqt ea, rfl, _, _, rfl, _, _, rfl, _, _, rfl, _, _, rfl, _, _, rfl, rfl, ?_⟩
      -- if (p, s) == head and len(w) > 0
      refine ⟨_, rfl, _, rfl, (by show 2 ≤ sizeLine; decide), fun p np => ?_⟩
      obtain ⟨H3, e3, S3, hp3, _⟩ := newFacts (o := .tup [.int r.p, .str r.s]) np
      rw [← e3]
      have rM3 := rep_mono (fun v d q => StV.ts q S3.ts) rM
      refine ⟨_, rfl, (r.p, r.s), h, ⟨os, p, rfl, hp3⟩, HdV.ts (HdV.ts hh S2.ts) S3.ts, _, rfl, ite2 (fun c => ?_) (fun c => ?_)⟩
      · have ceq : (r.p, r.s) = h := of_decide_eq_true c
        refine ⟨_, rfl, b, _, rfl, .inr (sqt (S3 _ _ eb)), _, _, rfl, rfl, _, rfl, ite2 (fun c2 => ?_) (fun c2 => ?_)⟩
        · have w0 : r.w ≠ [] := fun z => by rw [z] at c2; simp at c2
          obtain ⟨x0, wr, hw⟩ : ∃ x0 wr, r.w = x0 :: wr := List.exists_cons_of_ne_nil w0
          have ox : okS x0 := ow x0 (by rw [hw]; exact List.mem_cons_self)
          have hm3 := S3 _ _ hm2
          have eb3 := S3 _ _ eb
          refine ⟨_, rfl, .inl ⟨rfl, _, sql hm3⟩, _, rfl, _, rfl, b, _, 0, _, rfl, rfl, sqt eb3, atI_nat (j := 0) (by rw [hw]; rfl), (by show 2 ≤ sizeLine; decide), fun p4 np4 => ?_⟩
          obtain ⟨H4, e4, S4, hp4, _⟩ := newFacts (o := .tup [.int r.q, .str x0]) np4
          rw [← e4]
          refine ⟨_, rfl, (by show 2 ≤ sizeLine; decide), fun p5 np5 => ?_⟩
          obtain ⟨H5, e5, S5, hp5, _⟩ := newFacts (o := .tup [.ref p4, .int r.m]) np5
          rw [← e5]
          have hm5 := S5 _ _ (S4 _ _ hm3)
          refine ⟨l, ms, _, rfl, rfl, hm5, small_line (by omega), ?_⟩
          obtain ⟨d1, d2, d3⟩ := push_rep (R := StV) StV.ts (e := ((r.q, x0), r.m)) (((S2.trans S3).trans S4).trans S5) nl hm5 (rep_mono (fun v d q => StV.ts q (S4.trans S5).ts) rM3) (show StV H5 (.ref p5) ((r.q, x0), r.m) from ⟨ox, p5, p4, rfl, hp5, S5 _ _ hp4⟩)
          have eb6 := ts_put (o' := .lst (ms ++ [.ref p5])) hm5 (fun _ z => nomatch z) _ _ (S5 _ _ (S4 _ _ eb3))
          generalize upd H5 l (.lst (ms ++ [.ref p5])) = H6 at d1 d2 d3 eb6
          refine ⟨_, rfl, b, _, rfl, .inr (sqt eb6), rfl, _, rfl, ite2 (fun c3 => ?_) (fun c3 => ?_)⟩
          · obtain ⟨y0, w2⟩ : ∃ y0, r.w = [x0, y0] := by
              rw [dec_int_iff, lenW, hw, List.length_cons] at c3
              rcases len01 (l := wr) (by omega) with z | ⟨y, z⟩ | ⟨y, y', z⟩
              · rw [z] at c3; simp at c3
              · exact ⟨y, by rw [hw, z]⟩
              · rw [z] at c3; simp at c3
            have oy : okS y0 := ow y0 (by rw [w2]; simp)
            have hel6 := d1 _ _ hel
            refine ⟨_, rfl, .inl ⟨rfl, _, sql d2⟩, _, rfl, el, rfl, ⟨_, sql hel6⟩, fun D nD => ?_⟩
            refine lc_list_rep (K := K) (A := EnV) (B := StV) (ds := F) (f := fun e => if enH e = (r.q, x0) then some ((enQ e, y0), max r.m (enF e)) else none) EnV.ts StV.ts (sql hel6) (rep_mono (fun v d q => EnV.ts q d1.ts) rF) (by omega) nD ?_ ?_
            · rintro x d Hx Nx Sk dm ⟨od, ad, rfl, hd⟩ Sx nx sk
              refine ⟨rfl, _, rfl, 2, rfl, ad, _, rfl, sqt hd, part4, fun q3 nq3 => ?_⟩
              obtain ⟨H9, e9, S9, hq9, _⟩ := newFacts (o := .tup (cutV [V.int d.1, .str d.2.1, .int d.2.2.1, .int d.2.2.2] none (some 2))) nq3
              rw [← e9]
              refine ⟨_, rfl, _, rfl, b, _, 0, _, rfl, rfl, sqt (S9 _ _ (Sx _ _ eb6)), atI_nat (j := 0) (by rw [hw]; rfl), (by show 2 ≤ sizeLine; decide), fun q4 nq4 => ?_⟩
              obtain ⟨Ha, ea', Sa, hqa, _⟩ := newFacts (o := .tup [.int r.q, .str x0]) nq4
              rw [← ea']
              refine ⟨enH d, (r.q, x0), ⟨od, q3, rfl, Sa _ _ hq9⟩, ⟨ox, q4, rfl, hqa⟩, _, rfl, ite2 (fun c => ?_) (fun c => ?_)⟩
              · have hda := Sa _ _ (S9 _ _ hd)
                refine ⟨_, rfl, ad, _, 2, _, rfl, rfl, sqt hda, atI_nat (j := 2) rfl, _, rfl, b, _, 1, _, rfl, rfl, sqt (Sa _ _ (S9 _ _ (Sx _ _ eb6))), atI_nat (j := 1) (by rw [w2]; rfl), (by show 2 ≤ sizeLine; decide), fun q5 nq5 => ?_⟩
                obtain ⟨Hb, eb', Sb, hqb, _⟩ := newFacts (o := .tup [.int d.2.2.1, .str y0]) nq5
                rw [← eb']
                refine ⟨_, rfl, _, rfl, ad, _, 3, _, rfl, rfl, sqt (Sb _ _ hda), atI_nat (j := 3) rfl, _, _, rfl, (by show 2 ≤ sizeLine; decide), fun q6 nq6 => ?_⟩
                obtain ⟨Hc, ec', Sc, hqc, _⟩ := newFacts (o := .tup [.ref q5, .int (max r.m d.2.2.2)]) nq6
                rw [← ec']
                exact nx _ ((enQ d, y0), max r.m (enF d)) _ (if_pos (of_decide_eq_true c)) (((S9.trans Sa).trans Sb).trans Sc) ⟨oy, q6, q5, rfl, hqc, Sc _ _ hqb⟩
              · exact sk _ (if_neg (of_decide_eq_false (by simpa using c))) (S9.trans Sa)
            · intro H9 zs S9 hD9 rZ
              have hm9 := S9 _ _ d2
              have lz := rZ.len
              have lz2 := List.length_filterMap_le (fun e : En => if enH e = (r.q, x0) then some (((enQ e, y0), max r.m (enF e)) : Sp2) else none) F
              refine ⟨l, D, _, zs, rfl, rfl, hm9, hD9, Nat.le_of_lt (small_line (by rw [List.length_append]; simp; omega)), ?_⟩
              obtain ⟨g1, g2, g3⟩ := more_rep (R := StV) StV.ts (d1.trans S9) nl hm9 (rep_mono (fun v d q => StV.ts q S9.ts) d3) rZ
              refine ⟨_, _, _, _, _, _, rfl, g1, g2, ?_, by rw [List.length_append, List.length_append]; simp; omega⟩
              rw [tk]
              have val : stepsR F h r = [((r.q, x0), r.m)] ++ F.filterMap fun e => if enH e = (r.q, x0) then some ((enQ e, y0), max r.m (enF e)) else none := by
                unfold stepsR
                rw [if_pos ceq, w2]
                rfl
              rw [val, ← List.append_assoc]
              exact g3
          · have w1 : r.w = [x0] := by
              rw [dec_int_iff, lenW, hw, List.length_cons] at c3
              rw [hw, List.length_cons] at lw
              rw [hw, List.length_eq_zero_iff.mp (show wr.length = 0 by omega)]
            refine ⟨_, _, _, _, _, _, rfl, d1, d2, ?_, by rw [List.length_append]; simp; omega⟩
            rw [tk]
            have val : stepsR F h r = [((r.q, x0), r.m)] := by
              unfold stepsR
              rw [if_pos ceq, w1]
            rw [val]
            exact d3
        · have w0 : r.w = [] := by
            have : ¬ (0 : Int) < ((r.w.map V.str).length : Nat) := by simpa using c2
            rw [lenW] at this
            exact List.length_eq_zero_iff.mp (by omega)
          refine ⟨_, _, _, _, _, _, rfl, S2.trans S3, S3 _ _ hm2, ?_, by omega⟩
          have val : stepsR F h r = [] := by
            unfold stepsR
            rw [if_pos ceq, w0]
          rw [tk, val, List.append_nil]
          exact rM3
      · refine ⟨_, _, _, _, _, _, rfl, S2.trans S3, S3 _ _ hm2, ?_, by omega⟩
        have val : stepsR F h r = [] := by
          unfold stepsR
          rw [if_neg (of_decide_eq_false (by simpa using c))]
        rw [tk, val, List.append_nil]
        exact rM3
    · rintro σ H2 ⟨v4, v5, v6, v7, v8, ms, rfl, S2, hm2, rM, lM⟩
      rw [lrs, List.take_length] at rM
      have lm := rM.len
      refine ⟨_, rfl, Sp2, inferInstance, kSt, l, ms, _, rfl, sql hm2, rM, by omega, fun l2 ys H' S' nl2 hl2 ry => ?_⟩
      exact k l2 ys H' (S2.trans S') (S2.free nl2) hl2 ry
end
end Wk

namespace Wk
open PySem L2
/-! ### the judge, in plain Lean -/
def rkOf (told : List Sp2) (h : Hd) : Option Int := (told.find? fun x => decide (x.1 = h)).map (·.2)
def hdK (h : Hd) : List Key := [Sum.inl h.1, Sum.inr h.2]
theorem hdK_inj {a b : Hd} (e : hdK a = hdK b) : a = b := by
  obtain ⟨a1, a2⟩ := a
  obtain ⟨b1, b2⟩ := b
  simp only [hdK, List.cons.injEq, Sum.inl.injEq, Sum.inr.injEq, and_true] at e
  rw [e.1, e.2]
def tkK (told : List Sp2) : List (List Key × V) := told.map fun x => (hdK x.1, .int x.2)
theorem tk_val (h : Hd) : ∀ told : List Sp2, valV (tkK told) (hdK h) = (rkOf told h).map V.int
  | [] => rfl
  | x :: told => by
    by_cases e : x.1 = h
    · have h1 : valV (tkK (x :: told)) (hdK h) = some (.int x.2) := valV_pos (show hdK x.1 = hdK h by rw [e])
      have h2 : rkOf (x :: told) h = some x.2 := by
        unfold rkOf
        rw [List.find?_cons_of_pos (by simpa using e)]
        rfl
      rw [h1, h2]
      rfl
    · have h1 : valV (tkK (x :: told)) (hdK h) = valV (tkK told) (hdK h) := valV_neg fun z => e (hdK_inj z)
      have h2 : rkOf (x :: told) h = rkOf told h := by
        unfold rkOf
        rw [List.find?_cons_of_neg (by simpa using e)]
      rw [h1, h2]
      exact tk_val h told
def fallsB (told : List Sp2) (h : Hd) (most : Int) : Bool := match rkOf told h with
  | some a => decide (a ≤ most)
  | none => false
def oneB (F : List En) (r : Rl) (e : En) : Bool := decide ((r.p, r.s, enQ e, max r.m (enF e)) ∈ F)
def backB (F : List En) (r : Rl) (y : Str) (e e2 : En) : Bool := decide (enH e2 = (enQ e, y)) && !decide ((r.p, r.s, enQ e2, max (max r.m (enF e)) (enF e2)) ∈ F)
def twoB (F : List En) (told : List Sp2) (r : Rl) (y : Str) (most : Int) (e : En) : Bool := fallsB told (enQ e, y) (most - max r.m (enF e)) && !F.any (backB F r y e)
def rightB (F : List En) (told : List Sp2) (r : Rl) (most : Int) : Bool := match r.w with
  | [] => decide ((r.p, r.s, r.q, r.m) ∈ F)
  | [x] => fallsB told (r.q, x) (most - r.m) && F.all fun e => !decide (enH e = (r.q, x)) || oneB F r e
  | x :: y :: _ => fallsB told (r.q, x) (most - r.m) && F.all fun e => !decide (enH e = (r.q, x)) || twoB F told r y most e
/-- all rules are right -/
def allB (rs : List Rl) (F : List En) (told : List Sp2) : Bool := rs.all fun r => match rkOf told (r.p, r.s) with
  | some a => rightB F told r a
  | none => true
/-- the judge takes the paper -/
def takesB (rs : List Rl) (h : Hd) (F : List En) (told : List Sp2) : Bool :=
  decide ((told.map (·.1)).Nodup) && told.all (fun x => decide (0 ≤ x.2)) && (rkOf told h).isSome && allB rs F told
theorem falls_not {told : List Sp2} {h : Hd} {a most : Int} (e : rkOf told h = some a) : fallsB told h most = decide (a ≤ most) := by
  unfold fallsB
  rw [e]
theorem falls_none {told : List Sp2} {h : Hd} {most : Int} (e : rkOf told h = none) : fallsB told h most = false := by
  unfold fallsB
  rw [e]
theorem all_take {α : Type} {l : List α} {p : α → Bool} (h : ∀ x ∈ l.take l.length, p x = true) : l.all p = true := by
  rw [List.take_length] at h
  exact List.all_eq_true.mpr h
theorem all_bad {α : Type} {l : List α} {p : α → Bool} {x : α} (m : x ∈ l) (h : p x = false) : l.all p = false := by
  rw [Bool.eq_false_iff]
  intro z
  rw [List.all_eq_true.mp z x m] at h
  cases h
theorem take_all {α : Type} {l : List α} {p : α → Bool} {i : Nat} {x : α} (e : l[i]? = some x) (h : ∀ y ∈ l.take i, p y = true) (hx : p x = true) : ∀ y ∈ l.take (i + 1), p y = true := by
  intro y m
  rw [List.take_add_one, e] at m
  rcases List.mem_append.mp m with z | z
  · exact h y z
  · have zx : y = x := by simpa using z
    rw [zx]
    exact hx
end Wk

namespace Wk
open PySem L2
def spRight (K : PySem.W.Frag) : Sp := fun vs H Q _ => ∃ (v0 v3 : V) (ea rd : Addr) (es : List V) (F : List En) (told : List Sp2) (r : Rl) (a : Int), vs = [v0, .ref ea, .ref rd, v3] ∧ SqT K H ea es ∧ Rep EnV H es F ∧ F.length ≤ 100000 ∧ H rd = some (.dT (tkK told)) ∧ RlV H v3 r ∧ rkOf told (r.p, r.s) = some a ∧
  ∀ H', Same H H' → Q (.bl (rightB F told r a)) H'
abbrev nmRight : List Str := ["_law_rules", "_law_ends", "_law_ranks", "_law_rule", "_law_p", "_law_s", "_law_q", "_law_w", "_law_m", "_law_most", "_law_one", "_law_mark", "_law_head", "_law_two"]
section
variable {P : Program} {w : World} {K : PySem.W.Frag} {mg : Str → Option Value} {base : Heap}
theorem dgt {H : Hp} {rd b : Addr} {told : List Sp2} {h : Hd} {a : Int} (e : H rd = some (.dT (tkK told))) (eb : H b = some (.tup [.int h.1, .str h.2])) (r : rkOf told h = some a) : DGet H rd (.ref b) (some (.int a)) := by
  have q : DGet H rd (.ref b) (valV (tkK told) (hdK h)) := DGet.t (k := hdK h) e eb
  rw [tk_val, r] at q
  exact q
theorem dgo {H : Hp} {rd b : Addr} {told : List Sp2} {h : Hd} (e : H rd = some (.dT (tkK told))) (eb : H b = some (.tup [.int h.1, .str h.2])) : DGet H rd (.ref b) ((rkOf told h).map V.int) := by
  have q : DGet H rd (.ref b) (valV (tkK told) (hdK h)) := DGet.t (k := hdK h) e eb
  rw [tk_val] at q
  exact q
theorem scRight : FnScope nmRight ["_law_rules", "_law_ends", "_law_ranks", "_law_rule"] (defScope sRight) := ⟨rfl, rfl, rfl, by decide +kernel, rfl, by decide +kernel, by decide +kernel⟩
theorem ok_right {f : Addr} {fd : FuncData} (F : Fun K "_law_rest_right" "_law_rest_right" sRight f fd) (T : Txt mg) : FnOk P w K mg base CX0 1 f fd ["_law_rules", "_law_ends", "_law_ranks", "_law_rule"] (spRight K) := by
  refine F.ok scRight (fun vs H Q E h => ?_) (fun cdv A outer s H vs Q E hr h => ?_)
  · obtain ⟨v0, v3, ea, rd, es, F, told, r, a, rfl, _⟩ := h
    rfl
  · obtain ⟨v0, v3, ea, rd, es, F, told, r, a, rfl, he, rF, few, hrd, xr, ra, k⟩ := h
    have hu := hu_of hr
    have hu65 : (A.deeper (PyProof.Rows.envOfC (Str.ofString "_law_rest_right") (defScope sRight) s.heap.objs.size f cdv)).units + 65 < cLine := by have := hr.un; omega
    have hu64 : (A.deeper (PyProof.Rows.envOfC (Str.ofString "_law_rest_right") (defScope sRight) s.heap.objs.size f cdv)).units + 64 < cLine := by omega
    refine ⟨_, pss_cons (ps_asg (pv 3) (pg_tup rfl (pgs_cons (pg_name (i := 4) scRight.nd rfl (.inr rfl)) (pgs_cons (pg_name (i := 5) scRight.nd rfl (.inr rfl)) (pgs_cons (pg_name (i := 6) scRight.nd rfl (.inl rfl)) (pgs_cons (pg_name (i := 7) scRight.nd rfl (.inl rfl)) (pgs_cons (pg_name (i := 8) scRight.nd rfl (.inl rfl)) pgs_nil)))))))
      (pss_cons (ps_set (i := 9) scRight.nd rfl (.inl rfl) (pe_dget hu (pv 2) (pe_tup (pa_cons (pv 4) (pa_cons (pv 5) pa_nil))) (fun _ _ => rfl)))
      (pss_cons (ps_if (pt_cmpR op_eq (pe_callB call_len_seq (by rfl) T.len (by decide +kernel) (pa_cons (pv 7) pa_nil)) pe_int (nomark _))
        (pss_one (ps_ret (pe_cmpR (opIn kEn K hu65) (pe_tup (pa_cons (pv 4) (pa_cons (pv 5) (pa_cons (pv 6) (pa_cons (pv 8) pa_nil))))) (pv 1) (by rfl)))) pss_nil)
      (pss_cons (ps_if (PW.pt (pw_or (pt_cmp (pc_dnotin hu (pe_tup (pa_cons (pv 6) (pa_cons (pe_ix (ixT K) (pv 7) pe_int (fun _ _ => rfl)) pa_nil))) (pv 2)))
          (pw_or1 (pt_cmpR op_gt (pe_dget hu (pv 2) (pe_tup (pa_cons (pv 6) (pa_cons (pe_ix (ixT K) (pv 7) pe_int (fun _ _ => rfl)) pa_nil))) (fun _ _ => rfl)) (pe_op op_sub (pv 9) (pv 8)) (nomark _)))))
        (pss_one (ps_ret pe_bl)) pss_nil)
      (pss_cons (ps_for PassesOwn.never rfl (pi_tup (pv 1)) (pg_name (i := 10) scRight.nd rfl (.inl rfl))
        (pss_one (ps_if (pt_cmpR (op_eqK kHd hu64) (pe_slice (slT K) (pv 10) po_none (po_some pe_int)) (pe_tup (pa_cons (pv 6) (pa_cons (pe_ix (ixT K) (pv 7) pe_int (fun _ _ => rfl)) pa_nil))) (nomark _))
          (pss_cons (ps_set (i := 11) scRight.nd rfl (.inr rfl) (pe_callB (call_maxP rfl) (by rfl) T.max (by decide +kernel) (pa_cons (pv 8) (pa_cons (pe_ix (ixT K) (pv 10) pe_int (fun _ _ => rfl)) pa_nil))))
          (pss_cons (ps_if (PW.pt (pw_and (pt_cmpR op_eq (pe_callB call_len_seq (by rfl) T.len (by decide +kernel) (pa_cons (pv 7) pa_nil)) pe_int (nomark _))
              (pw_and1 (pt_cmpR (opNotIn kEn K hu65) (pe_tup (pa_cons (pv 4) (pa_cons (pv 5) (pa_cons (pe_ix (ixT K) (pv 10) pe_int (fun _ _ => rfl)) (pa_cons (pv 11) pa_nil))))) (pv 1) (by rfl)))))
            (pss_one (ps_ret pe_bl)) pss_nil)
          (pss_one (ps_if (pt_cmpR op_eq (pe_callB call_len_seq (by rfl) T.len (by decide +kernel) (pa_cons (pv 7) pa_nil)) pe_int (nomark _))
            (pss_cons (ps_set (i := 12) scRight.nd rfl (.inr rfl) (pe_tup (pa_cons (pe_ix (ixT K) (pv 10) pe_int (fun _ _ => rfl)) (pa_cons (pe_ix (ixT K) (pv 7) pe_int (fun _ _ => rfl)) pa_nil))))
            (pss_cons (ps_if (PW.pt (pw_or (pt_cmp (pc_dnotin hu (pv 12) (pv 2))) (pw_or1 (pt_cmpR op_gt (pe_dget hu (pv 2) (pv 12) (fun _ _ => rfl)) (pe_op op_sub (pv 9) (pv 11)) (nomark _)))))
              (pss_one (ps_ret pe_bl)) pss_nil)
            (pss_one (ps_if (pt_val (pe_callB (cr_any rfl) (by rfl) T.any (by decide +kernel) (pa_cons
                (pe_lc (own := [("_law_two", 13)]) (g := gName 13) (tt := tYes) rfl scRight.nd (pi_tup (pv 1)) (blkOk_by (N := nmRight) (sc := defScope sRight) (by decide +kernel)) (fun _ _ _ _ _ => pg_name (i := 13) scRight.nd rfl (Or.inl rfl)) (fun _ _ _ _ _ => pts_nil)
                  (fun _ _ _ _ _ => pe_and (pe_cmpR (op_eqK kHd hu64) (pe_slice (slT K) (pv 13) po_none (po_some pe_int)) (pv 12) (nomark _))
                    (pe_one (pe_cmpR (opNotIn kEn K hu65) (pe_tup (pa_cons (pv 4) (pa_cons (pv 5) (pa_cons (pe_ix (ixT K) (pv 13) pe_int (fun _ _ => rfl))
                      (pa_cons (pe_callB (call_maxP rfl) (by rfl) T.max (by decide +kernel) (pa_cons (pv 11) (pa_cons (pe_ix (ixT K) (pv 13) pe_int (fun _ _ => rfl)) pa_nil))) pa_nil))))) (pv 1) (by rfl))))) pa_nil)))
              (pss_one (ps_ret pe_bl)) pss_nil)))) pss_nil)))) pss_nil)))
      (pss_one (ps_ret pe_bl)))))), ?_⟩
    obtain ⟨⟨os, ow, lw⟩, rav, b, rfl, hra, hb⟩ := xr
    have lenW : (r.w.map V.str).length = r.w.length := List.length_map ..
    have no : ∀ {H'}, Same H H' → rightB F told r a = false → Q (.bl false) H' := fun S e => by
      have := k _ S
      rw [e] at this
      exact this
    have ans : ∀ {H' b}, Same H H' → rightB F told r a = b → Q (.bl b) H' := fun S e => by
      have := k _ S
      rw [e] at this
      exact this
    refine ⟨_, rfl, rav, _, rfl, sqt hra, rfl, _, _, rfl, _, _, rfl, _, _, rfl, _, _, rfl, _, _, rfl, rfl, ?_⟩
    -- most = ranks[p, s]
    refine ⟨_, rfl, _, rfl, _, rfl, (by show 2 ≤ sizeLine; decide), fun p1 np1 => ?_⟩
    obtain ⟨H1, e1, S1, hp1, _⟩ := newFacts (o := .tup [.int r.p, .str r.s]) np1
    rw [← e1]
    refine ⟨rd, _, rfl, dgt (h := (r.p, r.s)) (S1 _ _ hrd) hp1 ra, ?_⟩
    -- if len(w) == 0
    refine ⟨_, rfl, b, _, rfl, .inr (sqt (S1 _ _ hb)), rfl, _, rfl, ite2 (fun c => ?_) (fun c => ?_)⟩
    · have w0 : r.w = [] := by
        rw [dec_int_iff, lenW] at c
        exact List.length_eq_zero_iff.mp (by omega)
      refine ⟨_, rfl, _, rfl, _, rfl, _, rfl, (by show 4 ≤ sizeLine; decide), fun p2 np2 => ?_⟩
      obtain ⟨H2, e2, S2, hp2, _⟩ := newFacts (o := .tup [.int r.p, .str r.s, .int r.q, .int r.m]) np2
      rw [← e2]
      have S := S1.trans S2
      refine ⟨_, rfl, ea, (r.p, r.s, r.q, r.m), es, F, rfl, .inr (same_seqT S he), ⟨os, p2, rfl, hp2⟩, rep_mono (fun v d q => EnV.ts q S.ts) rF, ?_⟩
      have val : rightB F told r a = decide ((r.p, r.s, r.q, r.m) ∈ F) := by
        unfold rightB
        rw [w0]
      refine ans S ?_
      rw [val]
      simp
    · have w0 : r.w ≠ [] := fun z => by
        rw [dec_int_iff, lenW, z] at c
        exact c rfl
      obtain ⟨x0, wr, hw⟩ : ∃ x0 wr, r.w = x0 :: wr := List.exists_cons_of_ne_nil w0
      have ox : okS x0 := ow x0 (by rw [hw]; exact List.mem_cons_self)
      have at0 : (r.w.map V.str)[0]? = some (.str x0) := by rw [hw]; rfl
      -- if (q, w[0]) not in ranks or ..
      refine ⟨_, rfl, _, rfl, b, _, 0, _, rfl, rfl, sqt (S1 _ _ hb), atI_nat (j := 0) at0, (by show 2 ≤ sizeLine; decide), fun p2 np2 => ?_⟩
      obtain ⟨H2, e2, S2, hp2, _⟩ := newFacts (o := .tup [.int r.q, .str x0]) np2
      rw [← e2]
      have S12 := S1.trans S2
      have falls1 : fallsB told (r.q, x0) (a - r.m) = false → rightB F told r a = false := fun z => by
        rcases len01 lw with q | ⟨x, q⟩ | ⟨x, y, q⟩
        · exact absurd q w0
        · rw [hw] at q
          cases q
          unfold rightB
          rw [hw]
          simp only [z, Bool.false_and]
        · rw [hw] at q
          cases q
          unfold rightB
          rw [hw]
          simp only [z, Bool.false_and]
      refine ⟨_, rfl, rd, _, rfl, dgo (h := (r.q, x0)) (S12 _ _ hrd) hp2, _, rfl, ?_⟩
      cases q1 : rkOf told (r.q, x0) with
      | none => exact no S12 (falls1 (falls_none q1))
      | some a1 =>
      refine iteF ?_
      refine ⟨_, rfl, _, rfl, _, rfl, b, _, 0, _, rfl, rfl, sqt (S12 _ _ hb), atI_nat (j := 0) at0, (by show 2 ≤ sizeLine; decide), fun p3 np3 => ?_⟩
      obtain ⟨H3, e3, S3, hp3, _⟩ := newFacts (o := .tup [.int r.q, .str x0]) np3
      rw [← e3]
      have S13 := S12.trans S3
      refine ⟨rd, _, rfl, dgt (h := (r.q, x0)) (S13 _ _ hrd) hp3 q1, _, rfl, _, rfl, _, _, rfl, rfl, _, _, rfl, rfl, _, rfl, ite2 (fun c1 => ?_) (fun c1 => ?_)⟩
      · have c1 : a - r.m < a1 := of_decide_eq_true c1
        exact no S13 (falls1 ((falls_not q1).trans (decide_eq_false (by omega))))
      · have c1 : ¬ a - r.m < a1 := by simpa using c1
        have fOk : fallsB told (r.q, x0) (a - r.m) = true := (falls_not q1).trans (decide_eq_true (by omega))
        have rF3 : ∀ {H'}, Same H H' → Rep EnV H' es F := fun S => rep_mono (fun v d q => EnV.ts q S.ts) rF
        have lF := rF.len
        -- for one in ends
        rcases len01 lw with z | ⟨x, w1⟩ | ⟨x, y0, w2⟩
        · exact absurd z w0
        · -- one symbol
          rw [hw] at w1
          cases w1
          have val : rightB F told r a = F.all fun e => !decide (enH e = (r.q, x0)) || oneB F r e := by
            unfold rightB
            rw [hw]
            simp only [fOk, Bool.true_and]
          refine ⟨_, rfl, ea, rfl, ⟨_, same_seqT S13 he⟩, for_tup (K := K) (a := ea) (xs := es) (fun u σ H' => ∃ (v10 v11 v12 : Option V), σ = [some v0, some (.ref ea), some (.ref rd), some (.ref rav), some (.int r.p), some (.str r.s), some (.int r.q), some (.ref b), some (.int r.m), some (.int a), v10, v11, v12, none] ∧
            Same H H' ∧ ∀ e ∈ F.take u, (!decide (enH e = (r.q, x0)) || oneB F r e) = true) ⟨none, none, none, rfl, S13, fun e m => nomatch m⟩ (fun i σ H' _ ⟨_, _, _, _, S, _⟩ => same_seqT S he) ?_ ?_⟩
          · rintro u x σ H4 hx ⟨v10, v11, v12, rfl, S4, good⟩
            obtain ⟨e, ee, xe⟩ := rep_get rF hx
            have eF := List.mem_of_getElem? ee
            obtain ⟨oe, ae, rfl, he4⟩ := EnV.ts xe S4.ts
            refine ⟨_, rfl, 2, rfl, ae, _, rfl, sqt he4, part4, fun q3 nq3 => ?_⟩
            obtain ⟨H5, e5, S5, hq5, _⟩ := newFacts (o := .tup (cutV [V.int e.1, .str e.2.1, .int e.2.2.1, .int e.2.2.2] none (some 2))) nq3
            rw [← e5]
            refine ⟨_, rfl, _, rfl, b, _, 0, _, rfl, rfl, sqt ((S4.trans S5) _ _ hb), atI_nat (j := 0) at0, (by show 2 ≤ sizeLine; decide), fun q4 nq4 => ?_⟩
            obtain ⟨H6, e6, S6, hq6, _⟩ := newFacts (o := .tup [.int r.q, .str x0]) nq4
            rw [← e6]
            have S46 := (S4.trans S5).trans S6
            have he6 := (S5.trans S6) _ _ he4
            refine ⟨enH e, (r.q, x0), ⟨oe, q3, rfl, S6 _ _ hq5⟩, ⟨ox, q4, rfl, hq6⟩, _, rfl, ite2 (fun c2 => ?_) (fun c2 => ?_)⟩
            · refine ⟨_, rfl, _, rfl, ae, _, 3, _, rfl, rfl, sqt he6, atI_nat (j := 3) rfl, _, _, rfl, ?_⟩
              refine ⟨_, rfl, b, _, rfl, .inr (sqt (S46 _ _ hb)), rfl, _, rfl, ite2 (fun _ => ?_) (fun c3 => ?_)⟩
              · refine ⟨_, rfl, _, rfl, _, rfl, ae, _, 2, _, rfl, rfl, sqt he6, atI_nat (j := 2) rfl, _, rfl, (by show 4 ≤ sizeLine; decide), fun q7 nq7 => ?_⟩
                obtain ⟨H7, e7, S7, hq7, _⟩ := newFacts (o := .tup [.int r.p, .str r.s, .int e.2.2.1, .int (max r.m e.2.2.2)]) nq7
                rw [← e7]
                have S47 := S46.trans S7
                refine ⟨_, rfl, ea, (r.p, r.s, enQ e, max r.m (enF e)), es, F, rfl, .inr (same_seqT S47 he), ⟨os, q7, rfl, hq7⟩, rF3 S47, _, rfl, ite2 (fun c4 => ?_) (fun c4 => ?_)⟩
                · refine no S47 ?_
                  rw [val]
                  refine all_bad eF ?_
                  have c4 : ¬ (r.p, r.s, enQ e, max r.m (enF e)) ∈ F := by simpa using c4
                  rw [c2]
                  unfold oneB
                  rw [decide_eq_false c4]
                  rfl
                · have c4 : (r.p, r.s, enQ e, max r.m (enF e)) ∈ F := by simpa using c4
                  refine ⟨_, rfl, b, _, rfl, .inr (sqt (S47 _ _ hb)), rfl, _, rfl, ite2 (fun c5 => ?_) (fun _ => ?_)⟩
                  · rw [dec_int_iff, lenW, hw] at c5
                    cases c5
                  · refine ⟨_, _, _, rfl, S47, take_all ee good ?_⟩
                    unfold oneB
                    rw [decide_eq_true c4, Bool.or_true]
              · rw [dec_int_iff, lenW, hw] at c3
                exact absurd rfl c3
            · refine ⟨_, _, _, rfl, S46, take_all ee good ?_⟩
              have c2 : decide (enH e = (r.q, x0)) = false := by simpa using c2
              rw [c2]
              rfl
          · rintro σ H4 ⟨v10, v11, v12, rfl, S4, good⟩
            rw [lF] at good
            have q := k _ S4
            rw [val, all_take good] at q
            exact q
        · -- two symbols
          rw [hw] at w2
          cases w2
          have oy : okS y0 := ow y0 (by rw [hw]; simp)
          have at1 : (r.w.map V.str)[1]? = some (.str y0) := by rw [hw]; rfl
          have val : rightB F told r a = F.all fun e => !decide (enH e = (r.q, x0)) || twoB F told r y0 a e := by
            unfold rightB
            rw [hw]
            simp only [fOk, Bool.true_and]
          refine ⟨_, rfl, ea, rfl, ⟨_, same_seqT S13 he⟩, for_tup (K := K) (a := ea) (xs := es) (fun u σ H' => ∃ (v10 v11 v12 : Option V), σ = [some v0, some (.ref ea), some (.ref rd), some (.ref rav), some (.int r.p), some (.str r.s), some (.int r.q), some (.ref b), some (.int r.m), some (.int a), v10, v11, v12, none] ∧
            Same H H' ∧ ∀ e ∈ F.take u, (!decide (enH e = (r.q, x0)) || twoB F told r y0 a e) = true) ⟨none, none, none, rfl, S13, fun e m => nomatch m⟩ (fun i σ H' _ ⟨_, _, _, _, S, _⟩ => same_seqT S he) ?_ ?_⟩
          · rintro u x σ H4 hx ⟨v10, v11, v12, rfl, S4, good⟩
            obtain ⟨e, ee, xe⟩ := rep_get rF hx
            have eF := List.mem_of_getElem? ee
            obtain ⟨oe, ae, rfl, he4⟩ := EnV.ts xe S4.ts
            refine ⟨_, rfl, 2, rfl, ae, _, rfl, sqt he4, part4, fun q3 nq3 => ?_⟩
            obtain ⟨H5, e5, S5, hq5, _⟩ := newFacts (o := .tup (cutV [V.int e.1, .str e.2.1, .int e.2.2.1, .int e.2.2.2] none (some 2))) nq3
            rw [← e5]
            refine ⟨_, rfl, _, rfl, b, _, 0, _, rfl, rfl, sqt ((S4.trans S5) _ _ hb), atI_nat (j := 0) at0, (by show 2 ≤ sizeLine; decide), fun q4 nq4 => ?_⟩
            obtain ⟨H6, e6, S6, hq6, _⟩ := newFacts (o := .tup [.int r.q, .str x0]) nq4
            rw [← e6]
            have S46 := (S4.trans S5).trans S6
            have he6 := (S5.trans S6) _ _ he4
            refine ⟨enH e, (r.q, x0), ⟨oe, q3, rfl, S6 _ _ hq5⟩, ⟨ox, q4, rfl, hq6⟩, _, rfl, ite2 (fun c2 => ?_) (fun c2 => ?_)⟩
            · refine ⟨_, rfl, _, rfl, ae, _, 3, _, rfl, rfl, sqt he6, atI_nat (j := 3) rfl, _, _, rfl, ?_⟩
              have bad : ∀ {H'}, Same H H' → twoB F told r y0 a e = false → Q (.bl false) H' := fun S z => no S (by
                rw [val]
                refine all_bad eF ?_
                rw [c2, z]
                rfl)
              refine ⟨_, rfl, b, _, rfl, .inr (sqt (S46 _ _ hb)), rfl, _, rfl, ite2 (fun c3 => ?_) (fun _ => ?_)⟩
              · rw [dec_int_iff, lenW, hw] at c3
                cases c3
              · refine ⟨_, rfl, b, _, rfl, .inr (sqt (S46 _ _ hb)), rfl, _, rfl, ite2 (fun _ => ?_) (fun c3 => ?_)⟩
                · -- head = (one[2], w[1])
                  refine ⟨_, rfl, ae, _, 2, _, rfl, rfl, sqt he6, atI_nat (j := 2) rfl, _, rfl, b, _, 1, _, rfl, rfl, sqt (S46 _ _ hb), atI_nat (j := 1) at1, (by show 2 ≤ sizeLine; decide), fun q7 nq7 => ?_⟩
                  obtain ⟨H7, e7, S7, hq7, _⟩ := newFacts (o := .tup [.int e.2.2.1, .str y0]) nq7
                  rw [← e7]
                  have S47 := S46.trans S7
                  refine ⟨_, rfl, _, rfl, rd, _, rfl, dgo (h := (enQ e, y0)) (S47 _ _ hrd) hq7, _, rfl, ?_⟩
                  cases q2 : rkOf told (enQ e, y0) with
                  | none =>
                    refine bad S47 ?_
                    unfold twoB
                    rw [falls_none q2]
                    rfl
                  | some a2 =>
                  refine iteF ?_
                  refine ⟨_, rfl, _, rfl, rd, _, rfl, dgt (h := (enQ e, y0)) (S47 _ _ hrd) hq7 q2, _, rfl, _, rfl, _, _, rfl, rfl, _, _, rfl, rfl, _, rfl, ite2 (fun c4 => ?_) (fun c4 => ?_)⟩
                  · have c4 : a - max r.m e.2.2.2 < a2 := of_decide_eq_true c4
                    refine bad S47 ?_
                    unfold twoB
                    rw [falls_not q2, decide_eq_false (show ¬ a2 ≤ a - max r.m (enF e) by show ¬ a2 ≤ a - max r.m e.2.2.2; omega)]
                    rfl
                  · have c4 : ¬ a - max r.m e.2.2.2 < a2 := by simpa using c4
                    have f2 : fallsB told (enQ e, y0) (a - max r.m (enF e)) = true := (falls_not q2).trans (decide_eq_true (show a2 ≤ a - max r.m e.2.2.2 by omega))
                    -- any([..])
                    refine ⟨_, rfl, ea, rfl, ⟨_, same_seqT S47 he⟩, fun D nD => ?_⟩
                    refine lc_tup_rep (K := K) (A := EnV) (B := BlV) (ds := F) (f := fun e2 => some (backB F r y0 e e2)) EnV.ts (fun h _ => h) (same_seqT S47 he) (rF3 S47) (by omega) nD ?_ ?_
                    · rintro x d Hx Nx Sk dm ⟨od, ad, rfl, hd⟩ Sx nx sk
                      refine ⟨rfl, _, rfl, 2, rfl, ad, _, rfl, sqt hd, part4, fun q8 nq8 => ?_⟩
                      obtain ⟨H8, e8, S8, hq8, _⟩ := newFacts (o := .tup (cutV [V.int d.1, .str d.2.1, .int d.2.2.1, .int d.2.2.2] none (some 2))) nq8
                      rw [← e8]
                      refine ⟨_, rfl, enH d, (enQ e, y0), ⟨od, q8, rfl, hq8⟩, ⟨oy, q7, rfl, S8 _ _ (Sx _ _ hq7)⟩, _, rfl, ite2 (fun c5 => ?_) (fun c5 => ?_)⟩
                      · have hd8 := S8 _ _ hd
                        refine ⟨_, rfl, _, rfl, _, rfl, ad, _, 2, _, rfl, rfl, sqt hd8, atI_nat (j := 2) rfl, _, rfl, _, rfl, ad, _, 3, _, rfl, rfl, sqt hd8, atI_nat (j := 3) rfl, _, _, rfl, (by show 4 ≤ sizeLine; decide), fun q9 nq9 => ?_⟩
                        obtain ⟨H9, e9, S9, hq9, _⟩ := newFacts (o := .tup [.int r.p, .str r.s, .int d.2.2.1, .int (max (max r.m e.2.2.2) d.2.2.2)]) nq9
                        rw [← e9]
                        have S49 := ((S47.trans Sx).trans S8).trans S9
                        refine ⟨_, rfl, ea, (r.p, r.s, enQ d, max (max r.m (enF e)) (enF d)), es, F, rfl, .inr (same_seqT S49 he), ⟨os, q9, rfl, hq9⟩, rF3 S49, ?_⟩
                        refine nx _ _ _ rfl (S8.trans S9) ?_
                        refine congrArg V.bl ?_
                        unfold backB
                        rw [c5]
                        simp
                      · refine nx _ _ _ rfl S8 ?_
                        have c5 : decide (enH d = (enQ e, y0)) = false := by simpa using c5
                        show V.bl _ = V.bl (backB F r y0 e d)
                        unfold backB
                        rw [c5]
                        rfl
                    · intro H8 bs S8 hD rB
                      rw [BlV.vals rB, filterMap_some] at hD
                      have S48 := S47.trans S8
                      refine ⟨D, _, rfl, sql hD, _, rfl, ?_⟩
                      have anyE : (F.map (backB F r y0 e)).any id = F.any (backB F r y0 e) := by rw [List.any_map]; rfl
                      rw [anyE]
                      refine ite2 (fun c6 => ?_) (fun c6 => ?_)
                      · refine bad S48 ?_
                        unfold twoB
                        rw [c6]
                        simp
                      · refine ⟨_, _, _, rfl, S48, take_all ee good ?_⟩
                        have c6 : F.any (backB F r y0 e) = false := by simpa using c6
                        unfold twoB
                        rw [f2, c6]
                        simp
                · rw [dec_int_iff, lenW, hw] at c3
                  exact absurd rfl c3
            · refine ⟨_, _, _, rfl, S46, take_all ee good ?_⟩
              have c2 : decide (enH e = (r.q, x0)) = false := by simpa using c2
              rw [c2]
              rfl
          · rintro σ H4 ⟨v10, v11, v12, rfl, S4, good⟩
            rw [lF] at good
            have q := k _ S4
            rw [val, all_take good] at q
            exact q
end
end Wk

namespace Wk
open PySem L2
def spTakesL (K : PySem.W.Frag) : Sp := fun vs H Q _ => ∃ (t pp ea ta : Addr) (hv : V) (xs es ts : List V) (rs : List Rl) (h : Hd) (F : List En) (told : List Sp2), vs = [.ref t, hv, .ref pp] ∧ H t = some (.tup xs) ∧ Rep RlV H xs rs ∧ rs.length ≤ 8 ∧ HdV H hv h ∧ H pp = some (.tup [.ref ea, .ref ta]) ∧
  SqT K H ea es ∧ Rep EnV H es F ∧ F.length ≤ 100000 ∧ SqT K H ta ts ∧ Rep StV H ts told ∧ told.length ≤ 100000 ∧ ∀ H', Same H H' → Q (.bl (takesB rs h F told)) H'
abbrev nmTakesL : List Str := ["_law_rules", "_law_head", "_law_paper", "_law_ends", "_law_told", "_law_ranks", "_law_each", "_law_number", "_law_rule"]
theorem rk_take_none {told : List Sp2} {h : Hd} : rkOf told h = none ↔ h ∉ told.map (·.1) := by
  unfold rkOf
  rw [Option.map_eq_none_iff, List.find?_eq_none]
  constructor
  · intro a m
    obtain ⟨x, hx, e⟩ := List.mem_map.mp m
    exact a x hx (by simpa using e)
  · intro a x hx z
    exact a (List.mem_map.mpr ⟨x, hx, by simpa using z⟩)
theorem all_map_opt {α : Type} {f : α → Option Bool} : ∀ l : List α, (l.filterMap f).all id = l.all fun r => match f r with
    | some b => b
    | none => true
  | [] => rfl
  | a :: l => by
    cases e : f a with
    | none => rw [List.filterMap_cons_none e, List.all_cons, e, all_map_opt l]; rfl
    | some b => rw [List.filterMap_cons_some e, List.all_cons, List.all_cons, e, all_map_opt l]; rfl
theorem allB_eq (rs : List Rl) (F : List En) (told : List Sp2) : (rs.filterMap fun r => (rkOf told (r.p, r.s)).map (rightB F told r)).all id = allB rs F told := by
  rw [all_map_opt]
  unfold allB
  refine congrArg (List.all rs) (funext fun r => ?_)
  cases rkOf told (r.p, r.s) <;> rfl
section
variable {P : Program} {w : World} {K : PySem.W.Frag} {mg : Str → Option Value} {base : Heap}
theorem dgn {H : Hp} {rd b : Addr} {told : List Sp2} {h : Hd} {o : Option Int} (e : H rd = some (.dT (tkK told))) (eb : H b = some (.tup [.int h.1, .str h.2])) (r : rkOf told h = o) : DGet H rd (.ref b) (o.map V.int) := by
  rw [← r]
  exact dgo e eb
theorem scTakesL : FnScope nmTakesL ["_law_rules", "_law_head", "_law_paper"] (defScope sTakesL) := ⟨rfl, rfl, rfl, by decide +kernel, rfl, by decide +kernel, by decide +kernel⟩
theorem ok_takesL {f f1 : Addr} {fd fd1 : FuncData} (F : Fun K "_law_takes_rest" "_law_takes_rest" sTakesL f fd) (T : Txt mg) (G1 : Gd K mg "_law_rest_right" f1 fd1 ["_law_rules", "_law_ends", "_law_ranks", "_law_rule"])
    (F1 : FnOk P w K mg base CX0 1 f1 fd1 ["_law_rules", "_law_ends", "_law_ranks", "_law_rule"] (spRight K)) :
    FnOk P w K mg base CX0 2 f fd ["_law_rules", "_law_head", "_law_paper"] (spTakesL K) := by
  refine F.ok scTakesL (fun vs H Q E h => ?_) (fun cdv A outer s H vs Q E hr h => ?_)
  · obtain ⟨t, pp, ea, ta, hv, xs, es, ts, rs, h, F, told, rfl, _⟩ := h
    rfl
  · obtain ⟨t, pp, ea, ta, hv, xs, es, ts, rs, h, F, told, rfl, ht, rr, few, hh, hpp, he, rF, lF, hta, rT, lT, k⟩ := h
    have hu := hu_of hr
    refine ⟨_, pss_cons (ps_asg (pv 2) (pg_tup rfl (pgs_cons (pg_name (i := 3) scTakesL.nd rfl (.inr rfl)) (pgs_cons (pg_name (i := 4) scTakesL.nd rfl (.inl rfl)) pgs_nil))))
      (pss_cons (ps_set (i := 5) scTakesL.nd rfl (.inr rfl) pe_dnewT)
      (pss_cons (ps_for PassesOwn.never rfl (pi_tup (pv 4)) (pg_tup rfl (pgs_cons (pg_name (i := 6) scTakesL.nd rfl (.inl rfl)) (pgs_cons (pg_name (i := 7) scTakesL.nd rfl (.inl rfl)) pgs_nil)))
        (pss_cons (ps_if (PW.pt (pw_or (pt_cmp (pc_din hu (pv 6) (pv 5))) (pw_or1 (pt_cmpR op_lt (pv 7) pe_int (nomark _))))) (pss_one (ps_ret pe_bl)) pss_nil)
        (pss_one (ps_dput hu (pv 5) (pv 6) (pv 7) rfl))))
      (pss_one (ps_ret (pe_and (pe_cmp (pc_din hu (pv 1) (pv 5))) (pe_one (pe_callB (cr_all rfl) (by rfl) T.all (by decide +kernel) (pa_cons
        (pe_lc (own := [("_law_rule", 8)]) (g := gName 8) (tt := _) rfl scTakesL.nd (pi_tup (pv 0)) (blkOk_by (N := nmTakesL) (sc := defScope sTakesL) (by decide +kernel)) (fun _ _ _ _ _ => pg_name (i := 8) scTakesL.nd rfl (Or.inl rfl))
          (fun _ _ _ _ _ => pts_one (pt_cmp (pc_din hu (pe_slice (slT K) (pv 8) po_none (po_some pe_int)) (pv 5))))
          (fun _ _ _ _ _ => pe_call F1 hr (by rfl) G1.at_ G1.kp G1.b .nil pass0 (pa_cons (pv 0) (pa_cons (pv 3) (pa_cons (pv 5) (pa_cons (pv 8) pa_nil)))))) pa_nil)))))))), ?_⟩
    refine ⟨_, rfl, pp, _, rfl, sqt hpp, rfl, _, _, rfl, _, _, rfl, rfl, ?_⟩
    intro rd nrd
    obtain ⟨H1, e1, S1, hrd1, _⟩ := newFacts (o := .dT []) nrd
    rw [← e1]
    have lts := rT.len
    have no : ∀ {H'}, Same H H' → takesB rs h F told = false → Q (.bl false) H' := fun S e => by
      have := k _ S
      rw [e] at this
      exact this
    refine ⟨_, rfl, ta, rfl, ⟨_, same_seqT S1 hta⟩, for_tup (K := K) (a := ta) (xs := ts) (fun u σ H' => ∃ (v6 v7 : Option V), σ = [some (.ref t), some hv, some (.ref pp), some (.ref ea), some (.ref ta), some (.ref rd), v6, v7, none] ∧
        Same H H' ∧ H' rd = some (.dT (tkK (told.take u))) ∧ ((told.take u).map (·.1)).Nodup ∧ ∀ x ∈ told.take u, 0 ≤ x.2)
      ⟨none, none, rfl, S1, hrd1, .nil, fun x m => nomatch m⟩ (fun i σ H' _ ⟨_, _, _, S, _⟩ => same_seqT S hta) ?_ ?_⟩
    · rintro u x σ H2 hx ⟨v6, v7, rfl, S2, hd2, nd, nn⟩
      obtain ⟨d, ed, xd⟩ := rep_get rT hx
      have dT := List.mem_of_getElem? ed
      have hu' : u < told.length := (List.getElem?_eq_some_iff.mp ed).1
      obtain ⟨od, ad, bd, rfl, ha2, hb2⟩ := StV.ts xd S2.ts
      have tk : told.take (u + 1) = told.take u ++ [d] := by rw [List.take_add_one, ed]; rfl
      refine ⟨ad, _, rfl, sqt ha2, rfl, _, _, rfl, _, _, rfl, rfl, ?_⟩
      cases q : rkOf (told.take u) d.1 with
      | some a =>
        refine ⟨_, rfl, _, rfl, rd, _, rfl, dgn (h := d.1) hd2 hb2 q, _, rfl, iteT (iteT (no S2 ?_))⟩
        have twice : ¬ (told.map (·.1)).Nodup := fun z => by
          have m : d.1 ∈ (told.take u).map (·.1) := Classical.byContradiction fun z => by rw [rk_take_none.mpr z] at q; cases q
          have z2 : ((told.take (u + 1)).map (·.1)).Nodup := by
            rw [List.map_take]
            exact z.sublist (List.take_sublist _ _)
          rw [tk, List.map_append] at z2
          have := (List.nodup_append.mp z2).2.2 d.1 m d.1 (by simp)
          exact this rfl
        unfold takesB
        rw [decide_eq_false twice]
        rfl
      | none =>
        refine ⟨_, rfl, _, rfl, rd, _, rfl, dgn (h := d.1) hd2 hb2 q, _, rfl, iteF ⟨_, rfl, _, _, rfl, rfl, _, rfl, ite2 (fun c => ?_) (fun c => ?_)⟩⟩
        · have c : d.2 < 0 := of_decide_eq_true c
          refine no S2 ?_
          unfold takesB
          have bad : told.all (fun x => decide (0 ≤ x.2)) = false := all_bad dT (decide_eq_false (by omega))
          rw [bad, Bool.and_false]
          rfl
        · have c : ¬ d.2 < 0 := by simpa using c
          have short : (tkK (told.take u)).length < sizeLine := small_line (by unfold tkK; rw [List.length_map, List.length_take]; omega)
          have vn : valV (tkK (told.take u)) (hdK d.1) = none := by rw [tk_val, q]; rfl
          refine ⟨_, rfl, _, rfl, _, rfl, rd, _, rfl, DPut.t (k := hdK d.1) hd2 hb2 short, ?_⟩
          have e3 : putK (tkK (told.take u)) (hdK d.1) (.int d.2) = tkK (told.take (u + 1)) := by
            rw [putK_new _ vn, tk]
            unfold tkK
            rw [List.map_append]
            rfl
          rw [e3]
          refine ⟨_, _, rfl, same_put S2 nrd, upd_same, ?_, fun x m => ?_⟩
          · rw [tk, List.map_append]
            refine List.nodup_append.mpr ⟨nd, by simp, fun x hx y hy z => ?_⟩
            have hy : y = d.1 := by simpa using hy
            rw [z, hy] at hx
            exact rk_take_none.mp q hx
          · rw [tk] at m
            rcases List.mem_append.mp m with z | z
            · exact nn x z
            · rw [List.mem_singleton.mp z]; omega
    · rintro σ H2 ⟨v6, v7, rfl, S2, hd2, nd, nn⟩
      rw [lts, List.take_length] at hd2 nd nn
      have v1 : decide ((told.map (·.1)).Nodup) = true := decide_eq_true nd
      have v2 : told.all (fun x => decide (0 ≤ x.2)) = true := List.all_eq_true.mpr fun x m => decide_eq_true (nn x m)
      obtain ⟨oh, ah, rfl, hah⟩ := HdV.ts hh S2.ts
      cases q : rkOf told h with
      | none =>
        refine ⟨_, rfl, _, rfl, rd, _, rfl, dgn (h := h) hd2 hah q, _, rfl, iteF (no S2 ?_)⟩
        unfold takesB
        rw [q]
        simp
      | some a =>
        refine ⟨_, rfl, _, rfl, rd, _, rfl, dgn (h := h) hd2 hah q, _, rfl, iteT ⟨_, rfl, t, rfl, ⟨_, sqt (S2 _ _ ht)⟩, fun D nD => ?_⟩⟩
        refine lc_tup_rep (K := K) (A := RlV) (B := BlV) (ds := rs) (f := fun r => (rkOf told (r.p, r.s)).map (rightB F told r)) RlV.ts (fun h _ => h) (sqt (S2 _ _ ht)) (rep_mono (fun v d q => RlV.ts q S2.ts) rr) (by omega) nD ?_ ?_
        · rintro x r Hx Nx Sk rm xr Sx nx sk
          obtain ⟨⟨os, ow, lw⟩, a5, b5, rfl, ha5, hb5⟩ := id xr
          refine ⟨rfl, _, rfl, 2, rfl, a5, _, rfl, sqt ha5, part5, fun p3 np3 => ?_⟩
          obtain ⟨H3, e3, S3, hp3, _⟩ := newFacts (o := .tup (cutV [V.int r.p, .str r.s, .int r.q, .ref b5, .int r.m] none (some 2))) np3
          rw [← e3]
          have hd3 := S3 _ _ (Sx _ _ hd2)
          have S0 := (S2.trans Sx).trans S3
          cases q2 : rkOf told (r.p, r.s) with
          | none => exact ⟨_, rfl, rd, _, rfl, dgn (h := (r.p, r.s)) hd3 hp3 q2, _, rfl, iteF (sk _ (by simp only [q2]; rfl) S3)⟩
          | some a2 =>
            refine ⟨_, rfl, rd, _, rfl, dgn (h := (r.p, r.s)) hd3 hp3 q2, _, rfl, iteT ⟨_, rfl, _, rfl, _, rfl, _, rfl, ?_⟩⟩
            refine ⟨.ref t, .ref a5, ea, rd, es, F, told, r, a2, rfl, same_seqT S0 he, rep_mono (fun v d q => EnV.ts q S0.ts) rF, lF, hd3, RlV.ts xr S3.ts, q2, fun H' S' => ?_⟩
            exact nx _ _ _ (by simp only [q2]; rfl) (S3.trans S') rfl
        · intro H3 bs S3 hD rB
          rw [BlV.vals rB] at hD
          refine ⟨D, _, rfl, sql hD, ?_⟩
          rw [allB_eq]
          have val : takesB rs h F told = allB rs F told := by
            unfold takesB
            rw [v1, v2, q]
            simp
          rw [← val]
          exact k _ (S2.trans S3)
end
end Wk

namespace Wk
open PySem L2
/-! ### a paper: its dicts -/
def pf (rd kn bh : Addr) : List (Str × V) := [("ranks", .ref rd), ("_known", .ref kn), ("_by_head", .ref bh)]
theorem n_rk : ¬ (("ranks" : Str) = "_known") := by decide +kernel
theorem n_rb : ¬ (("ranks" : Str) = "_by_head") := by decide +kernel
theorem n_kb : ¬ (("_known" : Str) = "_by_head") := by decide +kernel
section
variable (rd kn bh : Addr)
theorem pf_1 : putF "ranks" (.ref rd) [] = ([("ranks", V.ref rd)] : List (Str × V)) := rfl
theorem pf_2 : putF "_known" (.ref kn) ([("ranks", V.ref rd)] : List (Str × V)) = ([("ranks", V.ref rd), ("_known", .ref kn)] : List (Str × V)) := by
  show (if ("ranks" : Str) = "_known" then _ else (("ranks" : Str), V.ref rd) :: putF "_known" (V.ref kn) []) = _
  rw [if_neg n_rk]
  rfl
theorem pf_3 : putF "_by_head" (.ref bh) ([("ranks", V.ref rd), ("_known", V.ref kn)] : List (Str × V)) = pf rd kn bh := by
  show (if ("ranks" : Str) = "_by_head" then _ else (("ranks" : Str), V.ref rd) :: (if ("_known" : Str) = "_by_head" then _ else (("_known" : Str), V.ref kn) :: putF "_by_head" (V.ref bh) [])) = _
  rw [if_neg n_rb, if_neg n_kb]
  rfl
theorem pf_all : pf rd kn bh = putF "_by_head" (.ref bh) (putF "_known" (.ref kn) (putF "ranks" (.ref rd) [])) := by rw [pf_1, pf_2, pf_3]
theorem pf_ranks : (pf rd kn bh).lookup ("ranks" : Str) = some (.ref rd) := by
  rw [pf_all, lookup_putF, if_neg n_rb, lookup_putF, if_neg n_rk, lookup_putF, if_pos rfl]
theorem pf_known : (pf rd kn bh).lookup ("_known" : Str) = some (.ref kn) := by
  rw [pf_all, lookup_putF, if_neg n_kb, lookup_putF, if_pos rfl]
theorem pf_head : (pf rd kn bh).lookup ("_by_head" : Str) = some (.ref bh) := by
  rw [pf_all, lookup_putF, if_pos rfl]
theorem pf_no {m : Str} (h1 : ¬ m = "ranks") (h2 : ¬ m = "_known") (h3 : ¬ m = "_by_head") : (pf rd kn bh).lookup m = none := by
  rw [pf_all, lookup_putF, if_neg h3, lookup_putF, if_neg h2, lookup_putF, if_neg h1]
  rfl
end
/-- the endings of a head -/
abbrev ofHd (h : Hd) (F : List En) : List En := F.filter fun e => decide (enH e = h)
/-- the lists by head; none of them stood in H0 -/
structure HdsI (H0 H : Hp) (hh : List (List Key × V)) (F : List En) : Prop where
  no : ∀ h : Hd, valV hh (hdK h) = none → ofHd h F = []
  yes : ∀ (h : Hd) (v : V), valV hh (hdK h) = some v → ∃ l es, v = .ref l ∧ H0 l = none ∧ H l = some (.lst es) ∧ Rep EnV H es (ofHd h F)
  inj : ∀ (h h' : Hd) (v : V), valV hh (hdK h) = some v → valV hh (hdK h') = some v → h = h'
theorem HdsI.same {H0 H H' : Hp} {hh : List (List Key × V)} {F : List En} (x : HdsI H0 H hh F) (s : Same H H') : HdsI H0 H' hh F where
  no := x.no
  yes := fun h v e => by
    obtain ⟨l, es, a, b, c, d⟩ := x.yes h v e
    exact ⟨l, es, a, b, s _ _ c, rep_mono (fun v d q => EnV.ts q s.ts) d⟩
  inj := x.inj
theorem ofHd_snoc (h : Hd) (F : List En) (e : En) : ofHd h (F ++ [e]) = if enH e = h then ofHd h F ++ [e] else ofHd h F := by
  unfold ofHd
  rw [List.filter_append]
  by_cases c : enH e = h
  · rw [if_pos c, List.filter_cons_of_pos (by simpa using c)]; rfl
  · rw [if_neg c, List.filter_cons_of_neg (by simpa using c), List.filter_nil, List.append_nil]
theorem HdsI.push {H0 H : Hp} {hh : List (List Key × V)} {F : List En} {e : En} {l : Addr} {es : List V} {v : V} (x : HdsI H0 H hh F) (hv : valV hh (hdK (enH e)) = some (.ref l)) (hl : H l = some (.lst es)) (ev : EnV H v e) :
    HdsI H0 (upd H l (.lst (es ++ [v]))) hh (F ++ [e]) := by
  have T : TSame H (upd H l (.lst (es ++ [v]))) := ts_put hl fun _ z => nomatch z
  refine ⟨fun h n => ?_, fun h u hu => ?_, x.inj⟩
  · rw [ofHd_snoc, if_neg (fun z => by rw [z, n] at hv; cases hv)]
    exact x.no h n
  · obtain ⟨l', es', rfl, n0, hl', r⟩ := x.yes h u hu
    by_cases c : enH e = h
    · rw [← c, hv] at hu
      cases hu
      rw [hl] at hl'
      cases hl'
      rw [ofHd_snoc, if_pos c]
      exact ⟨l, _, rfl, n0, upd_same, rep_snoc (rep_mono (fun v d q => EnV.ts q T) r) (ev.ts T)⟩
    · have ne : l' ≠ l := fun z => c (x.inj _ _ _ hv (by rw [← z]; exact hu))
      rw [ofHd_snoc, if_neg c]
      exact ⟨l', es', rfl, n0, by rw [upd_ne ne]; exact hl', rep_mono (fun v d q => EnV.ts q T) r⟩
theorem HdsI.new {H0 H H' : Hp} {hh : List (List Key × V)} {F : List En} {h : Hd} {l : Addr} (x : HdsI H0 H hh F) (n : valV hh (hdK h) = none) (nl : H l = none) (s : ∀ b es, H b = some (.lst es) → H' b = some (.lst es)) (t : TSame H H') (hl : H' l = some (.lst [])) (n0 : H0 l = none) :
    HdsI H0 H' (putK hh (hdK h) (.ref l)) F := by
  refine ⟨fun h' e => ?_, fun h' v e => ?_, fun h1 h2 v e1 e2 => ?_⟩
  · rw [valV_put] at e
    split at e
    · cases e
    · exact x.no h' e
  · rw [valV_put] at e
    split at e
    · rename_i c
      cases e
      rw [hdK_inj c, x.no h n]
      exact ⟨l, [], rfl, n0, hl, .nil⟩
    · obtain ⟨l', es, rfl, a, b, c⟩ := x.yes h' v e
      exact ⟨l', es, rfl, a, s _ _ b, rep_mono (fun v d q => EnV.ts q t) c⟩
  · rw [valV_put] at e1 e2
    split at e1 <;> split at e2
    · rename_i c1 c2
      rw [hdK_inj c1, hdK_inj c2]
    · cases e1
      obtain ⟨l', es, e, _, b, _⟩ := x.yes h2 _ e2
      cases e
      rw [nl] at b
      cases b
    · cases e2
      obtain ⟨l', es, e, _, b, _⟩ := x.yes h1 _ e1
      cases e
      rw [nl] at b
      cases b
    · exact x.inj h1 h2 v e1 e2
/-- the known endings -/
def KnI (kk : List (List Key × V)) (F : List En) : Prop := ∀ e : En, (valV kk (enK e)).isSome = decide (e ∈ F)
theorem KnI.snoc {kk : List (List Key × V)} {F : List En} (x : KnI kk F) (e : En) (v : V) : KnI (putK kk (enK e) v) (F ++ [e]) := fun e' => by
  rw [valV_put]
  by_cases c : enK e' = enK e
  · rw [if_pos c, enK_inj c]
    simp
  · rw [if_neg c, x e', Bool.eq_iff_iff, decide_eq_true_eq, decide_eq_true_eq]
    have ne : e' ≠ e := fun z => c (by rw [z])
    simp [ne]
def PapAt (C : Addr) (H : Hp) (p : Addr) (F : List En) (kvs : List (List Key × V)) : Prop := ∃ (H0 : Hp) (dx rd kn bh : Addr) (kk hh : List (List Key × V)), H p = some (.ins C dx (pf rd kn bh)) ∧ H rd = some (.dT kvs) ∧ H kn = some (.dT kk) ∧ KnI kk F ∧ H bh = some (.dT hh) ∧ HdsI H0 H hh F
theorem PapAt.same {C : Addr} {H H' : Hp} {p : Addr} {F : List En} {kvs : List (List Key × V)} (x : PapAt C H p F kvs) (s : Same H H') : PapAt C H' p F kvs := by
  obtain ⟨H0, dx, rd, kn, bh, kk, hh, a, b, c, d, e, f⟩ := x
  exact ⟨H0, dx, rd, kn, bh, kk, hh, s _ _ a, s _ _ b, s _ _ c, d, s _ _ e, f.same s⟩
/-- told pairs as pairs of a dict -/
theorem told_prs {H : Hp} {ts : List V} {told : List Sp2} (r : Rep StV H ts told) : ∃ ps : List Pr, ts = ps.map (fun p => V.ref p.1) ∧ (∀ p ∈ ps, PrAt H p) ∧ ps.map (fun p => (p.2.2.1, p.2.2.2)) = tkK told := by
  induction r with
  | nil => exact ⟨[], rfl, (fun p m => nomatch m), rfl⟩
  | cons h _ ih =>
    obtain ⟨ps, e1, h2, e3⟩ := ih
    obtain ⟨o, a, b, rfl, ha, hb⟩ := h
    rename_i x _ _ _
    refine ⟨(a, b, hdK x.1, .int x.2) :: ps, by rw [e1]; rfl, fun p m => ?_, by rw [List.map_cons, e3]; rfl⟩
    rcases List.mem_cons.mp m with z | z
    · rw [z]; exact ⟨ha, hb⟩
    · exact h2 p z
/-- {key: value for target in tuple} -/
theorem dc_tup {K : PySem.W.Frag} {a : Addr} {xs : List V} {g : TG} {tk tv : TE} {vs : List Nat} {σ : L2.St} {H1 : Hp} {D : Addr} {Qd : Hp → Prop} (Pv : Nat → Hp → Prop) (h0 : Pv 0 (upd H1 D (.dT []))) (hl : ∀ i H, i ≤ xs.length → Pv i H → SqT K H a xs)
    (hs : ∀ i x H, xs[i]? = some x → Pv i H → g x (wipe σ vs) H fun σ3 H3 => wipe σ3 vs = wipe σ vs ∧
      tk σ3 H3 fun y H4 => tv σ3 H4 fun z H5 => ∃ (kvs : List (List Key × V)) (k : List Key) (b : Addr), y = .ref b ∧ H5 b = some (.tup (k.map kV)) ∧ H5 D = some (.dT kvs) ∧ kvs.length < sizeLine ∧ Pv (i + 1) (upd H5 D (.dT (putK kvs k z)))) (hd : ∀ H, Pv xs.length H → Qd H) :
    ∃ W : Nat → Nat → Hp → Prop, (∃ m, W 0 m (upd H1 D (.dT []))) ∧ ∀ i m H2, W i m H2 →
      ((Itt K a).stop i H2 ∧ Qd H2) ∨ ((Itt K a).go i H2 ∧ ∃ Nx : Hp → Prop, (∀ H', Nx H' → ∃ m', m' < m ∧ W (i + 1) m' H') ∧ ∀ x H', (Itt K a).yld i H2 x H' → g x (wipe σ vs) H' fun σ3 H3 => wipe σ3 vs = wipe σ vs ∧
        tk σ3 H3 fun y H4 => tv σ3 H4 fun z H5 => ∃ (kvs : List (List Key × V)) (k : List Key) (b : Addr), y = .ref b ∧ H5 b = some (.tup (k.map kV)) ∧ H5 D = some (.dT kvs) ∧ kvs.length < sizeLine ∧ Nx (upd H5 D (.dT (putK kvs k z)))) := by
  refine ⟨fun i m H => m = xs.length - i ∧ i ≤ xs.length ∧ Pv i H, ⟨xs.length, by simp, Nat.zero_le _, h0⟩, ?_⟩
  rintro i m H ⟨rfl, hi, p⟩
  have q := hl i H hi p
  by_cases hlt : i < xs.length
  · refine .inr ⟨⟨xs, xs[i], q, by simp [hlt]⟩, Pv (i + 1), fun H' p' => ⟨xs.length - (i + 1), by omega, rfl, hlt, p'⟩, fun x H' y => ?_⟩
    obtain ⟨e, y⟩ := y
    subst e
    exact hs i x _ (y xs q) p
  · have e : i = xs.length := by omega
    subst e
    exact .inl ⟨⟨xs, q, Nat.le_refl _⟩, hd H p⟩
/-- what the class must be -/
structure Pap (K : PySem.W.Frag) (mg : Str → Option Value) (C : Addr) : Prop where
  cl : Cls K C
  nR : NoAttr K C "ranks"
  nK : NoAttr K C "_known"
  nB : NoAttr K C "_by_head"
  mgC : mg "Paper" = some (.ref C)
def spInit (K : PySem.W.Frag) (C : Addr) : Sp := fun vs H Q _ => ∃ (p dx ea ta : Addr) (o : Obj) (es ts : List V) (F : List En) (told : List Sp2), vs = [.ref p, .ref ea, .ref ta] ∧ H p = some (.ins C dx []) ∧ SqT K H ea es ∧ Rep EnV H es F ∧ F.length ≤ 100000 ∧
  H ta = some (.frz o (.tup ts)) ∧ o.dict = none ∧ Rep StV H ts told ∧ told.length ≤ 100000 ∧ ∀ H', But p H H' → PapAt C H' p F (mergeT [] (tkK told)) → Q .non H'
section
variable {P : Program} {w : World} {K : PySem.W.Frag} {mg : Str → Option Value} {base : Heap}
theorem scInit : FnScope ["self", "endings", "ranks", "ending"] ["self", "endings", "ranks"] (defScope sInit) := ⟨rfl, rfl, rfl, by decide +kernel, rfl, by decide +kernel, by decide +kernel⟩
theorem ok_init {f C : Addr} {fd : FuncData} (F : Fun K "__init__" "Paper.__init__" sInit f fd) (T : Txt mg) (PC : Pap K mg C) : FnOk P w K mg base CX0 1 f fd ["self", "endings", "ranks"] (spInit K C) := by
  refine F.ok scInit (fun vs H Q E h => ?_) (fun cdv A outer s H vs Q E hr h => ?_)
  · obtain ⟨p, dx, ea, ta, o, es, ts, F, told, rfl, _⟩ := h
    rfl
  · obtain ⟨p, dx, ea, ta, o, es, ts, F, told, rfl, hp, he, rF, lF, hta, od, rT, lT, k⟩ := h
    have hu := hu_of hr
    have hu0 : (A.deeper (PyProof.Rows.envOfC (Str.ofString "Paper.__init__") (defScope sInit) s.heap.objs.size f cdv)).units < cLine := by omega
    have hu64 : (A.deeper (PyProof.Rows.envOfC (Str.ofString "Paper.__init__") (defScope sInit) s.heap.objs.size f cdv)).units + 64 < cLine := by have := hr.un; omega
    refine ⟨_, pss_cons (ps_fld (pv 0) (pe_callTy (call_dictT rfl hu64) (by rfl) T.dict (by decide +kernel) (pa_cons (pv 2) pa_nil)) rfl)
      (pss_cons (ps_fld (pv 0) (pe_dcT (own := [("ending", 3)]) (g := gName 3) hu0 rfl scInit.nd (pi_tup (pv 1)) (blkOk_by (N := ["self", "endings", "ranks", "ending"]) (sc := defScope sInit) (by decide +kernel))
          (fun _ _ _ _ _ => pg_name (i := 3) scInit.nd rfl (Or.inl rfl)) (fun _ _ _ _ _ => pv 3) (fun _ _ _ _ _ => pe_bl)) rfl)
      (pss_cons (ps_fld (pv 0) pe_dnewT rfl)
      (pss_one (ps_for PassesOwn.never rfl (pi_tup (pv 1)) (pg_name (i := 3) scInit.nd rfl (.inl rfl))
        (pss_one (ps_expr (pe_bm PySem.F.plainAttrs_list PySem.F.slot_list_append PySem.F.type_list_append mt_append
          (pe_dsetdT hu (pe_fld (pv 0) rfl) (pe_slice (slT K) (pv 3) po_none (po_some pe_int)) (pe_lst pa_nil) ⟨rfl, rfl, rfl, rfl⟩) (pa_cons (pv 3) pa_nil)))))))), ?_⟩
    obtain ⟨ps, ets, hps, eps⟩ := told_prs rT
    -- self.ranks = dict(ranks)
    refine ⟨_, rfl, ta, o, ps, rfl, (by rw [← ets]; exact hta), od, hps, fun rd nrd => ?_⟩
    rw [eps]
    obtain ⟨H1, e1, S1, hrd1, _⟩ := newFacts (o := .dT (mergeT [] (tkK told))) nrd
    rw [← e1]
    have hp1 := S1 _ _ hp
    refine ⟨_, rfl, p, C, dx, _, rfl, hp1, PC.cl, PC.nR, (by show 0 < 1000; decide), ?_⟩
    rw [pf_1]
    have prd : rd ≠ p := (ne_of_none hp nrd).symm
    obtain ⟨H2, e2⟩ : ∃ H2, H2 = upd H1 p (.ins C dx ([("ranks", V.ref rd)] : List (Str × V))) := ⟨_, rfl⟩
    rw [← e2]
    have hp2 : H2 p = some (.ins C dx ([("ranks", V.ref rd)] : List (Str × V))) := by rw [e2]; exact upd_same
    have B2 : But p H1 H2 := fun b x ne e => by rw [e2, upd_ne ne]; exact e
    have B02 : But p H H2 := (But.of S1).trans B2
    -- what is not an instance stays
    have keepT : ∀ {b : Addr} {ys : List V}, SqT K H b ys → SqT K H2 b ys := fun {b ys} h => by
      rcases h with (h | ⟨o, h⟩) | h
      · exact .inl (.inl (B02 _ _ (ne_of h hp fun z => nomatch z) h))
      · exact .inl (.inr ⟨o, B02 _ _ (ne_of h hp fun z => nomatch z) h⟩)
      · exact .inr h
    have T02 : TSame H H2 := fun b xs e => B02 _ _ (ne_of e hp fun z => nomatch z) e
    have he2 := keepT he
    have rF2 : Rep EnV H2 es F := rep_mono (fun v d q => EnV.ts q T02) rF
    have hrd2 := B2 _ _ prd hrd1
    have lF' := rF.len
    -- self._known = {ending: True for ending in endings}
    refine ⟨_, rfl, ea, rfl, ⟨_, he2⟩, fun kn nkn => ?_⟩
    refine dc_tup (K := K) (a := ea) (xs := es) (fun i H' => Same H2 H' ∧ ∃ kk, H' kn = some (.dT kk) ∧ KnI kk (F.take i) ∧ kk.length ≤ i)
      ⟨same_new nkn, [], upd_same, fun e => by simp [valV_nil], Nat.le_refl _⟩ (fun i H' _ ⟨S, _⟩ => same_seqT S he2) ?_ ?_
    · rintro i x H' hx ⟨S, kk, hk, ik, lk⟩
      obtain ⟨e, ee, xe⟩ := rep_get rF2 hx
      have hi : i < F.length := (List.getElem?_eq_some_iff.mp ee).1
      obtain ⟨oe, ae, rfl, hae⟩ := EnV.ts xe S.ts
      refine ⟨rfl, _, rfl, kk, enK e, ae, rfl, hae, hk, small_line (by omega), same_put S nkn, _, upd_same, ?_, ?_⟩
      · rw [List.take_add_one, ee]
        exact ik.snoc e _
      · have := length_putK kk (enK e) (.bl true)
        omega
    · rintro H3 ⟨S3, kk, hk3, ik, lk⟩
      rw [lF', List.take_length] at ik
      have hp3 := S3 _ _ hp2
      refine ⟨_, rfl, p, C, dx, _, rfl, hp3, PC.cl, PC.nK, (by show 1 < 1000; decide), ?_⟩
      rw [pf_2]
      have pkn : kn ≠ p := (ne_of_none hp2 nkn).symm
      obtain ⟨H4, e4⟩ : ∃ H4, H4 = upd H3 p (.ins C dx ([("ranks", V.ref rd), ("_known", .ref kn)] : List (Str × V))) := ⟨_, rfl⟩
      rw [← e4]
      have hp4 : H4 p = some (.ins C dx ([("ranks", V.ref rd), ("_known", .ref kn)] : List (Str × V))) := by rw [e4]; exact upd_same
      have B4 : But p H3 H4 := fun b x ne e => by rw [e4, upd_ne ne]; exact e
      -- self._by_head = {}
      intro bh nbh
      obtain ⟨H5, e5, S5, hbh5, _⟩ := newFacts (o := .dT []) nbh
      rw [← e5]
      have hp5 := S5 _ _ hp4
      refine ⟨_, rfl, p, C, dx, _, rfl, hp5, PC.cl, PC.nB, (by show 2 < 1000; decide), ?_⟩
      rw [pf_3]
      have pbh : bh ≠ p := (ne_of_none hp4 nbh).symm
      obtain ⟨H6, e6⟩ : ∃ H6, H6 = upd H5 p (.ins C dx (pf rd kn bh)) := ⟨_, rfl⟩
      rw [← e6]
      have hp6 : H6 p = some (.ins C dx (pf rd kn bh)) := by rw [e6]; exact upd_same
      have B6 : But p H5 H6 := fun b x ne e => by rw [e6, upd_ne ne]; exact e
      have B26 : But p H2 H6 := (((But.of S3).trans B4).trans (But.of S5)).trans B6
      have B06 : But p H H6 := B02.trans B26
      have hrd6 := B26 _ _ prd hrd2
      have hkn6 := (B4.trans ((But.of S5).trans B6)) _ _ pkn hk3
      have hbh6 := B6 _ _ pbh hbh5
      have keep6 : SqT K H6 ea es := by
        rcases he with (h | ⟨o, h⟩) | h
        · exact .inl (.inl (B06 _ _ (ne_of h hp fun z => nomatch z) h))
        · exact .inl (.inr ⟨o, B06 _ _ (ne_of h hp fun z => nomatch z) h⟩)
        · exact .inr h
      have rF6 : Rep EnV H6 es F := rep_mono (fun v d q => EnV.ts q fun b xs e => B06 _ _ (ne_of e hp fun z => nomatch z) e) rF
      -- for ending in endings: ..
      refine ⟨_, rfl, ea, rfl, ⟨_, keep6⟩, for_tup (K := K) (a := ea) (xs := es) (fun i σ H' => ∃ (v : Option V) (hh : List (List Key × V)), σ = [some (.ref p), some (.ref ea), some (.ref ta), v] ∧ But bh H6 H' ∧ H' bh = some (.dT hh) ∧ hh.length ≤ i ∧ HdsI H6 H' hh (F.take i))
        ⟨none, [], rfl, But.refl _ _, hbh6, Nat.le_refl _, (fun h _ => rfl), (fun h v e => nomatch e), (fun h h' v e => nomatch e)⟩ (fun i σ H' _ ⟨v, hh, _, B, hb, _⟩ => ?_) ?_ ?_⟩
      · rcases keep6 with (h | ⟨o, h⟩) | h
        · exact .inl (.inl (B _ _ (ne_of h hbh6 fun z => nomatch z) h))
        · exact .inl (.inr ⟨o, B _ _ (ne_of h hbh6 fun z => nomatch z) h⟩)
        · exact .inr h
      · rintro i x σ H7 hx ⟨v, hh, rfl, B7, hb7, lh, I7⟩
        obtain ⟨e, ee, xe⟩ := rep_get rF6 hx
        have hi : i < F.length := (List.getElem?_eq_some_iff.mp ee).1
        have T7 : TSame H6 H7 := fun b xs e => B7 _ _ (ne_of e hbh6 fun z => nomatch z) e
        obtain ⟨oe, ae, rfl, hae⟩ := EnV.ts xe T7
        have hp7 := B7 _ _ pbh.symm hp6
        refine ⟨_, rfl, p, C, dx, _, _, rfl, hp7, PC.cl, PC.nB, pf_head _ _ _, bh, rfl, .inr ⟨_, .inl hb7⟩, ?_⟩
        refine ⟨_, rfl, 2, rfl, ae, _, rfl, sqt hae, part4, fun b8 nb8 => ?_⟩
        obtain ⟨H8, e8, S8, hb8, _⟩ := newFacts (o := .tup (cutV [V.int e.1, .str e.2.1, .int e.2.2.1, .int e.2.2.2] none (some 2))) nb8
        rw [← e8]
        refine ⟨Nat.zero_le _, fun l nl => ?_⟩
        obtain ⟨H9, e9, S9, hl9, _⟩ := newFacts (o := .lst []) nl
        rw [← e9]
        have S79 := S8.trans S9
        have I8 := I7.same S8
        have tk : F.take (i + 1) = F.take i ++ [e] := by rw [List.take_add_one, ee]; rfl
        refine ⟨hh, hdK (enH e), b8, S79 _ _ hb7, rfl, S9 _ _ hb8, small_line (by omega), fun v hv => ?_, fun hv => ?_⟩
        · have I9 := I7.same S79
          obtain ⟨l2, es2, rfl, n2, hl2, r2⟩ := I9.yes _ _ hv
          have few : es2.length ≤ 1000000 := by
            have h1 := r2.len
            have h2 : (ofHd (enH e) (F.take i)).length ≤ (F.take i).length := List.length_filter_le ..
            have h3 := List.length_take_le i F
            omega
          refine ⟨.inl ⟨rfl, _, sql hl2⟩, _, rfl, l2, _, _, rfl, rfl, hl2, small_line few, ?_⟩
          have nb2 : bh ≠ l2 := ne_of (S79 _ _ hb7) hl2 fun z => nomatch z
          refine ⟨_, hh, rfl, fun b x ne e => ?_, by rw [upd_ne nb2]; exact S79 _ _ hb7, by omega, ?_⟩
          · rw [upd_ne (ne_of_none e n2)]
            exact S79 _ _ (B7 _ _ ne e)
          · rw [tk]
            exact I9.push hv hl2 ⟨oe, ae, rfl, S79 _ _ hae⟩
        · obtain ⟨H10, e10⟩ : ∃ H10, H10 = upd H9 bh (.dT (putK hh (hdK (enH e)) (.ref l))) := ⟨_, rfl⟩
          rw [← e10]
          have hb9 := S79 _ _ hb7
          have lbh : l ≠ bh := ne_of hl9 hb9 fun z => nomatch z
          have hl10 : H10 l = some (.lst []) := by rw [e10, upd_ne lbh]; exact hl9
          have hb10 : H10 bh = some (.dT (putK hh (hdK (enH e)) (.ref l))) := by rw [e10]; exact upd_same
          have B10 : But bh H9 H10 := fun b x ne e => by rw [e10, upd_ne ne]; exact e
          have n6 : H6 l = none := by
            cases z : H6 l with
            | none => rfl
            | some o =>
              have := S8 _ _ (B7 _ _ lbh z)
              rw [nl] at this
              cases this
          have T10 : TSame H8 H10 := fun b xs q => B10 _ _ (ne_of (S9 _ _ q) hb9 fun z => nomatch z) (S9 _ _ q)
          have I10 : HdsI H6 H10 (putK hh (hdK (enH e)) (.ref l)) (F.take i) := I8.new hv nl (fun b es q => B10 _ _ (ne_of (S9 _ _ q) hb9 fun z => nomatch z) (S9 _ _ q)) T10 hl10 n6
          refine ⟨.inl ⟨rfl, _, sql hl10⟩, _, rfl, l, _, _, rfl, rfl, hl10, (by rw [sizeLine_eq]; show 0 < _; decide), ?_⟩
          refine ⟨_, _, rfl, fun b x ne e => ?_, by rw [upd_ne lbh.symm]; exact hb10, by have := length_putK hh (hdK (enH e)) (.ref l); omega, ?_⟩
          · rw [upd_ne (ne_of_none e n6)]
            exact B10 _ _ ne (S79 _ _ (B7 _ _ ne e))
          · rw [tk]
            exact I10.push (by rw [valV_put, if_pos rfl]) hl10 ⟨oe, ae, rfl, T10 _ _ (S8 _ _ hae)⟩
      · rintro σ H7 ⟨v, hh, rfl, B7, hb7, lh, I7⟩
        rw [lF', List.take_length] at I7
        have n0bh : ∀ {b : Addr} {x : HO}, H b = some x → b ≠ p → b ≠ bh := fun {b x} e ne z => by
          have := (But.trans B02 ((But.of S3).trans B4)) _ _ ne e
          rw [z, nbh] at this
          cases this
        refine k _ (fun b x ne e => B7 _ _ (n0bh e ne) (B06 _ _ ne e)) ⟨H6, dx, rd, kn, bh, kk, hh, B7 _ _ pbh.symm hp6, B7 _ _ ?_ hrd6, B7 _ _ ?_ hkn6, ik, hb7, I7⟩
        · exact ne_of_none ((But.trans B2 ((But.of S3).trans B4)) _ _ prd hrd1) nbh
        · exact ne_of_none (B4 _ _ pkn hk3) nbh
end
end Wk

namespace Wk
open PySem L2
theorem all_of (h : Hd) (F : List En) (q : En → Bool) : (ofHd h F).all q = F.all fun e => !decide (enH e = h) || q e := by
  unfold ofHd
  induction F with
  | nil => rfl
  | cons e F ih =>
    by_cases c : enH e = h
    · rw [List.filter_cons_of_pos (by simpa using c), List.all_cons, List.all_cons, ih]
      simp [c]
    · rw [List.filter_cons_of_neg (by simpa using c), List.all_cons, ih]
      simp [c]
theorem two_of (F : List En) (told : List Sp2) (r : Rl) (y : Str) (most : Int) (e : En) : (fallsB told (enQ e, y) (most - max r.m (enF e)) && (ofHd (enQ e, y) F).all fun e2 => decide ((r.p, r.s, enQ e2, max (max r.m (enF e)) (enF e2)) ∈ F)) = twoB F told r y most e := by
  unfold twoB
  rw [all_of]
  congr 1
  rw [Bool.eq_iff_iff]
  simp only [List.all_eq_true, Bool.not_eq_true', List.any_eq_false, backB, Bool.and_eq_true, Bool.not_eq_true', Bool.or_eq_true, decide_eq_true_eq, decide_eq_false_iff_not]
  constructor
  · intro h e2 m ⟨a, b⟩
    rcases h e2 m with c | c
    · exact c a
    · exact b c
  · intro h e2 m
    by_cases a : enH e2 = (enQ e, y)
    · exact .inr (Classical.byContradiction fun b => h e2 m ⟨a, b⟩)
    · exact .inl a
/-- a field, the written part named -/
theorem pe_fldK (K : PySem.W.Frag) {X : Cx} {e : Expr} {f : Str} {pos : Pos} {ta : TE} (he : PE X e ta) (hb : attributeBase e f X.env (eval e X.env) = eval e X.env) (h : X.K = K := by rfl) : PE X (.Attribute e f pos) (tFld K ta f) := h ▸ pe_fld he hb
def spFalls (C : Addr) : Sp := fun vs H Q _ => ∃ (p : Addr) (hv : V) (F : List En) (told : List Sp2) (h : Hd) (most : Int), vs = [.ref p, hv, .int most] ∧ PapAt C H p F (tkK told) ∧ HdV H hv h ∧ Q (.bl (fallsB told h most)) H
def spEndsOf (C : Addr) : Sp := fun vs H Q _ => ∃ (p : Addr) (F : List En) (kvs : List (List Key × V)) (q : Int) (s : Str), vs = [.ref p, .int q, .str s] ∧ PapAt C H p F kvs ∧ ∀ H' l es, Same H H' → H' l = some (.lst es) → Rep EnV H' es (ofHd (q, s) F) → Q (.ref l) H'
def spAfter (C : Addr) : Sp := fun vs H Q _ => ∃ (p : Addr) (rv ev : V) (F : List En) (told : List Sp2) (r : Rl) (e : En) (x y : Str) (most : Int), vs = [.ref p, rv, ev, .int most] ∧ PapAt C H p F (tkK told) ∧ RlV H rv r ∧ r.w = [x, y] ∧ EnV H ev e ∧ F.length ≤ 100000 ∧ ∀ H', Same H H' → Q (.bl (twoB F told r y most e)) H'
section
variable {P : Program} {w : World} {K : PySem.W.Frag} {mg : Str → Option Value} {base : Heap}
theorem scFalls : FnScope ["self", "head", "most"] ["self", "head", "most"] (defScope sFalls) := ⟨rfl, rfl, rfl, by decide +kernel, rfl, by decide +kernel, by decide +kernel⟩
theorem ok_falls {f C : Addr} {fd : FuncData} (F : Fun K "falls" "Paper.falls" sFalls f fd) (T : Txt mg) (PC : Pap K mg C) : FnOk P w K mg base CX0 1 f fd ["self", "head", "most"] (spFalls C) := by
  refine F.ok scFalls (fun vs H Q E h => ?_) (fun cdv A outer s H vs Q E hr h => ?_)
  · obtain ⟨p, hv, F, told, h, most, rfl, _⟩ := h
    rfl
  · obtain ⟨p, hv, F, told, h, most, rfl, hp, ⟨oh, ah, rfl, hah⟩, k⟩ := h
    have hu := hu_of hr
    refine ⟨_, pss_one (ps_ret (pe_and (pe_cmp (pc_din hu (pv 1) (pe_fld (pv 0) rfl))) (pe_one (pe_cmpR op_le (pe_dget hu (pe_fld (pv 0) rfl) (pv 1) (fun _ _ => rfl)) (pv 2) (nomark _))))), ?_⟩
    obtain ⟨H0, dx, rd, kn, bh, kk, hh, hp, hrd, _⟩ := hp
    refine ⟨_, rfl, _, rfl, p, C, dx, _, _, rfl, hp, PC.cl, PC.nR, pf_ranks _ _ _, ?_⟩
    cases q : rkOf told h with
    | none =>
      refine ⟨rd, _, rfl, dgn (h := h) hrd hah q, _, rfl, iteF ?_⟩
      rw [falls_none q] at k
      exact k
    | some a =>
      refine ⟨rd, _, rfl, dgn (h := h) hrd hah q, _, rfl, iteT ?_⟩
      refine ⟨_, rfl, p, C, dx, _, _, rfl, hp, PC.cl, PC.nR, pf_ranks _ _ _, _, rfl, rd, _, rfl, dgt (h := h) hrd hah q, _, rfl, _, _, rfl, rfl, ?_⟩
      rw [falls_not q] at k
      exact k
theorem scEndsOf : FnScope ["self", "p", "s"] ["self", "p", "s"] (defScope sEndsOf) := ⟨rfl, rfl, rfl, by decide +kernel, rfl, by decide +kernel, by decide +kernel⟩
theorem ok_endsOf {f C : Addr} {fd : FuncData} (F : Fun K "ends_of" "Paper.ends_of" sEndsOf f fd) (T : Txt mg) (PC : Pap K mg C) : FnOk P w K mg base CX0 1 f fd ["self", "p", "s"] (spEndsOf C) := by
  refine F.ok scEndsOf (fun vs H Q E h => ?_) (fun cdv A outer s H vs Q E hr h => ?_)
  · obtain ⟨p, F, kvs, q, s, rfl, _⟩ := h
    rfl
  · obtain ⟨p, F, kvs, q, s0, rfl, hp, k⟩ := h
    have hu := hu_of hr
    refine ⟨_, pss_one (ps_ret (pe_dget2 hu (pe_fld (pv 0) rfl) (pe_tup (pa_cons (pv 1) (pa_cons (pv 2) pa_nil))) (pe_lst pa_nil) ⟨rfl, rfl, rfl, rfl⟩)), ?_⟩
    obtain ⟨H0, dx, rd, kn, bh, kk, hh, hp, hrd, hkn, ik, hbh, I⟩ := hp
    refine ⟨_, rfl, p, C, dx, _, _, rfl, hp, PC.cl, PC.nB, pf_head _ _ _, bh, rfl, .inr ⟨_, .inl hbh⟩, _, rfl, _, rfl, (by show 2 ≤ sizeLine; decide), fun b nb => ?_⟩
    obtain ⟨H1, e1, S1, hb1, _⟩ := newFacts (o := .tup [.int q, .str s0]) nb
    rw [← e1]
    refine ⟨Nat.zero_le _, fun l nl => ?_⟩
    obtain ⟨H2, e2, S2, hl2, _⟩ := newFacts (o := .lst []) nl
    rw [← e2]
    have S := S1.trans S2
    refine ⟨_, DGet.t (k := hdK (q, s0)) (S _ _ hbh) (S2 _ _ hb1), ?_⟩
    cases c : valV hh (hdK (q, s0)) with
    | none => exact k _ l [] S hl2 (by rw [I.no _ c]; exact .nil)
    | some v =>
      obtain ⟨l', es, rfl, _, hl', r⟩ := I.yes _ _ c
      exact k _ l' es S (S _ _ hl') (rep_mono (fun v d q => EnV.ts q S.ts) r)
abbrev nmAfter : List Str := ["self", "rule", "ending", "most", "p", "s", "_", "w", "m", "r", "f", "end"]
theorem scAfter : FnScope nmAfter ["self", "rule", "ending", "most"] (defScope sAfter) := ⟨rfl, rfl, rfl, by decide +kernel, rfl, by decide +kernel, by decide +kernel⟩
theorem ok_after {f C f1 f2 : Addr} {fd fd1 fd2 : FuncData} (F : Fun K "holds_after" "Paper.holds_after" sAfter f fd) (T : Txt mg) (PC : Pap K mg C) (M1 : Meth K C "falls" f1) (b1 : Binds K fd1 ["self", "head", "most"] []) (F1 : FnOk P w K mg base CX0 1 f1 fd1 ["self", "head", "most"] (spFalls C))
    (M2 : Meth K C "ends_of" f2) (b2 : Binds K fd2 ["self", "p", "s"] []) (F2 : FnOk P w K mg base CX0 1 f2 fd2 ["self", "p", "s"] (spEndsOf C)) : FnOk P w K mg base CX0 2 f fd ["self", "rule", "ending", "most"] (spAfter C) := by
  refine F.ok scAfter (fun vs H Q E h => ?_) (fun cdv A outer s H vs Q E hr h => ?_)
  · obtain ⟨p, rv, ev, F, told, r, e, x, y, most, rfl, _⟩ := h
    rfl
  · obtain ⟨p, rv, ev, F, told, r, e, x, y, most, rfl, hp, xr, hw, xe, lF, k⟩ := h
    have hu := hu_of hr
    refine ⟨_, pss_cons (ps_asg (pv 1) (pg_tup rfl (pgs_cons (pg_name (i := 4) scAfter.nd rfl (.inr rfl)) (pgs_cons (pg_name (i := 5) scAfter.nd rfl (.inr rfl)) (pgs_cons (pg_name (i := 6) scAfter.nd rfl (.inl rfl)) (pgs_cons (pg_name (i := 7) scAfter.nd rfl (.inl rfl)) (pgs_cons (pg_name (i := 8) scAfter.nd rfl (.inr rfl)) pgs_nil)))))))
      (pss_cons (ps_asg (pv 2) (pg_tup rfl (pgs_cons (pg_name (i := 6) scAfter.nd rfl (.inl rfl)) (pgs_cons (pg_name (i := 6) scAfter.nd rfl (.inl rfl)) (pgs_cons (pg_name (i := 9) scAfter.nd rfl (.inl rfl)) (pgs_cons (pg_name (i := 10) scAfter.nd rfl (.inr rfl)) pgs_nil))))))
      (pss_cons (ps_if (pt_not (pt_val (pe_meth (pv 0) PC.cl M1 F1 hr b1 .nil pass0 (pa_cons (pe_tup (pa_cons (pv 9) (pa_cons (pe_ix (ixT K) (pv 7) pe_int (fun _ _ => rfl)) pa_nil)))
          (pa_cons (pe_op op_sub (pv 3) (pe_callB (call_maxP rfl) (by rfl) T.max (by decide +kernel) (pa_cons (pv 8) (pa_cons (pv 10) pa_nil)))) pa_nil))))) (pss_one (ps_ret pe_bl)) pss_nil)
      (pss_one (ps_ret (pe_callB (cr_all rfl) (by rfl) T.all (by decide +kernel) (pa_cons
        (pe_lc (own := [("end", 11)]) (g := gName 11) (tt := tYes) rfl scAfter.nd (pi_list (pe_meth (pv 0) PC.cl M2 F2 hr b2 .nil pass0 (pa_cons (pv 9) (pa_cons (pe_ix (ixT K) (pv 7) pe_int (fun _ _ => rfl)) pa_nil))))
          (blkOk_by (N := nmAfter) (sc := defScope sAfter) (by decide +kernel)) (fun _ _ _ _ _ => pg_name (i := 11) scAfter.nd rfl (Or.inl rfl)) (fun _ _ _ _ _ => pts_nil)
          (fun _ _ _ _ _ => pe_cmp (pc_din hu (pe_tup (pa_cons (pv 4) (pa_cons (pv 5) (pa_cons (pe_ix (ixT K) (pv 11) pe_int (fun _ _ => rfl))
            (pa_cons (pe_callB (call_max3 rfl) (by rfl) T.max (by decide +kernel) (pa_cons (pv 8) (pa_cons (pv 10) (pa_cons (pe_ix (ixT K) (pv 11) pe_int (fun _ _ => rfl)) pa_nil)))) pa_nil))))) (pe_fldK K (pv 0) rfl)))) pa_nil)))))), ?_⟩
    obtain ⟨⟨os, ow, lw⟩, ra, rb, rfl, hra, hrb⟩ := xr
    obtain ⟨oe, ea, rfl, hea⟩ := xe
    have oy : okS y := ow y (by rw [hw]; simp)
    have at1 : (r.w.map V.str)[1]? = some (.str y) := by rw [hw]; rfl
    have val := two_of F told r y most e
    refine ⟨_, rfl, ra, _, rfl, sqt hra, rfl, _, _, rfl, _, _, rfl, _, _, rfl, _, _, rfl, _, _, rfl, rfl, ?_⟩
    refine ⟨_, rfl, ea, _, rfl, sqt hea, rfl, _, _, rfl, _, _, rfl, _, _, rfl, _, _, rfl, rfl, ?_⟩
    obtain ⟨H0, dx, rd, kn, bh, kk, hh, hpi, hrd, hkn, ik, hbh, I⟩ := id hp
    -- if not self.falls(..)
    refine ⟨_, rfl, p, dx, _, rfl, hpi, pf_no _ _ _ (by decide +kernel) (by decide +kernel) (by decide +kernel), ?_⟩
    refine ⟨_, rfl, _, rfl, rb, _, 1, _, rfl, rfl, sqt hrb, atI_nat (j := 1) at1, (by show 2 ≤ sizeLine; decide), fun p1 np1 => ?_⟩
    obtain ⟨H1, e1, S1, hp1, _⟩ := newFacts (o := .tup [.int e.2.2.1, .str y]) np1
    rw [← e1]
    refine ⟨_, rfl, _, rfl, _, rfl, _, _, rfl, _, _, rfl, rfl, ?_⟩
    refine ⟨p, .ref p1, F, told, (enQ e, y), _, rfl, hp.same S1, ⟨oy, p1, rfl, hp1⟩, _, rfl, ite2 (fun c => ?_) (fun c => ?_)⟩
    · have c : fallsB told (enQ e, y) (most - max r.m (enF e)) = false := by simpa using c
      have q := k _ S1
      rw [← val, c] at q
      exact q
    · have c : fallsB told (enQ e, y) (most - max r.m (enF e)) = true := by simpa using c
      rw [c, Bool.true_and] at val
      have hpi1 := S1 _ _ hpi
      refine ⟨_, rfl, p, dx, _, rfl, hpi1, pf_no _ _ _ (by decide +kernel) (by decide +kernel) (by decide +kernel), ?_⟩
      refine ⟨_, rfl, _, rfl, rb, _, 1, _, rfl, rfl, sqt (S1 _ _ hrb), atI_nat (j := 1) at1, ?_⟩
      refine ⟨p, F, _, enQ e, y, rfl, hp.same S1, fun H2 l es S2 hl r2 => ?_⟩
      have S02 := S1.trans S2
      refine ⟨l, rfl, ⟨_, sql hl⟩, fun D nD => ?_⟩
      have few : (ofHd (enQ e, y) F).length ≤ F.length := List.length_filter_le ..
      refine lc_list_rep (K := K) (A := EnV) (B := BlV) (f := fun e2 => some (decide ((r.p, r.s, enQ e2, max (max r.m (enF e)) (enF e2)) ∈ F))) EnV.ts (fun h _ => h) (sql hl) r2 (by omega) nD ?_ ?_
      · rintro v d Hx Nx Sk dm ⟨od, ad, rfl, hd⟩ Sx nx sk
        refine ⟨rfl, _, rfl, _, rfl, _, rfl, ad, _, 2, _, rfl, rfl, sqt hd, atI_nat (j := 2) rfl, _, rfl, _, rfl, _, rfl, ad, _, 3, _, rfl, rfl, sqt hd, atI_nat (j := 3) rfl, _, _, _, rfl, (by show 4 ≤ sizeLine; decide), fun q4 nq4 => ?_⟩
        obtain ⟨H4, e4, S4, hq4, _⟩ := newFacts (o := .tup [.int r.p, .str r.s, .int d.2.2.1, .int (max (max r.m e.2.2.2) d.2.2.2)]) nq4
        rw [← e4]
        have S04 := (S02.trans Sx).trans S4
        refine ⟨_, rfl, p, C, dx, _, _, rfl, S04 _ _ hpi, PC.cl, PC.nK, pf_known _ _ _, kn, _, rfl, DGet.t (k := enK (r.p, r.s, enQ d, max (max r.m (enF e)) (enF d))) (S04 _ _ hkn) hq4, ?_⟩
        rw [ik]
        exact nx _ _ _ rfl S4 rfl
      · intro H3 bs S3 hD rB
        rw [BlV.vals rB, filterMap_some] at hD
        refine ⟨D, _, rfl, sql hD, ?_⟩
        have q := k _ (S02.trans S3)
        rw [← val] at q
        rw [List.all_map]
        exact q
end
end Wk

namespace Wk
open PySem L2
def spHolds (C : Addr) : Sp := fun vs H Q _ => ∃ (p : Addr) (rv : V) (F : List En) (told : List Sp2) (r : Rl) (a : Int), vs = [.ref p, rv] ∧ PapAt C H p F (tkK told) ∧ RlV H rv r ∧ rkOf told (r.p, r.s) = some a ∧ F.length ≤ 100000 ∧ ∀ H', Same H H' → Q (.bl (rightB F told r a)) H'
def tailB (F : List En) (told : List Sp2) (r : Rl) (a : Int) : List Str → En → Bool
  | [], e => oneB F r e
  | y :: _, e => twoB F told r y a e
theorem right_cons {F : List En} {told : List Sp2} {r : Rl} {a : Int} {x0 : Str} {wr : List Str} (hw : r.w = x0 :: wr) : rightB F told r a = (fallsB told (r.q, x0) (a - r.m) && (ofHd (r.q, x0) F).all (tailB F told r a wr)) := by
  rw [all_of]
  unfold rightB
  rw [hw]
  cases wr <;> rfl
abbrev nmHolds : List Str := ["self", "rule", "p", "s", "q", "w", "m", "most", "ends", "end"]
section
variable {P : Program} {w : World} {K : PySem.W.Frag} {mg : Str → Option Value} {base : Heap}
theorem scHolds : FnScope nmHolds ["self", "rule"] (defScope sHolds) := ⟨rfl, rfl, rfl, by decide +kernel, rfl, by decide +kernel, by decide +kernel⟩
theorem ok_holds {f C f1 f2 f3 : Addr} {fd fd1 fd2 fd3 : FuncData} (F : Fun K "holds" "Paper.holds" sHolds f fd) (T : Txt mg) (PC : Pap K mg C) (M1 : Meth K C "falls" f1) (b1 : Binds K fd1 ["self", "head", "most"] []) (F1 : FnOk P w K mg base CX0 1 f1 fd1 ["self", "head", "most"] (spFalls C))
    (M2 : Meth K C "ends_of" f2) (b2 : Binds K fd2 ["self", "p", "s"] []) (F2 : FnOk P w K mg base CX0 1 f2 fd2 ["self", "p", "s"] (spEndsOf C))
    (M3 : Meth K C "holds_after" f3) (b3 : Binds K fd3 ["self", "rule", "ending", "most"] []) (F3 : FnOk P w K mg base CX0 2 f3 fd3 ["self", "rule", "ending", "most"] (spAfter C)) : FnOk P w K mg base CX0 3 f fd ["self", "rule"] (spHolds C) := by
  refine F.ok scHolds (fun vs H Q E h => ?_) (fun cdv A outer s H vs Q E hr h => ?_)
  · obtain ⟨p, rv, F, told, r, a, rfl, _⟩ := h
    rfl
  · obtain ⟨p, rv, F, told, r, a, rfl, hp, xr, hra0, lF, k⟩ := h
    have hu := hu_of hr
    have hr1 : Room 1 _ := hr.mono (by decide)
    refine ⟨_, pss_cons (ps_asg (pv 1) (pg_tup rfl (pgs_cons (pg_name (i := 2) scHolds.nd rfl (.inr rfl)) (pgs_cons (pg_name (i := 3) scHolds.nd rfl (.inr rfl)) (pgs_cons (pg_name (i := 4) scHolds.nd rfl (.inl rfl)) (pgs_cons (pg_name (i := 5) scHolds.nd rfl (.inl rfl)) (pgs_cons (pg_name (i := 6) scHolds.nd rfl (.inr rfl)) pgs_nil)))))))
      (pss_cons (ps_set (i := 7) scHolds.nd rfl (.inr rfl) (pe_dget hu (pe_fld (pv 0) rfl) (pe_tup (pa_cons (pv 2) (pa_cons (pv 3) pa_nil))) (fun _ _ => rfl)))
      (pss_cons (ps_if (pt_not (pt_truth (pv 5) (fun _ => rfl)))
        (pss_one (ps_ret (pe_cmp (pc_din hu (pe_tup (pa_cons (pv 2) (pa_cons (pv 3) (pa_cons (pv 4) (pa_cons (pv 6) pa_nil))))) (pe_fld (pv 0) rfl))))) pss_nil)
      (pss_cons (ps_if (pt_not (pt_val (pe_meth (pv 0) PC.cl M1 F1 hr1 b1 .nil pass0 (pa_cons (pe_tup (pa_cons (pv 4) (pa_cons (pe_ix (ixT K) (pv 5) pe_int (fun _ _ => rfl)) pa_nil)))
          (pa_cons (pe_op op_sub (pv 7) (pv 6)) pa_nil))))) (pss_one (ps_ret pe_bl)) pss_nil)
      (pss_cons (ps_set (i := 8) scHolds.nd rfl (.inl rfl) (pe_meth (pv 0) PC.cl M2 F2 hr1 b2 .nil pass0 (pa_cons (pv 4) (pa_cons (pe_ix (ixT K) (pv 5) pe_int (fun _ _ => rfl)) pa_nil))))
      (pss_cons (ps_if (pt_cmpR op_eq (pe_callB call_len_seq (by rfl) T.len (by decide +kernel) (pa_cons (pv 5) pa_nil)) pe_int (nomark _))
        (pss_one (ps_ret (pe_callB (cr_all rfl) (by rfl) T.all (by decide +kernel) (pa_cons
          (pe_lc (own := [("end", 9)]) (g := gName 9) (tt := tYes) rfl scHolds.nd (pi_list (pv 8)) (blkOk_by (N := nmHolds) (sc := defScope sHolds) (by decide +kernel)) (fun _ _ _ _ _ => pg_name (i := 9) scHolds.nd rfl (Or.inl rfl)) (fun _ _ _ _ _ => pts_nil)
            (fun _ _ _ _ _ => pe_cmp (pc_din hu (pe_tup (pa_cons (pv 2) (pa_cons (pv 3) (pa_cons (pe_ix (ixT K) (pv 9) pe_int (fun _ _ => rfl))
              (pa_cons (pe_callB (call_maxP rfl) (by rfl) T.max (by decide +kernel) (pa_cons (pv 6) (pa_cons (pe_ix (ixT K) (pv 9) pe_int (fun _ _ => rfl)) pa_nil))) pa_nil))))) (pe_fldK K (pv 0) rfl)))) pa_nil)))) pss_nil)
      (pss_one (ps_ret (pe_callB (cr_all rfl) (by rfl) T.all (by decide +kernel) (pa_cons
        (pe_lc (own := [("end", 9)]) (g := gName 9) (tt := tYes) rfl scHolds.nd (pi_list (pv 8)) (blkOk_by (N := nmHolds) (sc := defScope sHolds) (by decide +kernel)) (fun _ _ _ _ _ => pg_name (i := 9) scHolds.nd rfl (Or.inl rfl)) (fun _ _ _ _ _ => pts_nil)
          (fun _ _ _ _ _ => pe_meth (pv 0) PC.cl M3 F3 (hr.mono (by decide)) b3 .nil pass0 (pa_cons (pv 1) (pa_cons (pv 9) (pa_cons (pv 7) pa_nil))))) pa_nil))))))))), ?_⟩
    obtain ⟨⟨os, ow, lw⟩, ra, rb, rfl, hra, hrb⟩ := id xr
    have lenW : (r.w.map V.str).length = r.w.length := List.length_map ..
    have ans : ∀ {H' b}, Same H H' → rightB F told r a = b → Q (.bl b) H' := fun S e => by
      have := k _ S
      rw [e] at this
      exact this
    refine ⟨_, rfl, ra, _, rfl, sqt hra, rfl, _, _, rfl, _, _, rfl, _, _, rfl, _, _, rfl, _, _, rfl, rfl, ?_⟩
    obtain ⟨H0, dx, rd, kn, bh, kk, hh, hpi, hrd, hkn, ik, hbh, I⟩ := id hp
    refine ⟨_, rfl, p, C, dx, _, _, rfl, hpi, PC.cl, PC.nR, pf_ranks _ _ _, _, rfl, _, rfl, (by show 2 ≤ sizeLine; decide), fun p1 np1 => ?_⟩
    obtain ⟨H1, e1, S1, hp1, _⟩ := newFacts (o := .tup [.int r.p, .str r.s]) np1
    rw [← e1]
    refine ⟨rd, _, rfl, dgt (h := (r.p, r.s)) (S1 _ _ hrd) hp1 hra0, ?_⟩
    have hpi1 := S1 _ _ hpi
    refine ⟨_, rfl, _, .inr (.inl ⟨_, sqt (S1 _ _ hrb), rfl⟩), ite2 (fun c => ?_) (fun c => ?_)⟩
    · have w0 : r.w = [] := by
        cases q : r.w with
        | nil => rfl
        | cons x l => rw [q] at c; cases c
      refine ⟨_, rfl, _, rfl, _, rfl, _, rfl, (by show 4 ≤ sizeLine; decide), fun p2 np2 => ?_⟩
      obtain ⟨H2, e2, S2, hp2, _⟩ := newFacts (o := .tup [.int r.p, .str r.s, .int r.q, .int r.m]) np2
      rw [← e2]
      have S := S1.trans S2
      refine ⟨_, rfl, p, C, dx, _, _, rfl, S _ _ hpi, PC.cl, PC.nK, pf_known _ _ _, kn, _, rfl, DGet.t (k := enK (r.p, r.s, r.q, r.m)) (S _ _ hkn) hp2, ?_⟩
      rw [ik]
      refine ans S ?_
      unfold rightB
      rw [w0]
    · have w0 : r.w ≠ [] := fun z => by
        rw [z] at c
        exact c rfl
      obtain ⟨x0, wr, hw⟩ : ∃ x0 wr, r.w = x0 :: wr := List.exists_cons_of_ne_nil w0
      have ox : okS x0 := ow x0 (by rw [hw]; exact List.mem_cons_self)
      have at0 : (r.w.map V.str)[0]? = some (.str x0) := by rw [hw]; rfl
      have val := right_cons (F := F) (told := told) (a := a) hw
      -- if not self.falls((q, w[0]), most - m)
      refine ⟨_, rfl, p, dx, _, rfl, hpi1, pf_no _ _ _ (by decide +kernel) (by decide +kernel) (by decide +kernel), ?_⟩
      refine ⟨_, rfl, _, rfl, rb, _, 0, _, rfl, rfl, sqt (S1 _ _ hrb), atI_nat (j := 0) at0, (by show 2 ≤ sizeLine; decide), fun p2 np2 => ?_⟩
      obtain ⟨H2, e2, S2, hp2, _⟩ := newFacts (o := .tup [.int r.q, .str x0]) np2
      rw [← e2]
      have S12 := S1.trans S2
      refine ⟨_, rfl, _, rfl, _, _, rfl, rfl, ?_⟩
      refine ⟨p, .ref p2, F, told, (r.q, x0), _, rfl, hp.same S12, ⟨ox, p2, rfl, hp2⟩, _, rfl, ite2 (fun c => ?_) (fun c => ?_)⟩
      · have c : fallsB told (r.q, x0) (a - r.m) = false := by simpa using c
        refine ans S12 ?_
        rw [val, c, Bool.false_and]
      · have c : fallsB told (r.q, x0) (a - r.m) = true := by simpa using c
        rw [c, Bool.true_and] at val
        -- ends = self.ends_of(q, w[0])
        refine ⟨_, rfl, p, dx, _, rfl, S12 _ _ hpi, pf_no _ _ _ (by decide +kernel) (by decide +kernel) (by decide +kernel), ?_⟩
        refine ⟨_, rfl, _, rfl, rb, _, 0, _, rfl, rfl, sqt (S12 _ _ hrb), atI_nat (j := 0) at0, ?_⟩
        refine ⟨p, F, _, r.q, x0, rfl, hp.same S12, fun H3 l es S3 hl r3 => ?_⟩
        have S03 := S12.trans S3
        have few : (ofHd (r.q, x0) F).length ≤ F.length := List.length_filter_le ..
        refine ⟨_, rfl, rb, _, rfl, .inr (sqt (S03 _ _ hrb)), rfl, _, rfl, ite2 (fun c1 => ?_) (fun c1 => ?_)⟩
        · have w1 : wr = [] := by
            rw [dec_int_iff, lenW, hw] at c1
            cases wr with
            | nil => rfl
            | cons _ _ => simp at c1; omega
          subst w1
          refine ⟨_, rfl, l, rfl, ⟨_, sql hl⟩, fun D nD => ?_⟩
          refine lc_list_rep (K := K) (A := EnV) (B := BlV) (f := fun e => some (oneB F r e)) EnV.ts (fun h _ => h) (sql hl) r3 (by omega) nD ?_ ?_
          · rintro v d Hx Nx Sk dm ⟨od, ad, rfl, hd⟩ Sx nx sk
            refine ⟨rfl, _, rfl, _, rfl, _, rfl, ad, _, 2, _, rfl, rfl, sqt hd, atI_nat (j := 2) rfl, _, rfl, _, rfl, ad, _, 3, _, rfl, rfl, sqt hd, atI_nat (j := 3) rfl, _, _, rfl, (by show 4 ≤ sizeLine; decide), fun q4 nq4 => ?_⟩
            obtain ⟨H4, e4, S4, hq4, _⟩ := newFacts (o := .tup [.int r.p, .str r.s, .int d.2.2.1, .int (max r.m d.2.2.2)]) nq4
            rw [← e4]
            have S04 := (S03.trans Sx).trans S4
            refine ⟨_, rfl, p, C, dx, _, _, rfl, S04 _ _ hpi, PC.cl, PC.nK, pf_known _ _ _, kn, _, rfl, DGet.t (k := enK (r.p, r.s, enQ d, max r.m (enF d))) (S04 _ _ hkn) hq4, ?_⟩
            rw [ik]
            exact nx _ _ _ rfl S4 rfl
          · intro H4 bs S4 hD rB
            rw [BlV.vals rB, filterMap_some] at hD
            refine ⟨D, _, rfl, sql hD, ?_⟩
            refine ans (S03.trans S4) ?_
            rw [val, List.all_map]
            rfl
        · obtain ⟨y, rest, rfl⟩ : ∃ y rest, wr = y :: rest := by
            cases wr with
            | nil => rw [dec_int_iff, lenW, hw] at c1; exact absurd rfl c1
            | cons y rest => exact ⟨y, rest, rfl⟩
          have w2 : r.w = [x0, y] := by
            cases rest with
            | nil => exact hw
            | cons _ _ => rw [hw] at lw; simp at lw
          refine ⟨_, rfl, l, rfl, ⟨_, sql hl⟩, fun D nD => ?_⟩
          refine lc_list_rep (K := K) (A := EnV) (B := BlV) (f := fun e => some (twoB F told r y a e)) EnV.ts (fun h _ => h) (sql hl) r3 (by omega) nD ?_ ?_
          · rintro v d Hx Nx Sk dm xd Sx nx sk
            have S0x := S03.trans Sx
            refine ⟨rfl, _, rfl, p, dx, _, rfl, S0x _ _ hpi, pf_no _ _ _ (by decide +kernel) (by decide +kernel) (by decide +kernel), _, rfl, _, rfl, _, rfl, ?_⟩
            exact ⟨p, _, _, F, told, r, d, x0, y, a, rfl, hp.same S0x, xr.ts S0x.ts, w2, xd, lF, fun H' S' => nx _ _ _ rfl S' rfl⟩
          · intro H4 bs S4 hD rB
            rw [BlV.vals rB, filterMap_some] at hD
            refine ⟨D, _, rfl, sql hD, ?_⟩
            refine ans (S03.trans S4) ?_
            rw [val, List.all_map]
            rfl
end
end Wk

namespace Wk
open PySem L2
theorem putK_in {kvs : List (List Key × V)} {k : List Key} {u : V} (v : V) (h : valV kvs k = some u) : (putK kvs k v).length = kvs.length := by
  unfold putK
  rw [valV_any, h]
  simp
theorem merge_lt : ∀ (told : List Sp2) (acc : List (List Key × V)), (mergeT acc (tkK told)).length = acc.length + told.length → (told.map (·.1)).Nodup ∧ ∀ x ∈ told, valV acc (hdK x.1) = none
  | [], acc, _ => ⟨.nil, fun x m => nomatch m⟩
  | x :: told, acc, h => by
    have h : (mergeT (putK acc (hdK x.1) (.int x.2)) (tkK told)).length = acc.length + (told.length + 1) := h
    have h2 := length_mergeT (tkK told) (putK acc (hdK x.1) (.int x.2))
    have h3 : (tkK told).length = told.length := List.length_map ..
    have h4 := length_putK acc (hdK x.1) (.int x.2)
    cases q : valV acc (hdK x.1) with
    | some u =>
      have := putK_in (.int x.2) q
      omega
    | none =>
      obtain ⟨a, b⟩ := merge_lt told (putK acc (hdK x.1) (.int x.2)) (by omega)
      have far : ∀ y ∈ told, y.1 ≠ x.1 ∧ valV acc (hdK y.1) = none := fun y m => by
        have := b y m
        rw [valV_put] at this
        split at this
        · cases this
        · rename_i c
          exact ⟨fun z => c (by rw [z]), this⟩
      refine ⟨?_, fun y m => ?_⟩
      · rw [List.map_cons]
        refine List.nodup_cons.mpr ⟨fun m => ?_, a⟩
        obtain ⟨y, hy, e⟩ := List.mem_map.mp m
        exact (far y hy).1 e
      · rcases List.mem_cons.mp m with z | z
        · rw [z]; exact q
        · exact (far y z).2
theorem merge_nodup : ∀ (told acc : List Sp2), ((acc ++ told).map (·.1)).Nodup → mergeT (tkK acc) (tkK told) = tkK (acc ++ told)
  | [], acc, _ => by rw [List.append_nil]; rfl
  | x :: told, acc, h => by
    have n : valV (tkK acc) (hdK x.1) = none := by
      rw [tk_val, rk_take_none.mpr, Option.map_none]
      intro m
      rw [List.map_append] at h
      exact (List.nodup_append.mp h).2.2 x.1 m x.1 (by simp) rfl
    have e : putK (tkK acc) (hdK x.1) (.int x.2) = tkK (acc ++ [x]) := by
      rw [putK_new _ n]
      unfold tkK
      rw [List.map_append]
      rfl
    show mergeT (putK (tkK acc) (hdK x.1) (.int x.2)) (tkK told) = _
    rw [e, merge_nodup told (acc ++ [x]) (by rw [List.append_assoc]; exact h), List.append_assoc]
    rfl
def spTakes : Sp := fun vs H Q _ => ∃ (t pp ea ta : Addr) (o : Obj) (hv : V) (xs es ts : List V) (rs : List Rl) (h : Hd) (F : List En) (told : List Sp2), vs = [.ref t, hv, .ref pp] ∧ H t = some (.tup xs) ∧ Rep RlV H xs rs ∧ rs.length ≤ 8 ∧ HdV H hv h ∧ H pp = some (.tup [.ref ea, .ref ta]) ∧
  H ea = some (.tup es) ∧ Rep EnV H es F ∧ F.length ≤ 100000 ∧ H ta = some (.frz o (.tup ts)) ∧ o.dict = none ∧ Rep StV H ts told ∧ told.length ≤ 100000 ∧ ∀ H', Same H H' → Q (.bl (takesB rs h F told)) H'
abbrev nmTakes : List Str := ["rules", "head", "paper", "endings", "ranks", "told", "_", "number", "rule"]
section
variable {P : Program} {w : World} {K : PySem.W.Frag} {mg : Str → Option Value} {base : Heap}
theorem scTakes : FnScope nmTakes ["rules", "head", "paper"] (defScope sTakes) := ⟨rfl, rfl, rfl, by decide +kernel, rfl, by decide +kernel, by decide +kernel⟩
theorem ok_takes {f C f1 f2 : Addr} {fd fd1 fd2 : FuncData} (F : Fun K "takes_rest" "takes_rest" sTakes f fd) (T : Txt mg) (PC : Pap K mg C) (M : Mk K C f1) (b1 : Binds K fd1 ["self", "endings", "ranks"] []) (F1 : FnOk P w K mg base CX0 1 f1 fd1 ["self", "endings", "ranks"] (spInit K C))
    (M2 : Meth K C "holds" f2) (b2 : Binds K fd2 ["self", "rule"] []) (F2 : FnOk P w K mg base CX0 3 f2 fd2 ["self", "rule"] (spHolds C)) : FnOk P w K mg base CX0 4 f fd ["rules", "head", "paper"] spTakes := by
  refine F.ok scTakes (fun vs H Q E h => ?_) (fun cdv A outer s H vs Q E hr h => ?_)
  · obtain ⟨t, pp, ea, ta, o, hv, xs, es, ts, rs, h, F, told, rfl, _⟩ := h
    rfl
  · obtain ⟨t, pp, ea, ta, o, hv, xs, es, ts, rs, h, F, told, rfl, ht, rr, few, hh, hpp, he, rF, lF, hta, od, rT, lT, k⟩ := h
    have hu := hu_of hr
    have hr1 : Room 2 _ := hr.mono (by decide)
    refine ⟨_, pss_cons (ps_asg (pv 2) (pg_tup rfl (pgs_cons (pg_name (i := 3) scTakes.nd rfl (.inl rfl)) (pgs_cons (pg_name (i := 4) scTakes.nd rfl (.inl rfl)) pgs_nil))))
      (pss_cons (ps_set (i := 5) scTakes.nd rfl (.inr rfl) (pe_make M F1 hr1 (by rfl) PC.mgC b1 .nil pass0 (pa_cons (pv 3) (pa_cons (pv 4) pa_nil))))
      (pss_cons (ps_if (PW.pt (pw_or (pt_cmp (pc_dnotin hu (pv 1) (pe_fld (pv 5) rfl))) (pw_or (pt_cmpR op_ne (pe_callB call_len_dT (by rfl) T.len (by decide +kernel) (pa_cons (pe_fld (pv 5) rfl) pa_nil)) (pe_callB call_len_seq (by rfl) T.len (by decide +kernel) (pa_cons (pv 4) pa_nil)) (nomark _))
          (pw_or1 (pt_val (pe_callB (cr_any rfl) (by rfl) T.any (by decide +kernel) (pa_cons
            (pe_lc (own := [("_", 6), ("number", 7)]) (g := gTup K 2 (gCons (gName 6) (gCons (gName 7) gNil))) (tt := tYes) rfl scTakes.nd (pi_tup (pv 4)) (blkOk_by (N := nmTakes) (sc := defScope sTakes) (by decide +kernel))
              (fun _ _ _ _ _ => pg_tup rfl (pgs_cons (pg_name (i := 6) scTakes.nd rfl (.inl rfl)) (pgs_cons (pg_name (i := 7) scTakes.nd rfl (.inl rfl)) pgs_nil))) (fun _ _ _ _ _ => pts_nil)
              (fun _ _ _ _ _ => pe_cmpR op_lt (pv 7) pe_int (nomark _))) pa_nil)))))))
        (pss_one (ps_ret pe_bl)) pss_nil)
      (pss_one (ps_ret (pe_callB (cr_all rfl) (by rfl) T.all (by decide +kernel) (pa_cons
        (pe_lc (own := [("rule", 8)]) (g := gName 8) (tt := _) rfl scTakes.nd (pi_tup (pv 0)) (blkOk_by (N := nmTakes) (sc := defScope sTakes) (by decide +kernel)) (fun _ _ _ _ _ => pg_name (i := 8) scTakes.nd rfl (Or.inl rfl))
          (fun _ _ _ _ _ => pts_one (pt_cmp (pc_din hu (pe_slice (slT K) (pv 8) po_none (po_some pe_int)) (pe_fldK K (pv 5) rfl))))
          (fun _ _ _ _ _ => pe_meth (pv 5) PC.cl M2 F2 hr b2 .nil pass0 (pa_cons (pv 8) pa_nil))) pa_nil)))))), ?_⟩
    refine ⟨_, rfl, pp, _, rfl, sqt hpp, rfl, _, _, rfl, _, _, rfl, rfl, ?_⟩
    -- told = Paper(endings, ranks)
    refine ⟨_, rfl, _, rfl, fun x dx nx ndx nex => ?_⟩
    obtain ⟨H1, e1⟩ : ∃ H1, H1 = upd (upd H dx (.own x)) x (.ins C dx []) := ⟨_, rfl⟩
    rw [← e1]
    have S1 : Same H H1 := fun b z e => by
      rw [e1, upd_ne (ne_of_none e nx), upd_ne (ne_of_none e ndx)]
      exact e
    have hx1 : H1 x = some (.ins C dx []) := by rw [e1]; exact upd_same
    refine ⟨x, dx, ea, ta, o, es, ts, F, told, rfl, hx1, sqt (S1 _ _ he), rep_mono (fun v d q => EnV.ts q S1.ts) rF, lF, S1 _ _ hta, od, rep_mono (fun v d q => StV.ts q S1.ts) rT, lT, fun H2 B2 p2 => ⟨rfl, ?_⟩⟩
    have S2 : Same H H2 := fun b z e => B2 _ _ (ne_of_none e nx) (S1 _ _ e)
    obtain ⟨oh, ah, rfl, hah⟩ := HdV.ts hh S2.ts
    have no : ∀ {H'}, Same H H' → takesB rs h F told = false → Q (.bl false) H' := fun S e => by
      have := k _ S
      rw [e] at this
      exact this
    have hta2 : SqT K H2 ta ts := .inl (.inr ⟨o, S2 _ _ hta⟩)
    have lts := rT.len
    by_cases nd : (told.map (·.1)).Nodup
    · have em := merge_nodup told [] nd
      rw [List.nil_append] at em
      have em : mergeT [] (tkK told) = tkK told := em
      rw [em] at p2
      obtain ⟨H0, dx2, rd, kn, bh, kk, hh2, hpi, hrd, _⟩ := id p2
      have hrd : H2 rd = some (.dT (tkK told)) := hrd
      cases q : rkOf told h with
      | none =>
        refine ⟨_, rfl, _, rfl, x, C, dx2, _, _, rfl, hpi, PC.cl, PC.nR, pf_ranks _ _ _, rd, _, rfl, dgn (h := h) hrd hah q, _, rfl, iteT (no S2 ?_)⟩
        unfold takesB
        rw [q]
        simp
      | some a =>
        refine ⟨_, rfl, _, rfl, x, C, dx2, _, _, rfl, hpi, PC.cl, PC.nR, pf_ranks _ _ _, rd, _, rfl, dgn (h := h) hrd hah q, _, rfl, iteF ?_⟩
        refine ⟨_, rfl, x, C, dx2, _, _, rfl, hpi, PC.cl, PC.nR, pf_ranks _ _ _, rd, _, rfl, hrd, _, rfl, ta, _, rfl, .inr hta2, ?_⟩
        have e2 : (tkK told).length = ts.length := by rw [lts]; unfold tkK; rw [List.length_map]
        refine ⟨rfl, _, rfl, ?_⟩
        have same : (!decide (V.int (((tkK told).length : Nat) : Int) = V.int ((ts.length : Nat) : Int))) = false := by
          rw [e2, decide_eq_true rfl]
          rfl
        rw [same]
        refine ite2 (fun z => nomatch z) (fun _ => ?_)
        have p2' := p2
        -- any([number < 0 ..])
        refine ⟨_, rfl, ta, rfl, ⟨_, hta2⟩, fun D nD => ?_⟩
        refine lc_tup_rep (K := K) (A := StV) (B := BlV) (f := fun x => some (decide (x.2 < 0))) StV.ts (fun h _ => h) hta2 (rep_mono (fun v d q => StV.ts q S2.ts) rT) (by omega) nD ?_ ?_
        · rintro v d Hx Nx Sk dm ⟨od, ad, bd, rfl, hd, hb⟩ Sx nx sk
          refine ⟨ad, _, rfl, sqt hd, rfl, _, _, rfl, _, _, rfl, rfl, rfl, _, rfl, _, _, rfl, rfl, ?_⟩
          exact nx _ _ _ rfl (Same.refl _) rfl
        · intro H3 bs S3 hD rB
          rw [BlV.vals rB, filterMap_some] at hD
          refine ⟨D, _, rfl, sql hD, _, rfl, ?_⟩
          have S03 := S2.trans S3
          rw [List.any_map]
          refine ite2 (fun c => ?_) (fun c => ?_)
          · refine no S03 ?_
            obtain ⟨y, hy, c⟩ := List.any_eq_true.mp c
            have c : y.2 < 0 := by simpa using c
            unfold takesB
            have bad : told.all (fun x => decide (0 ≤ x.2)) = false := all_bad hy (decide_eq_false (by omega))
            rw [bad, Bool.and_false]
            rfl
          · have v1 : decide ((told.map (·.1)).Nodup) = true := decide_eq_true nd
            have v2 : told.all (fun x => decide (0 ≤ x.2)) = true := List.all_eq_true.mpr fun y m => decide_eq_true (Classical.byContradiction fun z => c (List.any_eq_true.mpr ⟨y, m, by simp; omega⟩))
            refine ⟨_, rfl, t, rfl, ⟨_, sqt (S03 _ _ ht)⟩, fun D2 nD2 => ?_⟩
            refine lc_tup_rep (K := K) (A := RlV) (B := BlV) (ds := rs) (f := fun r => (rkOf told (r.p, r.s)).map (rightB F told r)) RlV.ts (fun h _ => h) (sqt (S03 _ _ ht)) (rep_mono (fun v d q => RlV.ts q S03.ts) rr) (by omega) nD2 ?_ ?_
            · rintro v r Hx Nx Sk rm xr Sx nx sk
              obtain ⟨⟨os, ow, lw⟩, a5, b5, rfl, ha5, hb5⟩ := id xr
              refine ⟨rfl, _, rfl, 2, rfl, a5, _, rfl, sqt ha5, part5, fun p3 np3 => ?_⟩
              obtain ⟨H4, e4, S4, hp4, _⟩ := newFacts (o := .tup (cutV [V.int r.p, .str r.s, .int r.q, .ref b5, .int r.m] none (some 2))) np3
              rw [← e4]
              have S24 := (S3.trans Sx).trans S4
              have hpi4 := S24 _ _ hpi
              have hrd4 := S24 _ _ hrd
              refine ⟨_, rfl, x, C, dx2, _, _, rfl, hpi4, PC.cl, PC.nR, pf_ranks _ _ _, ?_⟩
              cases q2 : rkOf told (r.p, r.s) with
              | none => exact ⟨rd, _, rfl, dgn (h := (r.p, r.s)) hrd4 hp4 q2, _, rfl, iteF (sk _ (by simp only [q2]; rfl) S4)⟩
              | some a2 =>
                refine ⟨rd, _, rfl, dgn (h := (r.p, r.s)) hrd4 hp4 q2, _, rfl, iteT ⟨_, rfl, x, dx2, _, rfl, hpi4, pf_no _ _ _ (by decide +kernel) (by decide +kernel) (by decide +kernel), _, rfl, ?_⟩⟩
                refine ⟨x, .ref a5, F, told, r, a2, rfl, p2'.same S24, RlV.ts xr S4.ts, q2, lF, fun H' S' => ?_⟩
                exact nx _ _ _ (by simp only [q2]; rfl) (S4.trans S') rfl
            · intro H4 bs2 S4 hD2 rB2
              rw [BlV.vals rB2] at hD2
              refine ⟨D2, _, rfl, sql hD2, ?_⟩
              rw [allB_eq]
              have val : takesB rs h F told = allB rs F told := by
                unfold takesB
                rw [v1, v2, q]
                simp
              rw [← val]
              exact k _ (S03.trans S4)
    · have tf : takesB rs h F told = false := by
        unfold takesB
        rw [decide_eq_false nd]
        rfl
      obtain ⟨H0, dx2, rd, kn, bh, kk, hh2, hpi, hrd, _⟩ := id p2
      have less : (mergeT [] (tkK told)).length ≠ ts.length := fun z => nd (merge_lt told [] (by rw [z, lts, List.length_nil, Nat.zero_add])).1
      have g : DGet H2 rd (.ref ah) (valV (mergeT [] (tkK told)) (hdK h)) := DGet.t (k := hdK h) hrd hah
      refine ⟨_, rfl, _, rfl, x, C, dx2, _, _, rfl, hpi, PC.cl, PC.nR, pf_ranks _ _ _, rd, _, rfl, g, _, rfl, ?_⟩
      cases q : valV (mergeT [] (tkK told)) (hdK h) with
      | none => exact iteT (no S2 tf)
      | some u =>
        refine iteF ?_
        refine ⟨_, rfl, x, C, dx2, _, _, rfl, hpi, PC.cl, PC.nR, pf_ranks _ _ _, rd, _, rfl, hrd, _, rfl, ta, _, rfl, .inr hta2, rfl, _, rfl, ?_⟩
        have ne : (!decide (V.int (((mergeT [] (tkK told)).length : Nat) : Int) = V.int ((ts.length : Nat) : Int))) = true := by
          rw [decide_eq_false (fun z => less (by injection z with z; omega))]
          rfl
        rw [ne]
        refine ite2 (fun _ => iteT (no S2 tf)) (fun z => absurd rfl z)
end
end Wk

namespace Wk
open PySem L2
/-! ### the law's own sums, in plain Lean -/
def HdB (h : Hd) : Prop := 0 ≤ h.1 ∧ h.1 < 3 ∧ okS h.2
def UH : List Hd := [(0, "a"), (0, "b"), (1, "a"), (1, "b"), (2, "a"), (2, "b")]
theorem HdB.mem {h : Hd} (b : HdB h) : h ∈ UH := by
  obtain ⟨p, s⟩ := h
  obtain ⟨p0, p1, os⟩ := b
  have p0 : (0 : Int) ≤ p := p0
  have p1 : p < 3 := p1
  have : p = 0 ∨ p = 1 ∨ p = 2 := by omega
  rcases os with h | h <;> simp only at h <;> rcases this with z | z | z <;> rw [h, z] <;> simp [UH]
def WfR (rs : List Rl) : Prop := ∀ r ∈ rs, RlB r ∧ okS r.s ∧ (∀ x ∈ r.w, okS x) ∧ r.w.length ≤ 2
theorem mem_once {α : Type} [DecidableEq α] (x : α) : ∀ (l acc : List α), x ∈ l.foldl (fun acc x => if x ∈ acc then acc else acc ++ [x]) acc ↔ x ∈ acc ∨ x ∈ l
  | [], acc => by simp
  | a :: l, acc => by
    rw [List.foldl_cons, mem_once x l]
    by_cases c : a ∈ acc
    · rw [if_pos c]
      constructor
      · exact fun h => h.elim .inl fun z => .inr (List.mem_cons_of_mem _ z)
      · intro h
        rcases h with z | z
        · exact .inl z
        · rcases List.mem_cons.mp z with z | z
          · exact .inl (z ▸ c)
          · exact .inr z
    · rw [if_neg c]
      simp [or_assoc]
theorem mem_onceL {α : Type} [DecidableEq α] {x : α} {l : List α} : x ∈ onceL l ↔ x ∈ l := by
  unfold onceL
  rw [mem_once]
  simp
theorem nodup_once {α : Type} [DecidableEq α] : ∀ (l acc : List α), acc.Nodup → (l.foldl (fun acc x => if x ∈ acc then acc else acc ++ [x]) acc).Nodup
  | [], acc, h => h
  | a :: l, acc, h => by
    rw [List.foldl_cons]
    refine nodup_once l _ ?_
    by_cases c : a ∈ acc
    · rw [if_pos c]; exact h
    · rw [if_neg c]
      refine List.nodup_append.mpr ⟨h, by simp, fun x hx y hy z => ?_⟩
      have : y = a := by simpa using hy
      exact c (by rw [← this, ← z]; exact hx)
theorem nodup_onceL {α : Type} [DecidableEq α] (l : List α) : (onceL l).Nodup := nodup_once l [] .nil
theorem once_len {α : Type} [DecidableEq α] (l : List α) : (onceL l).length ≤ l.length := by
  have := onceL_len l []
  unfold onceL
  simpa using this
/-! steps -/
theorem step_of {rs : List Rl} {F : List En} {h : Hd} {t : Sp2} (m : t ∈ stepsOf rs F h) : ∃ r ∈ rs, (r.p, r.s) = h ∧ ((∃ x wr, r.w = x :: wr ∧ t = ((r.q, x), r.m)) ∨ ∃ x y wr e, r.w = x :: y :: wr ∧ e ∈ F ∧ enH e = (r.q, x) ∧ t = ((enQ e, y), max r.m (enF e))) := by
  obtain ⟨r, hr, m⟩ := List.mem_flatMap.mp m
  unfold stepsR at m
  by_cases c : (r.p, r.s) = h
  · rw [if_pos c] at m
    refine ⟨r, hr, c, ?_⟩
    cases hw : r.w with
    | nil => rw [hw] at m; cases m
    | cons x wr =>
      rw [hw] at m
      cases wr with
      | nil =>
        have m : t = ((r.q, x), r.m) := by simpa using m
        exact .inl ⟨x, [], rfl, m⟩
      | cons y wr =>
        rcases List.mem_cons.mp m with z | z
        · exact .inl ⟨x, y :: wr, rfl, z⟩
        · obtain ⟨e, he, z⟩ := List.mem_filterMap.mp z
          by_cases c2 : enH e = (r.q, x)
          · rw [if_pos c2] at z
            cases z
            exact .inr ⟨x, y, wr, e, rfl, he, c2, rfl⟩
          · rw [if_neg c2] at z
            cases z
  · rw [if_neg c] at m
    cases m
theorem stepsR_len (F : List En) (h : Hd) (r : Rl) : (stepsR F h r).length ≤ F.length + 1 := by
  unfold stepsR
  split
  · split
    · simp
    · simp
    · rw [List.length_cons]
      exact Nat.succ_le_succ (List.length_filterMap_le ..)
  · simp
theorem stepsOf_len (F : List En) (h : Hd) : ∀ rs : List Rl, (stepsOf rs F h).length ≤ rs.length * (F.length + 1)
  | [] => by simp [stepsOf]
  | r :: rs => by
    have h1 := stepsOf_len F h rs
    have h2 := stepsR_len F h r
    have e : stepsOf (r :: rs) F h = stepsR F h r ++ stepsOf rs F h := by unfold stepsOf; rw [List.flatMap_cons]
    rw [e, List.length_append, List.length_cons, Nat.succ_mul]
    omega
/-- the steps, each once -/
abbrev stp (rs : List Rl) (F : List En) (h : Hd) : List Sp2 := onceL (stepsOf rs F h)
theorem stp_len {rs : List Rl} {F : List En} {h : Hd} (a : rs.length ≤ 8) (b : F.length ≤ 36) : (stp rs F h).length ≤ 296 := by
  have h1 := once_len (stepsOf rs F h)
  have h2 := stepsOf_len F h rs
  have h3 : rs.length * (F.length + 1) ≤ 8 * 37 := Nat.mul_le_mul a (by omega)
  show (onceL (stepsOf rs F h)).length ≤ 296
  omega
theorem stp_ok {rs : List Rl} {F : List En} {h : Hd} {t : Sp2} (wf : WfR rs) (hF : ∀ e ∈ F, EnB e) (m : t ∈ stp rs F h) : HdB t.1 ∧ 0 ≤ t.2 := by
  obtain ⟨r, hr, _, c⟩ := step_of (mem_onceL.mp m)
  obtain ⟨⟨_, _, q0, q1, m0, _⟩, _, ow, _⟩ := wf r hr
  rcases c with ⟨x, wr, hw, rfl⟩ | ⟨x, y, wr, e, hw, he, _, rfl⟩
  · exact ⟨⟨q0, q1, ow x (by rw [hw]; simp)⟩, m0⟩
  · obtain ⟨_, _, _, e0, e1, f0, _⟩ := hF e he
    exact ⟨⟨e0, e1, ow y (by rw [hw]; simp)⟩, by show 0 ≤ max r.m (enF e); omega⟩
/-! what the judge's yes means -/
section
variable {rs : List Rl} {h0 : Hd} {F T : List En} {told : List Sp2}
theorem takes_all (hT : takesB rs h0 F told = true) {r : Rl} {a : Int} (hr : r ∈ rs) (e : rkOf told (r.p, r.s) = some a) : rightB F told r a = true := by
  unfold takesB at hT
  simp only [Bool.and_eq_true] at hT
  have := List.all_eq_true.mp hT.2 r hr
  rw [e] at this
  exact this
theorem takes_nn (hT : takesB rs h0 F told = true) {h : Hd} {a : Int} (e : rkOf told h = some a) : 0 ≤ a := by
  unfold takesB at hT
  simp only [Bool.and_eq_true] at hT
  unfold rkOf at e
  obtain ⟨x, hx, rfl⟩ := Option.map_eq_some_iff.mp e
  have := List.all_eq_true.mp hT.1.1.2 x (List.mem_of_find?_eq_some hx)
  simpa using this
theorem takes_head (hT : takesB rs h0 F told = true) : ∃ a, rkOf told h0 = some a := by
  unfold takesB at hT
  simp only [Bool.and_eq_true] at hT
  exact Option.isSome_iff_exists.mp hT.1.2
theorem falls_some {h : Hd} {most : Int} (e : fallsB told h most = true) : ∃ a, rkOf told h = some a ∧ a ≤ most := by
  unfold fallsB at e
  cases q : rkOf told h with
  | none => rw [q] at e; cases e
  | some a => rw [q] at e; exact ⟨a, rfl, by simpa using e⟩
theorem right_two {r : Rl} {a : Int} {x y : Str} {wr : List Str} (R : rightB F told r a = true) (hw : r.w = x :: y :: wr) : (∃ a', rkOf told (r.q, x) = some a' ∧ a' ≤ a - r.m) ∧ ∀ e ∈ F, enH e = (r.q, x) → (∃ a', rkOf told (enQ e, y) = some a' ∧ a' ≤ a - max r.m (enF e)) ∧ ∀ e2 ∈ F, enH e2 = (enQ e, y) → (r.p, r.s, enQ e2, max (max r.m (enF e)) (enF e2)) ∈ F := by
  unfold rightB at R
  rw [hw] at R
  simp only [Bool.and_eq_true] at R
  refine ⟨falls_some R.1, fun e he c => ?_⟩
  have q := List.all_eq_true.mp R.2 e he
  rw [decide_eq_true c] at q
  have q : twoB F told r y a e = true := q
  unfold twoB at q
  simp only [Bool.and_eq_true, Bool.not_eq_true'] at q
  refine ⟨falls_some q.1, fun e2 he2 c2 => ?_⟩
  have := List.any_eq_false.mp q.2 e2 he2
  unfold backB at this
  rw [decide_eq_true c2] at this
  simpa using this
theorem right_one {r : Rl} {a : Int} {x : Str} (R : rightB F told r a = true) (hw : r.w = [x]) : (∃ a', rkOf told (r.q, x) = some a' ∧ a' ≤ a - r.m) ∧ ∀ e ∈ F, enH e = (r.q, x) → (r.p, r.s, enQ e, max r.m (enF e)) ∈ F := by
  unfold rightB at R
  rw [hw] at R
  simp only [Bool.and_eq_true] at R
  refine ⟨falls_some R.1, fun e he c => ?_⟩
  have q := List.all_eq_true.mp R.2 e he
  rw [decide_eq_true c] at q
  have q : oneB F r e = true := q
  unfold oneB at q
  simpa using q
theorem known (hT : takesB rs h0 F told = true) {e : En} (s : Snd rs e) : ∀ a, rkOf told (enH e) = some a → e ∈ F := by
  induction s with
  | zero hr hw =>
    intro a ra
    have R := takes_all hT hr ra
    unfold rightB at R
    rw [hw] at R
    simpa using R
  | one hr hw _ he ih =>
    intro a ra
    obtain ⟨⟨a', ra', _⟩, q⟩ := right_one (takes_all hT hr ra) hw
    exact q _ (ih a' (by rw [he]; exact ra')) he
  | two hr hw _ he _ he2 ih ih2 =>
    intro a ra
    obtain ⟨⟨a', ra', _⟩, q⟩ := right_two (takes_all hT hr ra) hw
    obtain ⟨⟨a2, ra2, _⟩, q2⟩ := q _ (ih a' (by rw [he]; exact ra')) he
    exact q2 _ (ih2 a2 (by rw [he2]; exact ra2)) he2
/-- a step from a ranked head falls -/
theorem step_falls (hT : takesB rs h0 F told = true) (snd : ∀ e ∈ T, Snd rs e) {h : Hd} {a : Int} (ra : rkOf told h = some a) {t : Sp2} (m : t ∈ stp rs T h) : ∃ a', rkOf told t.1 = some a' ∧ a' + t.2 ≤ a := by
  obtain ⟨r, hr, rfl, c⟩ := step_of (mem_onceL.mp m)
  have R := takes_all hT hr ra
  rcases c with ⟨x, wr, hw, rfl⟩ | ⟨x, y, wr, e, hw, he, eh, rfl⟩
  · cases wr with
    | nil =>
      obtain ⟨⟨a', ra', l⟩, _⟩ := right_one R hw
      exact ⟨a', ra', by show a' + r.m ≤ a; omega⟩
    | cons y wr =>
      obtain ⟨⟨a', ra', l⟩, _⟩ := right_two R hw
      exact ⟨a', ra', by show a' + r.m ≤ a; omega⟩
  · obtain ⟨⟨a', ra', l⟩, q⟩ := right_two R hw
    have eF := known hT (snd e he) a' (by rw [eh]; exact ra')
    obtain ⟨⟨a2, ra2, l2⟩, _⟩ := q e eF eh
    exact ⟨a2, ra2, by show a2 + max r.m (enF e) ≤ a; omega⟩
end
/-! dicts from heads to ints -/
def putB (B : List Sp2) (h : Hd) (v : Int) : List Sp2 := if h ∈ B.map (·.1) then B.map fun x => if x.1 = h then (x.1, v) else x else B ++ [(h, v)]
theorem put_tk (B : List Sp2) (h : Hd) (v : Int) : putK (tkK B) (hdK h) (.int v) = tkK (putB B h v) := by
  unfold putB
  by_cases c : h ∈ B.map (·.1)
  · rw [if_pos c]
    unfold putK
    have t : ((tkK B).any fun kv => decide (kv.1 = hdK h)) = true := by
      obtain ⟨x, hx, e⟩ := List.mem_map.mp c
      rw [List.any_eq_true]
      exact ⟨(hdK x.1, .int x.2), List.mem_map.mpr ⟨x, hx, rfl⟩, by rw [e]; simp⟩
    rw [t]
    unfold tkK
    simp only [if_true, List.map_map]
    refine List.map_congr_left fun x _ => ?_
    simp only [Function.comp]
    by_cases e : x.1 = h
    · rw [if_pos e, if_pos (by rw [e])]
    · rw [if_neg e, if_neg fun z => e (hdK_inj z)]
  · rw [if_neg c, putK_new _ (by rw [tk_val, rk_take_none.mpr c]; rfl)]
    unfold tkK
    rw [List.map_append]
    rfl
theorem putB_mem {B : List Sp2} {h : Hd} {v : Int} {y : Sp2} (m : y ∈ putB B h v) : y = (h, v) ∨ y ∈ B := by
  unfold putB at m
  split at m
  · obtain ⟨x, hx, e⟩ := List.mem_map.mp m
    split at e
    · rename_i c
      exact .inl (by rw [← e, c])
    · exact .inr (e ▸ hx)
  · rcases List.mem_append.mp m with z | z
    · exact .inr z
    · exact .inl (by simpa using z)
theorem putB_keys (B : List Sp2) (h : Hd) (v : Int) : (putB B h v).map (·.1) = if h ∈ B.map (·.1) then B.map (·.1) else B.map (·.1) ++ [h] := by
  unfold putB
  split
  · rw [List.map_map]
    refine List.map_congr_left fun x _ => ?_
    simp only [Function.comp]
    split <;> rfl
  · rw [List.map_append]
    rfl
theorem putB_nodup {B : List Sp2} {h : Hd} {v : Int} (nd : (B.map (·.1)).Nodup) : ((putB B h v).map (·.1)).Nodup := by
  rw [putB_keys]
  split
  · exact nd
  · rename_i c
    refine List.nodup_append.mpr ⟨nd, by simp, fun x hx y hy z => ?_⟩
    have : y = h := by simpa using hy
    exact c (by rw [← this, ← z]; exact hx)
theorem rk_some {B : List Sp2} {h : Hd} : (∃ a, rkOf B h = some a) ↔ h ∈ B.map (·.1) := by
  constructor
  · rintro ⟨a, e⟩
    refine Classical.byContradiction fun z => ?_
    rw [rk_take_none.mpr z] at e
    cases e
  · intro m
    cases q : rkOf B h with
    | some a => exact ⟨a, rfl⟩
    | none => exact absurd m (rk_take_none.mp q)
theorem rk_mem {B : List Sp2} {h : Hd} {a : Int} (e : rkOf B h = some a) : (h, a) ∈ B := by
  unfold rkOf at e
  obtain ⟨x, hx, rfl⟩ := Option.map_eq_some_iff.mp e
  have h1 := List.mem_of_find?_eq_some hx
  have h2 := List.find?_some hx
  have h2 : x.1 = h := by simpa using h2
  rw [← h2]
  exact h1
theorem nodup_one : ∀ {B : List Sp2}, (B.map (·.1)).Nodup → ∀ {x y : Sp2}, x ∈ B → y ∈ B → x.1 = y.1 → x = y
  | z :: B, nd, x, y, mx, my, e => by
    rw [List.map_cons, List.nodup_cons] at nd
    rcases List.mem_cons.mp mx with q | q <;> rcases List.mem_cons.mp my with q2 | q2
    · rw [q, q2]
    · exact absurd (List.mem_map.mpr ⟨y, q2, by rw [← e, q]⟩) nd.1
    · exact absurd (List.mem_map.mpr ⟨x, q, by rw [e, q2]⟩) nd.1
    · exact nodup_one nd.2 q q2 e
theorem rk_at {B : List Sp2} (nd : (B.map (·.1)).Nodup) {x : Sp2} (m : x ∈ B) : rkOf B x.1 = some x.2 := by
  obtain ⟨a, e⟩ := rk_some.mpr (List.mem_map.mpr ⟨x, m, rfl⟩)
  have := nodup_one nd m (rk_mem e) rfl
  rw [e, this]
/-! the heads -/
def Closed (rs : List Rl) (T : List En) (L : List Hd) : Prop := ∀ h ∈ L, ∀ t ∈ stp rs T h, t.1 ∈ L
def HeadsI (rs : List Rl) (T : List En) (k : Nat) (L : List Hd) : Prop := L.Nodup ∧ (∀ x ∈ L, HdB x) ∧ (Closed rs T L ∨ k + 1 ≤ L.length) ∧ L ≠ []
def GrowI (rs : List Rl) (T : List En) (hs : List Hd) (u : Nat) (M : List Hd) : Prop := (∀ x ∈ hs, x ∈ M) ∧ (∀ h ∈ hs.take u, ∀ t ∈ stp rs T h, t.1 ∈ M) ∧ (∀ x ∈ M, x ∈ hs ∨ ∃ h ∈ hs, ∃ t ∈ stp rs T h, t.1 = x) ∧ M.length ≤ 6 + 296 * u
theorem HeadsI.few {rs : List Rl} {T : List En} {k : Nat} {L : List Hd} (x : HeadsI rs T k L) : L.length ≤ 6 := nodup_le (D := UH) x.1 fun h m => (x.2.1 h m).mem
theorem HeadsI.closed {rs : List Rl} {T : List En} {L : List Hd} (x : HeadsI rs T 12 L) : Closed rs T L := by
  rcases x.2.2.1 with c | c
  · exact c
  · have := x.few
    omega
theorem grow_zero {rs : List Rl} {T : List En} {hs : List Hd} (l : hs.length ≤ 6) : GrowI rs T hs 0 hs := ⟨(fun x m => m), (fun h m => nomatch m), (fun x m => Or.inl m), (by omega)⟩
theorem GrowI.step {rs : List Rl} {T : List En} {hs M : List Hd} {u : Nat} {h : Hd} (g : GrowI rs T hs u M) (e : hs[u]? = some h) (l : (stp rs T h).length ≤ 296) :
    GrowI rs T hs (u + 1) (M ++ (stp rs T h).filterMap fun t => if t.1 ∈ M then none else some t.1) := by
  obtain ⟨a, b, c, d⟩ := g
  have hh : h ∈ hs := List.mem_of_getElem? e
  refine ⟨fun x m => List.mem_append_left _ (a x m), fun h' m t ht => ?_, fun x m => ?_, ?_⟩
  · rw [List.take_add_one, e] at m
    rcases List.mem_append.mp m with z | z
    · exact List.mem_append_left _ (b h' z t ht)
    · have z : h' = h := by simpa using z
      rw [z] at ht
      by_cases q : t.1 ∈ M
      · exact List.mem_append_left _ q
      · exact List.mem_append_right _ (List.mem_filterMap.mpr ⟨t, ht, if_neg q⟩)
  · rcases List.mem_append.mp m with z | z
    · exact c x z
    · obtain ⟨t, ht, q⟩ := List.mem_filterMap.mp z
      split at q
      · cases q
      · cases q
        exact .inr ⟨h, hh, t, ht, rfl⟩
  · rw [List.length_append]
    have := List.length_filterMap_le (fun t : Sp2 => if t.1 ∈ M then none else some t.1) (stp rs T h)
    omega
theorem HeadsI.round {rs : List Rl} {T : List En} {hs M : List Hd} {k : Nat} (x : HeadsI rs T k hs) (wf : WfR rs) (hF : ∀ e ∈ T, EnB e) (g : GrowI rs T hs hs.length M) : HeadsI rs T (k + 1) (onceL M) := by
  obtain ⟨nd, hb, cl, ne⟩ := x
  obtain ⟨a, b, c, d⟩ := g
  rw [List.take_length] at b
  have nd2 := nodup_onceL M
  refine ⟨nd2, fun y m => ?_, ?_, fun z => ?_⟩
  · rcases c y (mem_onceL.mp m) with z | ⟨h, hh, t, ht, rfl⟩
    · exact hb y z
    · exact (stp_ok wf hF ht).1
  · by_cases q : Closed rs T hs
    · left
      have back : ∀ y ∈ M, y ∈ hs := fun y m => by
        rcases c y m with z | ⟨h, hh, t, ht, rfl⟩
        · exact z
        · exact q h hh t ht
      exact fun h m t ht => mem_onceL.mpr (a _ (q h (back h (mem_onceL.mp m)) t ht))
    · right
      have lk : k + 1 ≤ hs.length := cl.elim (fun z => absurd z q) id
      have : ∃ h ∈ hs, ∃ t ∈ stp rs T h, t.1 ∉ hs := Classical.byContradiction fun z => q fun h hh t ht => Classical.byContradiction fun w => z ⟨h, hh, t, ht, w⟩
      obtain ⟨h, hh, t, ht, out⟩ := this
      have := nodup_le (l := t.1 :: hs) (D := onceL M) (List.nodup_cons.mpr ⟨out, nd⟩) fun y m => by
        rcases List.mem_cons.mp m with z | z
        · rw [z]; exact mem_onceL.mpr (b h hh t ht)
        · exact mem_onceL.mpr (a y z)
      rw [List.length_cons] at this
      omega
  · obtain ⟨y, hy⟩ := List.exists_mem_of_ne_nil _ ne
    have := mem_onceL.mpr (a y hy)
    rw [z] at this
    cases this
/-! the best sums -/
def BestI (told : List Sp2) (most : Int) (B : List Sp2) : Prop := (B.map (·.1)).Nodup ∧ ∀ x ∈ B, 0 ≤ x.2 ∧ ∃ a, rkOf told x.1 = some a ∧ x.2 + a ≤ most
theorem BestI.put {told B : List Sp2} {most b m : Int} {t : Hd} {a a' : Int} (x : BestI told most B) (b0 : 0 ≤ b) (m0 : 0 ≤ m) (ba : b + a ≤ most) (ra : rkOf told t = some a') (fa : a' + m ≤ a) : BestI told most (putB B t (max (b + m) ((rkOf B t).getD 0))) := by
  refine ⟨putB_nodup x.1, fun y my => ?_⟩
  rcases putB_mem my with z | z
  · rw [z]
    refine ⟨by show 0 ≤ max (b + m) _; omega, a', ra, ?_⟩
    show max (b + m) ((rkOf B t).getD 0) + a' ≤ most
    cases q : rkOf B t with
    | none => simp only [Option.getD_none]; omega
    | some c =>
      obtain ⟨_, a2, ra2, l⟩ := x.2 _ (rk_mem q)
      have e : a2 = a' := by
        rw [show rkOf told t = some a2 from ra2] at ra
        cases ra
        rfl
      have l : c + a2 ≤ most := l
      simp only [Option.getD_some]
      omega
  · exact x.2 y z
theorem BestI.len {told B : List Sp2} {most : Int} (x : BestI told most B) : B.length ≤ told.length := by
  have h := nodup_le (l := B.map (·.1)) (D := told.map (·.1)) x.1 fun h m => by
    obtain ⟨y, hy, rfl⟩ := List.mem_map.mp m
    obtain ⟨_, a, ra, _⟩ := x.2 y hy
    exact rk_some.mp ⟨a, ra⟩
  simpa using h
end Wk

namespace Wk
open PySem L2
theorem rep_in {α : Type} {R : Hp → V → α → Prop} {H : Hp} {a : α} : ∀ {xs : List V} {ds : List α}, Rep R H xs ds → a ∈ ds → ∃ v, v ∈ xs ∧ R H v a
  | _, _, .cons h t, m => by
    rcases List.mem_cons.mp m with z | z
    · exact ⟨_, List.mem_cons_self, by rw [z]; exact h⟩
    · obtain ⟨v, hv, r⟩ := rep_in t z
      exact ⟨v, List.mem_cons_of_mem _ hv, r⟩
/-- ranks of heads: the first u of L have one -/
def RankI (L : List Hd) (u : Nat) (B : List Sp2) : Prop := (B.map (·.1)).Nodup ∧ (∀ x ∈ B, x.1 ∈ L) ∧ ∀ h ∈ L.take u, h ∈ B.map (·.1)
theorem rank_zero {L : List Hd} : RankI L 0 [] := ⟨.nil, (fun x m => nomatch m), (fun x m => nomatch m)⟩
theorem RankI.all {L : List Hd} {B : List Sp2} (x : RankI L L.length B) {h : Hd} (m : h ∈ L) : h ∈ B.map (·.1) := x.2.2 h (by rw [List.take_length]; exact m)
theorem RankI.short {L : List Hd} {u : Nat} {B : List Sp2} (x : RankI L u B) (l : L.length ≤ 6) : (tkK B).length < sizeLine := by
  have h := nodup_le (l := B.map (·.1)) (D := L) x.1 fun h m => by
    obtain ⟨y, hy, rfl⟩ := List.mem_map.mp m
    exact x.2.1 y hy
  rw [List.length_map] at h
  refine small_line ?_
  unfold tkK
  rw [List.length_map]
  omega
theorem RankI.again {L : List Hd} {u : Nat} {B : List Sp2} {h : Hd} {v : Int} (x : RankI L u B) (m : h ∈ L) : RankI L u (putB B h v) := by
  refine ⟨putB_nodup x.1, fun y my => ?_, fun h' m' => ?_⟩
  · rcases putB_mem my with z | z
    · rw [z]; exact m
    · exact x.2.1 y z
  · rw [putB_keys]
    have := x.2.2 h' m'
    split
    · exact this
    · exact List.mem_append_left _ this
theorem RankI.put {L : List Hd} {u : Nat} {B : List Sp2} {h : Hd} {v : Int} (x : RankI L u B) (e : L[u]? = some h) : RankI L (u + 1) (putB B h v) := by
  have y := x.again (v := v) (List.mem_of_getElem? e)
  refine ⟨y.1, y.2.1, fun h' m' => ?_⟩
  rw [List.take_add_one, e] at m'
  rcases List.mem_append.mp m' with z | z
  · exact y.2.2 h' z
  · have z : h' = h := by simpa using z
    rw [z, putB_keys]
    split
    · assumption
    · simp
/-! ### the paper's two lists, as the law writes them -/
structure Far (cl tl el dl : Addr) : Prop where
  de : dl ≠ el
  dt : dl ≠ tl
  dc : dl ≠ cl
  et : el ≠ tl
  ec : el ≠ cl
structure Ed (H0 H : Hp) (st cl tl el dl : Addr) (es0 xs ts : List V) (F : List En) (told : List Sp2) : Prop where
  t : TSame H0 H
  d : DrawSt H st cl
  tr : H tl = some (.lst es0)
  e : H el = some (.lst xs)
  rE : Rep EnV H xs F
  o : H dl = some (.lst ts)
  rT : Rep StV H ts told
section
variable {H0 H H' : Hp} {st cl tl el dl : Addr} {es0 xs ts : List V} {F : List En} {told : List Sp2}
theorem Ed.draw (x : Ed H0 H st cl tl el dl es0 xs ts F told) (b : But st H H') (d : DrawSt H' st cl) : Ed H0 H' st cl tl el dl es0 xs ts F told := by
  have T := but_ts x.d b
  exact ⟨x.t.trans T, d, b _ _ (x.d.ne x.tr fun _ z => nomatch z) x.tr, b _ _ (x.d.ne x.e fun _ z => nomatch z) x.e, rep_mono (fun v d q => EnV.ts q T) x.rE, b _ _ (x.d.ne x.o fun _ z => nomatch z) x.o, rep_mono (fun v d q => StV.ts q T) x.rT⟩
theorem Ed.same (x : Ed H0 H st cl tl el dl es0 xs ts F told) (s : Same H H') : Ed H0 H' st cl tl el dl es0 xs ts F told :=
  ⟨x.t.trans s.ts, x.d.same s, s _ _ x.tr, s _ _ x.e, rep_mono (fun v d q => EnV.ts q s.ts) x.rE, s _ _ x.o, rep_mono (fun v d q => StV.ts q s.ts) x.rT⟩
theorem Ed.setT {ts' : List V} {told' : List Sp2} (x : Ed H0 H st cl tl el dl es0 xs ts F told) (f : Far cl tl el dl) (r : Rep StV H ts' told') : Ed H0 (upd H dl (.lst ts')) st cl tl el dl es0 xs ts' F told' := by
  have T : TSame H (upd H dl (.lst ts')) := ts_put x.o fun _ z => nomatch z
  exact ⟨x.t.trans T, x.d.put x.o f.dc, by rw [upd_ne f.dt.symm]; exact x.tr, by rw [upd_ne f.de.symm]; exact x.e, rep_mono (fun v d q => EnV.ts q T) x.rE, upd_same, rep_mono (fun v d q => StV.ts q T) r⟩
theorem Ed.setE {xs' : List V} {F' : List En} (x : Ed H0 H st cl tl el dl es0 xs ts F told) (f : Far cl tl el dl) (r : Rep EnV H xs' F') : Ed H0 (upd H el (.lst xs')) st cl tl el dl es0 xs' ts F' told := by
  have T : TSame H (upd H el (.lst xs')) := ts_put x.e fun _ z => nomatch z
  exact ⟨x.t.trans T, x.d.put x.e f.ec, by rw [upd_ne f.et.symm]; exact x.tr, upd_same, rep_mono (fun v d q => EnV.ts q T) r, by rw [upd_ne f.de]; exact x.o, rep_mono (fun v d q => StV.ts q T) x.rT⟩
end
def EdN (H0 H : Hp) (st cl tl el dl : Addr) (es0 : List V) (n : Nat) (g : Nat → Prop) : Prop := ∃ xs ts F told, Ed H0 H st cl tl el dl es0 xs ts F told ∧ F.length ≤ n + 36 ∧ told.length ≤ n + 6 ∧ told ≠ [] ∧ g told.length
theorem EdN.more {H0 H : Hp} {st cl tl el dl : Addr} {es0 : List V} {n m : Nat} {g g' : Nat → Prop} (x : EdN H0 H st cl tl el dl es0 n g) (l : n ≤ m) (i : ∀ n, g n → g' n) : EdN H0 H st cl tl el dl es0 m g' := by
  obtain ⟨xs, ts, F, told, a, b, c, d, e⟩ := x
  exact ⟨xs, ts, F, told, a, by omega, by omega, d, i _ e⟩
theorem ix_nat {n j : Nat} (hj : j < n) : ixN n (j : Int) = some j := by
  unfold ixN
  rw [if_pos (by omega), if_pos (by omega)]
  rfl
theorem seq_nat {n j : Nat} (h : j < n) : seqIndex? (j : Int) n = some j := (ixN_seq (ix_nat h)).1
/-- the first pair of a head -/
theorem first_rk {told : List Sp2} {h : Hd} {a : Int} (e : rkOf told h = some a) : (told.filterMap fun x => if x.1 = h then some x.2 else none)[0]? = some a := by
  induction told with
  | nil => cases e
  | cons x told ih =>
    by_cases c : x.1 = h
    · have e2 : rkOf (x :: told) h = some x.2 := by
        unfold rkOf
        rw [List.find?_cons_of_pos (by simpa using c)]
        rfl
      rw [e2] at e
      cases e
      simp [c]
    · have e2 : rkOf (x :: told) h = rkOf told h := by
        unfold rkOf
        rw [List.find?_cons_of_neg (by simpa using c)]
      rw [e2] at e
      simpa [c] using ih e
end Wk

namespace Wk
open PySem L2
def spLaw (K : PySem.W.Frag) : Sp := fun vs H Q _ => ∃ (a : Addr) (ns : List Int), vs = [.ref a] ∧ SqL K H a (ns.map V.int) ∧ ns.length ≤ 63 ∧ ∀ H', Q (.bl true) H'
abbrev nmLaw : List Str := ["_law_script", "_law_state", "_law_rules", "_law_head", "_law_true", "_law_ends", "_law_heads", "_law_k", "_law_each", "_law_ranks", "_law_told", "_law_kind", "_law_at", "_law_paper", "_law_due", "_law_most", "_law_best", "_law_following", "_law_target", "_law_mark", "_law_step", "_law_pair"]
theorem tk_at {B : List Sp2} {u : Nat} {k : List Key} {v : V} (e : (tkK B)[u]? = some (k, v)) : ∃ h b, B[u]? = some (h, b) ∧ k = hdK h ∧ v = .int b := by
  unfold tkK at e
  rw [List.getElem?_map] at e
  cases q : B[u]? with
  | none => rw [q] at e; cases e
  | some x =>
    rw [q] at e
    cases e
    exact ⟨x.1, x.2, rfl, rfl, rfl⟩
/-- a locked dict is read -/
theorem dgz {H : Hp} {d q : Addr} {o : Obj} {B : List Sp2} {h : Hd} {b : Int} (e : H d = some (.frz o (.dT (tkK B)))) (eq : H q = some (.tup [.int h.1, .str h.2])) (r : rkOf B h = some b) : DGet H d (.ref q) (some (.int b)) :=
  .inr ⟨tkK B, hdK h, q, .inr ⟨o, e⟩, rfl, eq, by rw [tk_val, r]; rfl⟩
/-- all the law calls -/
structure Clx (P : Program) (w : World) (K : PySem.W.Frag) (mg : Str → Option Value) (base : Heap) (f1 f2 f3 f4 f5 f6 f7 f8 f9 : Addr) (d1 d2 d3 d4 d5 d6 d7 d8 d9 : FuncData) : Prop where
  g1 : Gd K mg "_law_start" f1 d1 ["_law_script"]
  o1 : FnOk P w K mg base CX0 1 f1 d1 ["_law_script"] (spStart K)
  g2 : Gd K mg "_law_pushdown" f2 d2 ["_law_state"]
  o2 : FnOk P w K mg base CX0 3 f2 d2 ["_law_state"] spPush
  g3 : Gd K mg "_law_endings" f3 d3 ["_law_rules"]
  o3 : FnOk P w K mg base CX0 1 f3 d3 ["_law_rules"] spEnds
  g4 : Gd K mg "_law_steps" f4 d4 ["_law_rules", "_law_ends", "_law_head"]
  o4 : FnOk P w K mg base CX0 2 f4 d4 ["_law_rules", "_law_ends", "_law_head"] spSteps
  g5 : Gd K mg "_law_once" f5 d5 ["_law_things"]
  o5 : FnOk P w K mg base CX0 1 f5 d5 ["_law_things"] (spOnce K)
  g6 : Gd K mg "_law_draw" f6 d6 ["_law_state", "_law_bound"]
  o6 : FnOk P w K mg base CX0 1 f6 d6 ["_law_state", "_law_bound"] spDraw
  g7 : Gd K mg "_law_takes_rest" f7 d7 ["_law_rules", "_law_head", "_law_paper"]
  o7 : FnOk P w K mg base CX0 2 f7 d7 ["_law_rules", "_law_head", "_law_paper"] (spTakesL K)
  g8 : Gd K mg "_law_is" f8 d8 ["_law_actual", "_law_due"]
  o8 : FnOk P w K mg base CX0 1 f8 d8 ["_law_actual", "_law_due"] spIs
  g9 : Gd K mg "takes_rest" f9 d9 ["rules", "head", "paper"]
  o9 : FnOk P w K mg base CX0 4 f9 d9 ["rules", "head", "paper"] spTakes
section
variable {P : Program} {w : World} {K : PySem.W.Frag} {mg : Str → Option Value} {base : Heap}
theorem scLaw : FnScope nmLaw ["_law_script"] (defScope sLaw) := ⟨rfl, rfl, rfl, by decide +kernel, rfl, by decide +kernel, by decide +kernel⟩
set_option maxHeartbeats 40000000 in
theorem ok_law {f f1 f2 f3 f4 f5 f6 f7 f8 f9 : Addr} {fd d1 d2 d3 d4 d5 d6 d7 d8 d9 : FuncData} (F : Fun K "law" "law" sLaw f fd) (T : Txt mg) (G : Clx P w K mg base f1 f2 f3 f4 f5 f6 f7 f8 f9 d1 d2 d3 d4 d5 d6 d7 d8 d9) : FnOk P w K mg base CX0 5 f fd ["_law_script"] (spLaw K) := by
  refine F.ok scLaw (fun vs H Q E h => ?_) (fun cdv A outer s H vs Q E hr h => ?_)
  · obtain ⟨a, ns, rfl, _⟩ := h
    rfl
  · obtain ⟨a, ns, rfl, hl, few, k⟩ := h
    have hu := hu_of hr
    have hu64 : (A.deeper (PyProof.Rows.envOfC (Str.ofString "law") (defScope sLaw) s.heap.objs.size f cdv)).units + 64 < cLine := by have := hr.un; omega
    have hu65 : (A.deeper (PyProof.Rows.envOfC (Str.ofString "law") (defScope sLaw) s.heap.objs.size f cdv)).units + 65 < cLine := by have := hr.un; omega
    have hr1 : Room 1 (A.deeper (PyProof.Rows.envOfC (Str.ofString "law") (defScope sLaw) s.heap.objs.size f cdv)) := hr.mono (by decide)
    have hr2 : Room 2 (A.deeper (PyProof.Rows.envOfC (Str.ofString "law") (defScope sLaw) s.heap.objs.size f cdv)) := hr.mono (by decide)
    have hr3 : Room 3 (A.deeper (PyProof.Rows.envOfC (Str.ofString "law") (defScope sLaw) s.heap.objs.size f cdv)) := hr.mono (by decide)
    refine ⟨_, pss_cons (ps_set (i := 1) scLaw.nd rfl (.inl rfl) (pe_call G.o1 hr1 (by rfl) G.g1.at_ G.g1.kp G.g1.b .nil pass0 (pa_cons (pv 0) pa_nil)))
      (pss_cons (ps_set (i := 2) scLaw.nd rfl (.inl rfl) (pe_call G.o2 hr3 (by rfl) G.g2.at_ G.g2.kp G.g2.b .nil pass0 (pa_cons (pv 1) pa_nil)))
      (pss_cons (ps_set (i := 3) scLaw.nd rfl (.inr rfl) (pe_tup (pa_cons (pe_ix (ixT K) (pe_ix (ixT K) (pv 2) pe_int (fun _ _ => rfl)) pe_int (fun _ _ => rfl)) (pa_cons (pe_ix (ixT K) (pe_ix (ixT K) (pv 2) pe_int (fun _ _ => rfl)) pe_int (fun _ _ => rfl)) pa_nil))))
      (pss_cons (ps_set (i := 4) scLaw.nd rfl (.inl rfl) (pe_call G.o3 hr1 (by rfl) G.g3.at_ G.g3.kp G.g3.b .nil pass0 (pa_cons (pv 2) pa_nil)))
      (pss_cons (ps_set (i := 5) scLaw.nd rfl (.inl rfl) (pe_callTy call_list_of (by rfl) T.list (by decide +kernel) (pa_cons (pv 4) pa_nil)))
      (pss_cons (ps_set (i := 6) scLaw.nd rfl (.inr rfl) (pe_lst (pa_cons (pv 3) pa_nil)))
      (C8.pss_cut (ps_for PassesOwn.never rfl (pi_range1 (by rfl) T.range (pa_cons pe_int pa_nil)) (pg_name (i := 7) scLaw.nd rfl (.inl rfl))
        (pss_cons (ps_for PassesOwn.never rfl (pi_list (pe_callTy call_list_of (by rfl) T.list (by decide +kernel) (pa_cons (pv 6) pa_nil))) (pg_name (i := 8) scLaw.nd rfl (.inl rfl))
          (pss_one (ps_expr (pe_bm PySem.F.plainAttrs_list PySem.F.slot_list_extend PySem.F.type_list_extend mt_extend (pv 6) (pa_cons
            (pe_lc (own := [("_law_step", 20)]) (g := gName 20) (tt := _) rfl scLaw.nd (pi_list (pe_call G.o4 hr2 (by rfl) G.g4.at_ G.g4.kp G.g4.b .nil pass0 (pa_cons (pv 2) (pa_cons (pv 4) (pa_cons (pv 8) pa_nil)))))
              (blkOk_by (N := nmLaw) (sc := defScope sLaw) (by decide +kernel)) (fun _ _ _ _ _ => pg_name (i := 20) scLaw.nd rfl (Or.inl rfl))
              (fun _ _ _ _ _ => pts_one (pt_cmpR (opNotIn kHd K hu65) (pe_ix (ixT K) (pv 20) pe_int (fun _ _ => rfl)) (pv 6) (by rfl)))
              (fun _ _ _ _ _ => pe_ix (ixT K) (pv 20) pe_int (fun _ _ => rfl))) pa_nil)))))
        (pss_one (ps_set (i := 6) scLaw.nd rfl (.inr rfl) (pe_call G.o5 hr1 (by rfl) G.g5.at_ G.g5.kp G.g5.b .nil pass0 (pa_cons (pv 6) pa_nil))))))
      (pss_cons (ps_set (i := 9) scLaw.nd rfl (.inr rfl) pe_dnewT)
      (C8.pss_cut (ps_for PassesOwn.never rfl (pi_list (pv 6)) (pg_name (i := 8) scLaw.nd rfl (.inl rfl)) (pss_one (ps_dput hu (pv 9) (pv 8) pe_int rfl)))
      (C8.pss_cut (ps_for PassesOwn.never rfl (pi_range1 (by rfl) T.range (pa_cons pe_int pa_nil)) (pg_name (i := 7) scLaw.nd rfl (.inl rfl))
        (pss_one (ps_for PassesOwn.never rfl (pi_list (pv 6)) (pg_name (i := 8) scLaw.nd rfl (.inl rfl))
          (pss_one (ps_dput hu (pv 9) (pv 8) (pe_callB (cr_max rfl) (by rfl) T.max (by decide +kernel) (pa_cons (pe_op op_cat (pe_lst (pa_cons (pe_dget hu (pv 9) (pv 8) (fun _ _ => rfl)) pa_nil))
            (pe_lc (own := [("_law_step", 20)]) (g := gName 20) (tt := tYes) rfl scLaw.nd (pi_list (pe_call G.o4 hr2 (by rfl) G.g4.at_ G.g4.kp G.g4.b .nil pass0 (pa_cons (pv 2) (pa_cons (pv 4) (pa_cons (pv 8) pa_nil)))))
              (blkOk_by (N := nmLaw) (sc := defScope sLaw) (by decide +kernel)) (fun _ _ _ _ _ => pg_name (i := 20) scLaw.nd rfl (Or.inl rfl)) (fun _ _ _ _ _ => pts_nil)
              (fun _ _ _ _ _ => pe_op op_add (pe_dget hu (pv 9) (pe_ix (ixT K) (pv 20) pe_int (fun _ _ => rfl)) (fun _ _ => rfl)) (pe_ix (ixT K) (pv 20) pe_int (fun _ _ => rfl))))) pa_nil)) rfl)))))
      (pss_cons (ps_setLc (i := 10) (own := [("_law_each", 8)]) (g := gName 8) (tt := tYes) rfl scLaw.nd rfl rfl (sw_true rfl rfl rfl (by decide +kernel)) (pi_list (pv 6)) (blkOk_by (N := nmLaw) (sc := defScope sLaw) (by decide +kernel))
          (fun _ _ _ _ _ => pg_name (i := 8) scLaw.nd rfl (Or.inl rfl)) (fun _ _ _ _ _ => pts_nil) (fun _ _ _ _ _ => pe_tup (pa_cons (pv 8) (pa_cons (pe_dget hu (pv 9) (pv 8) (fun _ _ => rfl)) pa_nil))))
      (C8.pss_cut (ps_for PassesOwn.never rfl (pi_range1 (by rfl) T.range (pa_cons (pe_call G.o6 hr1 (by rfl) G.g6.at_ G.g6.kp G.g6.b .nil pass0 (pa_cons (pv 1) (pa_cons pe_int pa_nil))) pa_nil)) (pg_name (i := 7) scLaw.nd rfl (.inl rfl))
        (pss_cons (ps_set (i := 11) scLaw.nd rfl (.inl rfl) (pe_call G.o6 hr1 (by rfl) G.g6.at_ G.g6.kp G.g6.b .nil pass0 (pa_cons (pv 1) (pa_cons pe_int pa_nil))))
        (pss_cons (ps_set (i := 12) scLaw.nd rfl (.inl rfl) (pe_call G.o6 hr1 (by rfl) G.g6.at_ G.g6.kp G.g6.b .nil pass0 (pa_cons (pv 1) (pa_cons (pe_callB call_len_seq (by rfl) T.len (by decide +kernel) (pa_cons (pv 10) pa_nil)) pa_nil))))
        (C8.pss_cut (ps_if (pt_cmpR op_eq (pv 11) pe_int (nomark _))
          (pss_one (ps_asg (pe_tup (pa_cons (pe_ix (ixT K) (pe_ix (ixL K) (pv 10) (pv 12) (fun _ _ => rfl)) pe_int (fun _ _ => rfl))
              (pa_cons (pe_op op_sub (pe_op op_add (pe_ix (ixT K) (pe_ix (ixL K) (pv 10) (pv 12) (fun _ _ => rfl)) pe_int (fun _ _ => rfl)) (pe_call G.o6 hr1 (by rfl) G.g6.at_ G.g6.kp G.g6.b .nil pass0 (pa_cons (pv 1) (pa_cons pe_int pa_nil)))) pe_int) pa_nil)))
            (pg_sub (pv 10) (pv 12) set_list))) pss_nil)
        (C8.pss_cut (ps_if (PW.pt (pw_and (pt_cmpR op_eq (pv 11) pe_int (nomark _)) (pw_and1 (pt_cmpR op_gt (pe_callB call_len_seq (by rfl) T.len (by decide +kernel) (pa_cons (pv 10) pa_nil)) pe_int (nomark _)))))
          (pss_one (ps_expr (pe_bm PySem.F.plainAttrs_list PySem.F.slot_list_pop PySem.F.type_list_pop mt_popAt (pv 10) (pa_cons (pv 12) pa_nil)))) pss_nil)
        (C8.pss_cut (ps_if (pt_cmpR op_eq (pv 11) pe_int (nomark _))
          (pss_one (ps_expr (pe_bm PySem.F.plainAttrs_list PySem.F.slot_list_append PySem.F.type_list_append mt_append (pv 10) (pa_cons (pe_ix (ixL K) (pv 10) (pv 12) (fun _ _ => rfl)) pa_nil)))) pss_nil)
        (C8.pss_cut (ps_if (PW.pt (pw_and (pt_cmpR op_eq (pv 11) pe_int (nomark _)) (pw_and1 (pt_cmpR op_gt (pe_callB call_len_seq (by rfl) T.len (by decide +kernel) (pa_cons (pv 5) pa_nil)) pe_int (nomark _)))))
          (pss_one (ps_expr (pe_bm PySem.F.plainAttrs_list PySem.F.slot_list_pop PySem.F.type_list_pop mt_popAt (pv 5) (pa_cons
            (pe_call G.o6 hr1 (by rfl) G.g6.at_ G.g6.kp G.g6.b .nil pass0 (pa_cons (pv 1) (pa_cons (pe_callB call_len_seq (by rfl) T.len (by decide +kernel) (pa_cons (pv 5) pa_nil)) pa_nil))) pa_nil)))) pss_nil)
        (C8.pss_cut (ps_if (pt_cmpR op_eq (pv 11) pe_int (nomark _))
          (pss_one (ps_expr (pe_bm PySem.F.plainAttrs_list PySem.F.slot_list_append PySem.F.type_list_append mt_append (pv 5) (pa_cons
            (pe_tup (pa_cons (pe_call G.o6 hr1 (by rfl) G.g6.at_ G.g6.kp G.g6.b .nil pass0 (pa_cons (pv 1) (pa_cons pe_int pa_nil))) (pa_cons pe_str
              (pa_cons (pe_call G.o6 hr1 (by rfl) G.g6.at_ G.g6.kp G.g6.b .nil pass0 (pa_cons (pv 1) (pa_cons pe_int pa_nil))) (pa_cons (pe_call G.o6 hr1 (by rfl) G.g6.at_ G.g6.kp G.g6.b .nil pass0 (pa_cons (pv 1) (pa_cons pe_int pa_nil))) pa_nil))))) pa_nil)))) pss_nil)
        (pss_one (ps_if (pt_cmpR op_eq (pv 11) pe_int (nomark _))
          (pss_one (ps_expr (pe_bm PySem.F.plainAttrs_list PySem.F.slot_list_append PySem.F.type_list_append mt_append (pv 10) (pa_cons
            (pe_tup (pa_cons (pe_tup (pa_cons pe_int (pa_cons pe_str pa_nil))) (pa_cons (pe_op op_sub (pe_call G.o6 hr1 (by rfl) G.g6.at_ G.g6.kp G.g6.b .nil pass0 (pa_cons (pv 1) (pa_cons pe_int pa_nil))) pe_int) pa_nil))) pa_nil)))) pss_nil))))))))))
      (pss_cons (ps_set (i := 13) scLaw.nd rfl (.inl rfl) (pe_tup (pa_cons (pe_callTy call_tuple_of (by rfl) T.tuple (by decide +kernel) (pa_cons (pv 5) pa_nil)) (pa_cons (pe_callTy call_tuple_frz (by rfl) T.tuple (by decide +kernel) (pa_cons (pv 10) pa_nil)) pa_nil))))
      (pss_cons (ps_set (i := 14) scLaw.nd rfl (.inl rfl) (pe_call G.o7 hr2 (by rfl) G.g7.at_ G.g7.kp G.g7.b .nil pass0 (pa_cons (pv 2) (pa_cons (pv 3) (pa_cons (pv 13) pa_nil)))))
      (pss_cons (ps_if (pt_not (pt_val (pe_call G.o8 hr1 (by rfl) G.g8.at_ G.g8.kp G.g8.b .nil pass0 (pa_cons (pe_call G.o9 hr (by rfl) G.g9.at_ G.g9.kp G.g9.b .nil pass0 (pa_cons (pv 2) (pa_cons (pv 3) (pa_cons (pv 13) pa_nil)))) (pa_cons (pv 14) pa_nil))))) (pss_one (ps_ret pe_bl)) pss_nil)
      (pss_cons (ps_if (pt_not (pt_val (pv 14))) (pss_one (ps_ret pe_bl)) pss_nil)
      (pss_cons (ps_set (i := 15) scLaw.nd rfl (.inl rfl) (pe_ix (ixL K) (pe_lc (own := [("_law_pair", 21)]) (g := gName 21) (tt := _) rfl scLaw.nd (pi_list (pv 10)) (blkOk_by (N := nmLaw) (sc := defScope sLaw) (by decide +kernel)) (fun _ _ _ _ _ => pg_name (i := 21) scLaw.nd rfl (Or.inl rfl))
          (fun _ _ _ _ _ => pts_one (pt_cmpR (op_eqK kHd hu64) (pe_ix (ixT K) (pv 21) pe_int (fun _ _ => rfl)) (pv 3) (nomark _))) (fun _ _ _ _ _ => pe_ix (ixT K) (pv 21) pe_int (fun _ _ => rfl))) pe_int (fun _ _ => rfl)))
      (pss_cons (ps_set (i := 16) scLaw.nd rfl (.inr rfl) pe_dnewT)
      (pss_cons (ps_dput hu (pv 16) (pv 3) pe_int rfl)
      (pss_cons (ps_for PassesOwn.never rfl (pi_range1 (by rfl) T.range (pa_cons pe_int pa_nil)) (pg_name (i := 7) scLaw.nd rfl (.inl rfl))
        (pss_cons (ps_set (i := 17) scLaw.nd rfl (.inl rfl) pe_dnewT)
        (pss_cons (ps_lock (ps_for PassesOwn.never rfl (pi_keys (pv 16)) (pg_name (i := 8) scLaw.nd rfl (.inl rfl))
          (pss_one (ps_for PassesOwn.never rfl (pi_list (pe_call G.o4 hr2 (by rfl) G.g4.at_ G.g4.kp G.g4.b .nil pass0 (pa_cons (pv 2) (pa_cons (pv 4) (pa_cons (pv 8) pa_nil)))))
              (pg_tup rfl (pgs_cons (pg_name (i := 18) scLaw.nd rfl (.inl rfl)) (pgs_cons (pg_name (i := 19) scLaw.nd rfl (.inl rfl)) pgs_nil)))
            (pss_one (ps_dput hu (pv 17) (pv 18) (pe_callB (call_maxP rfl) (by rfl) T.max (by decide +kernel) (pa_cons (pe_op op_add (pe_dget hu (pv 16) (pv 8) (fun _ _ => rfl)) (pv 19)) (pa_cons (pe_dget2 hu (pv 17) (pv 18) pe_int ⟨rfl, rfl, rfl, rfl⟩) pa_nil))) rfl))))))
        (pss_cons (ps_set (i := 16) scLaw.nd rfl (.inr rfl) (pv 17))
        (pss_one (ps_if (PW.pt (pw_and (pt_cmpR op_gt (pe_callB call_len_dT (by rfl) T.len (by decide +kernel) (pa_cons (pv 16) pa_nil)) pe_int (nomark _))
          (pw_and1 (pt_cmpR op_gt (pe_callB (cr_max rfl) (by rfl) T.max (by decide +kernel) (pa_cons (pe_lock (pe_lc (own := [("_law_each", 8)]) (g := gName 8) (tt := tYes) rfl scLaw.nd (pi_keys (pv 16)) (blkOk_by (N := nmLaw) (sc := defScope sLaw) (by decide +kernel))
            (fun _ _ _ _ _ => pg_name (i := 8) scLaw.nd rfl (Or.inl rfl)) (fun _ _ _ _ _ => pts_nil) (fun _ _ _ _ _ => pe_dget hu (pv 16) (pv 8) (fun _ _ => rfl)))) pa_nil)) (pv 15) (nomark _)))))
          (pss_one (ps_ret pe_bl)) pss_nil)))))) (pss_one (ps_ret pe_bl))))))))))))))))))))), ?_⟩
    -- state, rules, head
    refine ⟨_, rfl, a, ns, rfl, hl, few, fun st cl H1 S1 nst ncl d1 => ?_⟩
    refine ⟨_, rfl, st, cl, rfl, d1, fun t xs rs H2 B2 d2 ht rr rlb ne8 few8 => ?_⟩
    have wf : WfR rs := fun r m => by
      obtain ⟨v, _, x⟩ := rep_in rr m
      exact ⟨rlb r m, x.1.1, x.1.2.1, x.1.2.2⟩
    obtain ⟨r0, rs', ers⟩ : ∃ r0 rs', rs = r0 :: rs' := List.exists_cons_of_ne_nil ne8
    obtain ⟨v0, hv0, x0⟩ := rep_at (i := 0) rr (by rw [ers]; rfl)
    obtain ⟨⟨os0, _, _⟩, ra0, rb0, rfl, hra0, hrb0⟩ := x0
    have hb0 : HdB (r0.p, r0.s) := by
      obtain ⟨⟨a, b, _⟩, c, _⟩ := wf r0 (by rw [ers]; exact List.mem_cons_self)
      exact ⟨a, b, c⟩
    refine ⟨_, rfl, t, xs, 0, _, rfl, rfl, sqt ht, atI_nat (j := 0) hv0, ra0, _, 0, _, rfl, rfl, sqt hra0, atI_nat (j := 0) rfl, ?_⟩
    refine ⟨_, rfl, t, xs, 0, _, rfl, rfl, sqt ht, atI_nat (j := 0) hv0, ra0, _, 1, _, rfl, rfl, sqt hra0, atI_nat (j := 1) rfl, (by show 2 ≤ sizeLine; decide), fun hd nhd => ?_⟩
    obtain ⟨H3, e3, S3, hhd3, _⟩ := newFacts (o := .tup [.int r0.p, .str r0.s]) nhd
    rw [← e3]
    -- true = endings(rules), ends = list(true)
    refine ⟨_, rfl, t, xs, rs, rfl, S3 _ _ ht, rep_mono (fun v d q => RlV.ts q S3.ts) rr, rlb, few8, fun tl es T H4 S4 ntl htl rT ndT gT => ?_⟩
    have T36 := good_few ndT gT
    refine ⟨_, rfl, tl, es, rfl, .inl (sql htl), fun el nel => ?_⟩
    obtain ⟨H5, e5, S5, hel5, _⟩ := newFacts (o := .lst es) nel
    rw [← e5]
    have S25 : Same H2 H5 := (S3.trans S4).trans S5
    have ht5 := S25 _ _ ht
    have rr5 : Rep RlV H5 xs rs := rep_mono (fun v d q => RlV.ts q S25.ts) rr
    have hhd5 := (S4.trans S5) _ _ hhd3
    have htl5 := S5 _ _ htl
    have rT5 : Rep EnV H5 es T := rep_mono (fun v d q => EnV.ts q S5.ts) rT
    have d5 := d2.same S25
    have gB : ∀ e ∈ T, EnB e := fun e m => (gT e m).2
    have elcl : el ≠ cl := by
      obtain ⟨xs, hx⟩ := d2.there
      exact (ne_of_none ((S3.trans S4) _ _ hx) nel).symm
    have eltl : el ≠ tl := (ne_of_none htl nel).symm
    -- heads = [head]
    refine ⟨_, rfl, (by show 1 ≤ sizeLine; decide), fun hl0 nhl0 => ?_⟩
    obtain ⟨H6, e6, S6, hhl6, _⟩ := newFacts (o := .lst [.ref hd]) nhl0
    rw [← e6]
    refine ⟨fun σ H' => ∃ (hl : Addr) (v7 v8 : Option V) (hs : List V) (L : List Hd), σ = [some (.ref a), some (.ref st), some (.ref t), some (.ref hd), some (.ref tl), some (.ref el), some (.ref hl), v7, v8, none, none, none, none, none, none, none, none, none, none, none, none, none] ∧
      Same H5 H' ∧ H5 hl = none ∧ H' hl = some (.lst hs) ∧ Rep HdV H' hs L ∧ HeadsI rs T 12 L, ?_, ?_⟩
    · refine ⟨12, rfl, by decide, by decide, for_range (lo := 0) (n := 12) (fun i σ H' => ∃ (hl : Addr) (v7 v8 : Option V) (hs : List V) (L : List Hd), σ = [some (.ref a), some (.ref st), some (.ref t), some (.ref hd), some (.ref tl), some (.ref el), some (.ref hl), v7, v8, none, none, none, none, none, none, none, none, none, none, none, none, none] ∧
          Same H5 H' ∧ H5 hl = none ∧ H' hl = some (.lst hs) ∧ Rep HdV H' hs L ∧ HeadsI rs T i L)
        ⟨hl0, none, none, _, [(r0.p, r0.s)], rfl, S6, nhl0, hhl6, .cons ⟨os0, hd, rfl, S6 _ _ hhd5⟩ .nil, ⟨by simp, (fun x m => (List.mem_singleton.mp m) ▸ hb0), .inr (by simp), by simp⟩⟩ ?_ ?_⟩
      · rintro i σ H7 _ ⟨hl, v7, v8, hs, L, rfl, S7, nhl, hhl7, rL, IL⟩
        have L6 := IL.few
        -- for each in list(heads)
        refine ⟨_, rfl, hl, hs, rfl, .inl (sql hhl7), fun cp ncp => ?_⟩
        obtain ⟨H8, e8, S8, hcp8, _⟩ := newFacts (o := .lst hs) ncp
        rw [← e8]
        have cphl : cp ≠ hl := (ne_of_none hhl7 ncp).symm
        have r8 : Rep HdV H8 hs L := rep_mono (fun v d q => HdV.ts q S8.ts) rL
        refine ⟨cp, rfl, ⟨_, sql hcp8⟩, for_list (K := K) (a := cp) (xs := hs) (fun u σ H' => ∃ (v7 v8 : Option V) (ms : List V) (M : List Hd), σ = [some (.ref a), some (.ref st), some (.ref t), some (.ref hd), some (.ref tl), some (.ref el), some (.ref hl), v7, v8, none, none, none, none, none, none, none, none, none, none, none, none, none] ∧
            Same H5 H' ∧ H' cp = some (.lst hs) ∧ H' hl = some (.lst ms) ∧ Rep HdV H' hs L ∧ Rep HdV H' ms M ∧ GrowI rs T L u M)
          ⟨_, v8, hs, L, rfl, S7.trans S8, hcp8, S8 _ _ hhl7, r8, r8, grow_zero L6⟩ (fun i σ H' _ ⟨_, _, _, _, _, _, hc, _⟩ => sql hc) ?_ ?_⟩
        · rintro u x σ H9 hx ⟨v7, v8, ms, M, rfl, S9, hcp9, hhl9, rL9, rM9, g⟩
          obtain ⟨h, eh, xh⟩ := rep_get rL9 hx
          have hu6 : u < 6 := by
            have := (List.getElem?_eq_some_iff.mp eh).1
            omega
          have lst := stp_len (rs := rs) (F := T) (h := h) few8 T36
          -- heads.extend([..])
          refine ⟨_, rfl, .inl ⟨rfl, _, sql hhl9⟩, ?_⟩
          refine ⟨_, rfl, _, rfl, _, rfl, t, tl, _, xs, es, rs, T, h, rfl, S9 _ _ ht5, rep_mono (fun v d q => RlV.ts q S9.ts) rr5, few8, S9 _ _ htl5, rep_mono (fun v d q => EnV.ts q S9.ts) rT5, T36, xh, fun l ys H10 S10 nl hl10 rS => ?_⟩
          refine ⟨l, rfl, ⟨_, sql hl10⟩, fun D nD => ?_⟩
          refine lc_list_rep (K := K) (A := StV) (B := HdV) (ds := stp rs T h) (f := fun t => if t.1 ∈ M then none else some t.1) StV.ts HdV.ts (sql hl10) rS (by omega) nD ?_ ?_
          · rintro x d Hx Nx Sk dm ⟨od, ad, bd, rfl, hd1, hd2⟩ Sx nx sk
            have S9x := S10.trans Sx
            refine ⟨rfl, _, rfl, ad, _, 0, _, rfl, rfl, sqt hd1, atI_nat (j := 0) rfl, _, rfl, hl, d.1, ms, M, rfl, .inl (sql (S9x _ _ hhl9)), ⟨od, bd, rfl, hd2⟩, rep_mono (fun v d q => HdV.ts q S9x.ts) rM9, _, rfl, ?_⟩
            refine ite2 (fun c => ?_) (fun c => ?_)
            · have c : d.1 ∉ M := by simpa using c
              refine ⟨_, rfl, ad, _, 0, _, rfl, rfl, sqt hd1, atI_nat (j := 0) rfl, ?_⟩
              exact nx _ _ _ (if_neg c) (Same.refl _) ⟨od, bd, rfl, hd2⟩
            · have c : d.1 ∈ M := by simpa using c
              exact sk _ (if_pos c) (Same.refl _)
          · intro H11 zs S11 hD rZ
            have S911 := S10.trans S11
            have hm := S911 _ _ hhl9
            have lm := rM9.len
            have lz := rZ.len
            have lz2 := List.length_filterMap_le (fun t : Sp2 => if t.1 ∈ M then none else some t.1) (stp rs T h)
            have lM := g.2.2.2
            refine ⟨hl, D, ms, zs, rfl, rfl, hm, hD, Nat.le_of_lt (small_line (by omega)), ?_⟩
            obtain ⟨g1, g2, g3⟩ := more_rep (R := HdV) HdV.ts (S9.trans S911) nhl hm (rep_mono (fun v d q => HdV.ts q S911.ts) rM9) rZ
            have T2 := ts_put (o' := .lst (ms ++ zs)) hm (fun _ z => nomatch z)
            exact ⟨_, _, _, _, rfl, g1, by rw [upd_ne cphl]; exact S911 _ _ hcp9, g2, rep_mono (fun v d q => HdV.ts q (S911.ts.trans T2)) rL9, g3, g.step eh lst⟩
        · rintro σ H9 ⟨v7, v8, ms, M, rfl, S9, hcp9, hhl9, rL9, rM9, g⟩
          have lM := g.2.2.2
          rw [rL.len] at g lM
          -- heads = once(heads)
          refine ⟨_, rfl, Hd, inferInstance, kHd, hl, ms, M, rfl, sql hhl9, rM9, by omega, fun l ys H10 S10 nl hl10 rO => ?_⟩
          exact ⟨l, _, _, ys, onceL M, rfl, S9.trans S10, (S9.free nl), hl10, rO, IL.round wf gB g⟩
      · rintro σ H7 q
        exact q
    · rintro σ H7 ⟨hl, v7, v8, hs, L, rfl, S7, nhl, hhl7, rL, IL⟩
      have L6 := IL.few
      have clo := IL.closed
      have Lne := IL.2.2.2
      have lL := rL.len
      -- ranks = {}
      intro rd nrd
      obtain ⟨H8, e8, S8, hrd8, _⟩ := newFacts (o := .dT []) nrd
      rw [← e8]
      refine ⟨fun σ H' => ∃ (v8 : Option V) (B : List Sp2), σ = [some (.ref a), some (.ref st), some (.ref t), some (.ref hd), some (.ref tl), some (.ref el), some (.ref hl), v7, v8, some (.ref rd), none, none, none, none, none, none, none, none, none, none, none, none] ∧
        Same H7 H' ∧ H' rd = some (.dT (tkK B)) ∧ RankI L L.length B, ?_, ?_⟩
      · refine ⟨_, rfl, hl, rfl, ⟨_, sql (S8 _ _ hhl7)⟩, for_list (K := K) (a := hl) (xs := hs) (fun u σ H' => ∃ (v8 : Option V) (B : List Sp2), σ = [some (.ref a), some (.ref st), some (.ref t), some (.ref hd), some (.ref tl), some (.ref el), some (.ref hl), v7, v8, some (.ref rd), none, none, none, none, none, none, none, none, none, none, none, none] ∧
            Same H7 H' ∧ H' rd = some (.dT (tkK B)) ∧ RankI L u B) ⟨v8, [], rfl, S8, hrd8, rank_zero⟩ (fun i σ H' _ ⟨_, _, _, S, _⟩ => sql (S _ _ hhl7)) ?_ ?_⟩
        · rintro u x σ H9 hx ⟨v8, B, rfl, S9, hrd9, I9⟩
          obtain ⟨h, eh, xh⟩ := rep_get rL hx
          obtain ⟨oh, ah, rfl, hah⟩ := HdV.ts xh S9.ts
          have short := I9.short L6
          refine ⟨_, rfl, _, rfl, rd, _, rfl, DPut.t (k := hdK h) hrd9 hah short, ?_⟩
          rw [put_tk]
          exact ⟨_, _, rfl, same_put S9 nrd, upd_same, I9.put eh⟩
        · rintro σ H9 ⟨v8, B, rfl, S9, hrd9, I9⟩
          rw [lL] at I9
          exact ⟨_, _, rfl, S9, hrd9, I9⟩
      · rintro σ H9 ⟨v8, B0, rfl, S9, hrd9, I9⟩
        refine ⟨fun σ H' => ∃ (v7 v8 : Option V) (B : List Sp2), σ = [some (.ref a), some (.ref st), some (.ref t), some (.ref hd), some (.ref tl), some (.ref el), some (.ref hl), v7, v8, some (.ref rd), none, none, none, none, none, none, none, none, none, none, none, none] ∧
          Same H7 H' ∧ H' rd = some (.dT (tkK B)) ∧ RankI L L.length B, ?_, ?_⟩
        · refine ⟨9, rfl, by decide, by decide, for_range (lo := 0) (n := 9) (fun i σ H' => ∃ (v7 v8 : Option V) (B : List Sp2), σ = [some (.ref a), some (.ref st), some (.ref t), some (.ref hd), some (.ref tl), some (.ref el), some (.ref hl), v7, v8, some (.ref rd), none, none, none, none, none, none, none, none, none, none, none, none] ∧
              Same H7 H' ∧ H' rd = some (.dT (tkK B)) ∧ RankI L L.length B) ⟨_, _, _, rfl, S9, hrd9, I9⟩ ?_ (fun σ H' q => q)⟩
          rintro i σ H10 _ ⟨v7, v8, B, rfl, S10, hrd10, I10⟩
          refine ⟨_, rfl, hl, rfl, ⟨_, sql (S10 _ _ hhl7)⟩, for_list (K := K) (a := hl) (xs := hs) (fun u σ H' => ∃ (v7 v8 : Option V) (B : List Sp2), σ = [some (.ref a), some (.ref st), some (.ref t), some (.ref hd), some (.ref tl), some (.ref el), some (.ref hl), v7, v8, some (.ref rd), none, none, none, none, none, none, none, none, none, none, none, none] ∧
              Same H7 H' ∧ H' rd = some (.dT (tkK B)) ∧ RankI L L.length B) ⟨_, _, _, rfl, S10, hrd10, I10⟩ (fun i σ H' _ ⟨_, _, _, _, S, _⟩ => sql (S _ _ hhl7)) ?_ (fun σ H' q => q)⟩
          rintro u x σ H11 hx ⟨v7, v8, B, rfl, S11, hrd11, I11⟩
          obtain ⟨h, eh, xh⟩ := rep_get rL hx
          have hL : h ∈ L := List.mem_of_getElem? eh
          have xh11 := HdV.ts xh S11.ts
          obtain ⟨oh, ah, rfl, hah⟩ := id xh11
          have lst := stp_len (rs := rs) (F := T) (h := h) few8 T36
          obtain ⟨b, rb⟩ := rk_some.mpr (I11.all hL)
          -- [ranks[each]]
          refine ⟨_, rfl, _, rfl, rd, _, rfl, dgt (h := h) hrd11 hah rb, (by show 1 ≤ sizeLine; decide), fun q1 nq1 => ?_⟩
          obtain ⟨H12, e12, S12, hq12, _⟩ := newFacts (o := .lst [.int b]) nq1
          rw [← e12]
          have S712 := S11.trans S12
          have S512 := S7.trans S712
          refine ⟨_, rfl, _, rfl, _, rfl, t, tl, _, xs, es, rs, T, h, rfl, S512 _ _ ht5, rep_mono (fun v d q => RlV.ts q S512.ts) rr5, few8, S512 _ _ htl5, rep_mono (fun v d q => EnV.ts q S512.ts) rT5, T36, HdV.ts xh11 S12.ts, fun l ys H13 S13 nl hl13 rS => ?_⟩
          refine ⟨l, rfl, ⟨_, sql hl13⟩, fun D nD => ?_⟩
          refine lc_list_rep (K := K) (A := StV) (B := InV) (ds := stp rs T h) (f := fun t => some ((rkOf B t.1).getD 0 + t.2)) StV.ts (fun h _ => h) (sql hl13) rS (by omega) nD ?_ ?_
          · rintro x d Hx Nx Sk dm ⟨od, ad, bd, rfl, hd1, hd2⟩ Sx nx sk
            obtain ⟨c, rc⟩ := rk_some.mpr (I11.all (clo h hL d dm))
            have S11x := (S12.trans S13).trans Sx
            refine ⟨rfl, _, rfl, _, rfl, ad, _, 0, _, rfl, rfl, sqt hd1, atI_nat (j := 0) rfl, rd, _, rfl, dgt (h := d.1) (S11x _ _ hrd11) hd2 rc, _, rfl, ad, _, 1, _, rfl, rfl, sqt hd1, atI_nat (j := 1) rfl, _, _, rfl, rfl, ?_⟩
            refine nx _ _ _ rfl (Same.refl _) ?_
            show V.int (c + d.2) = V.int ((rkOf B d.1).getD 0 + d.2)
            rw [rc]
            rfl
          · intro H14 zs S14 hD rZ
            rw [InV.vals rZ, filterMap_some] at hD
            have S1214 := S13.trans S14
            refine ⟨q1, D, _, _, rfl, rfl, S1214 _ _ hq12, hD, Nat.le_of_lt (small_line (by rw [List.length_map, List.length_map]; show 1 + _ ≤ _; omega)), fun q2 nq2 => ?_⟩
            obtain ⟨H15, e15, S15, hq15, _⟩ := newFacts (o := .lst ([V.int b] ++ List.map V.int (List.map (fun t : Sp2 => (rkOf B t.1).getD 0 + t.2) (stp rs T h)))) nq2
            rw [← e15]
            refine ⟨q2, b :: List.map (fun t : Sp2 => (rkOf B t.1).getD 0 + t.2) (stp rs T h), rfl, sql hq15, Nat.succ_pos _, fun m _ _ => ?_⟩
            have S1115 := (S12.trans S1214).trans S15
            refine ⟨_, rfl, _, rfl, rd, _, rfl, DPut.t (k := hdK h) (S1115 _ _ hrd11) (S1115 _ _ hah) (I11.short L6), ?_⟩
            rw [put_tk]
            exact ⟨_, _, _, rfl, same_put (S11.trans S1115) nrd, upd_same, I11.again hL⟩
        · rintro σ H10 ⟨v7, v8, B, rfl, S10, hrd10, I10⟩
          -- told = [(each, ranks[each]) for each in heads]
          refine ⟨_, rfl, hl, rfl, ⟨_, sql (S10 _ _ hhl7)⟩, fun dl ndl => ?_⟩
          refine lc_list_rep (K := K) (A := HdV) (B := StV) (ds := L) (f := fun h => some ((h, (rkOf B h).getD 0) : Sp2)) HdV.ts StV.ts (sql (S10 _ _ hhl7)) (rep_mono (fun v d q => HdV.ts q S10.ts) rL) (by omega) ndl ?_ ?_
          · rintro x h Hx Nx Sk hm ⟨oh, ah, rfl, hah⟩ Sx nx sk
            obtain ⟨c, rc⟩ := rk_some.mpr (I10.all hm)
            refine ⟨rfl, _, rfl, _, rfl, _, rfl, rd, _, rfl, dgt (h := h) (Sx _ _ hrd10) hah rc, (by show 2 ≤ sizeLine; decide), fun q nq => ?_⟩
            obtain ⟨H11, e11, S11, hq11, _⟩ := newFacts (o := .tup [.ref ah, .int c]) nq
            rw [← e11]
            exact nx _ (h, (rkOf B h).getD 0) _ rfl S11 ⟨oh, q, ah, rfl, by rw [rc]; exact hq11, S11 _ _ hah⟩
          · intro H11 ts S11 hdl11 rTo
            rw [filterMap_some] at rTo
            -- the edits
            have S511 : Same H5 H11 := (S7.trans S10).trans S11
            have d11 := d5.same S511
            have far : Far cl tl el dl := by
              refine ⟨(ne_of_none ((S7.trans S10) _ _ hel5) ndl).symm, (ne_of_none ((S7.trans S10) _ _ htl5) ndl).symm, ?_, eltl, elcl⟩
              obtain ⟨xs, hx⟩ := d5.there
              exact (ne_of_none ((S7.trans S10) _ _ hx) ndl).symm
            have E11 : Ed H11 H11 st cl tl el dl es es ts T (L.map fun h => ((h, (rkOf B h).getD 0) : Sp2)) := ⟨TSame.refl _, d11, S511 _ _ htl5, S511 _ _ hel5, rep_mono (fun v d q => EnV.ts q S511.ts) rT5, hdl11, rTo⟩
            refine ⟨fun σ H' => ∃ (v7 v8 v11 v12 : Option V), σ = [some (.ref a), some (.ref st), some (.ref t), some (.ref hd), some (.ref tl), some (.ref el), some (.ref hl), v7, v8, some (.ref rd), some (.ref dl), v11, v12, none, none, none, none, none, none, none, none, none] ∧
              EdN H11 H' st cl tl el dl es 100 (fun _ => True), ?_, ?_⟩
            · refine ⟨_, rfl, st, cl, 3, rfl, d11, by decide, by decide, fun n H12 n0 n3 B12 d12 => ?_⟩
              refine ⟨n, rfl, by omega, by omega, for_range (lo := 0) (n := n.toNat) (fun i σ H' => ∃ (v7 v8 v11 v12 : Option V), σ = [some (.ref a), some (.ref st), some (.ref t), some (.ref hd), some (.ref tl), some (.ref el), some (.ref hl), v7, v8, some (.ref rd), some (.ref dl), v11, v12, none, none, none, none, none, none, none, none, none] ∧
                  EdN H11 H' st cl tl el dl es (6 * i) (fun _ => True)) ⟨_, _, none, none, rfl, es, ts, T, _, E11.draw B12 d12, by omega, by rw [List.length_map]; omega, by simpa using Lne, trivial⟩ ?_ ?_⟩
              · rintro i σ H13 hi ⟨v7, v8, v11, v12, rfl, xs13, ts13, F13, told13, E13, lF13, lt13, ne13, _⟩
                have hi3 : i < 3 := by omega
                -- kind = draw(state, 6)
                refine ⟨_, rfl, st, cl, 6, rfl, E13.d, by decide, by decide, fun kd H14 k0 k6 B14 d14 => ?_⟩
                have E14 := E13.draw B14 d14
                have lts13 := E13.rT.len
                have pos13 : 0 < told13.length := List.length_pos_iff.mpr ne13
                -- at = draw(state, len(told))
                refine ⟨_, rfl, _, rfl, dl, ts13, rfl, .inl (sql E14.o), st, cl, _, rfl, d14, by omega, by omega, fun at_ H15 a0 a1 B15 d15 => ?_⟩
                obtain ⟨j, rfl⟩ : ∃ j : Nat, at_ = (j : Int) := Int.eq_ofNat_of_zero_le a0
                have E15 : EdN H11 H15 st cl tl el dl es (6 * i) (fun l => j < l) := ⟨_, _, _, _, E14.draw B15 d15, lF13, lt13, ne13, by omega⟩
                -- what stands behind each if
                have goOn : ∀ {v7 : Option V} {H' : Hp} {m : Nat} {g : Nat → Prop}, EdN H11 H' st cl tl el dl es m g → ∃ v7', [some (.ref a), some (.ref st), some (.ref t), some (.ref hd), some (.ref tl), some (.ref el), some (.ref hl), v7, v8, some (.ref rd), some (.ref dl), some (.int kd), some (.int (j : Int)), none, none, none, none, none, none, none, none, none] = [some (.ref a), some (.ref st), some (.ref t), some (.ref hd), some (.ref tl), some (.ref el), some (.ref hl), v7', v8, some (.ref rd), some (.ref dl), some (.int kd), some (.int (j : Int)), none, none, none, none, none, none, none, none, none] ∧ EdN H11 H' st cl tl el dl es m g := fun e => ⟨_, rfl, e⟩
                -- if kind == 0
                refine ⟨fun σ H' => ∃ v7, σ = [some (.ref a), some (.ref st), some (.ref t), some (.ref hd), some (.ref tl), some (.ref el), some (.ref hl), v7, v8, some (.ref rd), some (.ref dl), some (.int kd), some (.int (j : Int)), none, none, none, none, none, none, none, none, none] ∧
                  EdN H11 H' st cl tl el dl es (6 * i + 1) (fun l => j < l), ?_, ?_⟩
                · refine ⟨_, rfl, rfl, _, rfl, ite2 (fun c => ?_) (fun c => goOn (E15.more (by omega) fun _ z => z))⟩
                  obtain ⟨xs1, ts1, F1, told1, E1, lF1, lt1, ne1, j1⟩ := E15
                  have lts1 := E1.rT.len
                  obtain ⟨x1, ex1⟩ : ∃ x, told1[j]? = some x := ⟨_, List.getElem?_eq_getElem j1⟩
                  obtain ⟨v1, ev1, sv1⟩ := rep_at E1.rT ex1
                  obtain ⟨o1, p1, q1, rfl, hp1, hq1⟩ := sv1
                  refine ⟨_, rfl, _, rfl, dl, _, _, _, rfl, rfl, sql E1.o, atI_nat (j := j) ev1, p1, _, 0, _, rfl, rfl, sqt hp1, atI_nat (j := 0) rfl, ?_⟩
                  refine ⟨_, rfl, _, rfl, dl, _, _, _, rfl, rfl, sql E1.o, atI_nat (j := j) ev1, p1, _, 1, _, rfl, rfl, sqt hp1, atI_nat (j := 1) rfl, ?_⟩
                  refine ⟨_, rfl, st, cl, 3, rfl, E1.d, by decide, by decide, fun m H16 m0 m3 B16 d16 => ?_⟩
                  have E2 := E1.draw B16 d16
                  have hq2 := but_ts E1.d B16 _ _ hq1
                  refine ⟨_, _, rfl, rfl, _, _, rfl, rfl, (by show 2 ≤ sizeLine; decide), fun q nq => ?_⟩
                  obtain ⟨H17, e17, S17, hq17, _⟩ := newFacts (o := .tup [.ref q1, .int (x1.2 + m - 1)]) nq
                  rw [← e17]
                  have E3 := E2.same S17
                  refine ⟨_, rfl, _, rfl, dl, _, _, j, rfl, rfl, E3.o, ix_nat (by omega), ?_⟩
                  have E4 := E3.setT far (rep_set (v := .ref q) (d := (x1.1, x1.2 + m - 1)) ⟨o1, q, q1, rfl, hq17, S17 _ _ hq2⟩ j E3.rT)
                  refine goOn ⟨_, _, _, _, E4, by omega, by rw [List.length_set]; omega, fun z => ?_, by rw [List.length_set]; exact j1⟩
                  have := congrArg List.length z
                  rw [List.length_set, List.length_nil] at this
                  omega
                · rintro σ H16 ⟨v7, rfl, E16⟩
                  -- if kind == 1 and len(told) > 1
                  refine ⟨fun σ H' => ∃ v7, σ = [some (.ref a), some (.ref st), some (.ref t), some (.ref hd), some (.ref tl), some (.ref el), some (.ref hl), v7, v8, some (.ref rd), some (.ref dl), some (.int kd), some (.int (j : Int)), none, none, none, none, none, none, none, none, none] ∧
                    EdN H11 H' st cl tl el dl es (6 * i + 2) (fun l => kd = 1 ∨ j < l), ?_, ?_⟩
                  · refine ⟨_, rfl, rfl, _, rfl, ite2 (fun c => ?_) (fun c => iteF (goOn (E16.more (by omega) fun _ z => .inr z)))⟩
                    have k1 : kd = 1 := dec_int_iff.mp c
                    obtain ⟨xs1, ts1, F1, told1, E1, lF1, lt1, ne1, j1⟩ := E16
                    have lts1 := E1.rT.len
                    obtain ⟨x1, ex1⟩ : ∃ x, told1[j]? = some x := ⟨_, List.getElem?_eq_getElem j1⟩
                    obtain ⟨v1, ev1, sv1⟩ := rep_at E1.rT ex1
                    refine ⟨_, rfl, dl, ts1, rfl, .inl (sql E1.o), _, _, rfl, rfl, _, rfl, ite2 (fun c2 => ?_) (fun c2 => goOn ⟨_, _, _, _, E1, by omega, by omega, ne1, .inl k1⟩)⟩
                    have c2 : (1 : Int) < (ts1.length : Int) := of_decide_eq_true c2
                    refine ⟨_, rfl, .inl ⟨rfl, _, sql E1.o⟩, _, rfl, dl, ts1, _, j, _, rfl, rfl, E1.o, by omega, by omega, seq_nat (by omega), ev1, ?_⟩
                    have E2 := E1.setT far (rep_erase j E1.rT)
                    have le : (told1.eraseIdx j).length = told1.length - 1 := List.length_eraseIdx_of_lt j1
                    refine goOn ⟨_, _, _, _, E2, by omega, by omega, fun z => ?_, .inl k1⟩
                    rw [z] at le
                    rw [List.length_nil] at le
                    omega
                  · rintro σ H17 ⟨v7, rfl, E17⟩
                    -- if kind == 2
                    refine ⟨fun σ H' => ∃ v7, σ = [some (.ref a), some (.ref st), some (.ref t), some (.ref hd), some (.ref tl), some (.ref el), some (.ref hl), v7, v8, some (.ref rd), some (.ref dl), some (.int kd), some (.int (j : Int)), none, none, none, none, none, none, none, none, none] ∧
                      EdN H11 H' st cl tl el dl es (6 * i + 3) (fun _ => True), ?_, ?_⟩
                    · refine ⟨_, rfl, rfl, _, rfl, ite2 (fun c => ?_) (fun c => goOn (E17.more (by omega) fun _ z => trivial))⟩
                      have k2 : kd = 2 := dec_int_iff.mp c
                      obtain ⟨xs1, ts1, F1, told1, E1, lF1, lt1, ne1, g1⟩ := E17
                      have j1 : j < told1.length := g1.elim (fun z => by omega) id
                      have lts1 := E1.rT.len
                      obtain ⟨x1, ex1⟩ : ∃ x, told1[j]? = some x := ⟨_, List.getElem?_eq_getElem j1⟩
                      obtain ⟨v1, ev1, sv1⟩ := rep_at E1.rT ex1
                      refine ⟨_, rfl, .inl ⟨rfl, _, sql E1.o⟩, _, rfl, _, rfl, dl, _, _, _, rfl, rfl, sql E1.o, atI_nat (j := j) ev1, dl, ts1, _, rfl, rfl, E1.o, small_line (by omega), ?_⟩
                      have E2 := E1.setT far (rep_snoc E1.rT sv1)
                      exact goOn ⟨_, _, _, _, E2, by omega, by rw [List.length_append, List.length_singleton]; omega, by simp, trivial⟩
                    · rintro σ H18 ⟨v7, rfl, E18⟩
                      -- if kind == 3 and len(ends) > 0
                      refine ⟨fun σ H' => ∃ v7, σ = [some (.ref a), some (.ref st), some (.ref t), some (.ref hd), some (.ref tl), some (.ref el), some (.ref hl), v7, v8, some (.ref rd), some (.ref dl), some (.int kd), some (.int (j : Int)), none, none, none, none, none, none, none, none, none] ∧
                        EdN H11 H' st cl tl el dl es (6 * i + 4) (fun _ => True), ?_, ?_⟩
                      · refine ⟨_, rfl, rfl, _, rfl, ite2 (fun c => ?_) (fun c => iteF (goOn (E18.more (by omega) fun _ z => trivial)))⟩
                        obtain ⟨xs1, ts1, F1, told1, E1, lF1, lt1, ne1, g1⟩ := E18
                        have lxs1 := E1.rE.len
                        refine ⟨_, rfl, el, xs1, rfl, .inl (sql E1.e), _, _, rfl, rfl, _, rfl, ite2 (fun c2 => ?_) (fun c2 => goOn ⟨_, _, _, _, E1, by omega, by omega, ne1, trivial⟩)⟩
                        have c2 : (0 : Int) < (xs1.length : Int) := of_decide_eq_true c2
                        refine ⟨_, rfl, .inl ⟨rfl, _, sql E1.e⟩, _, rfl, _, rfl, el, xs1, rfl, .inl (sql E1.e), st, cl, _, rfl, E1.d, c2, by omega, fun m H19 m0 m1 B19 d19 => ?_⟩
                        have E2 := E1.draw B19 d19
                        obtain ⟨u, rfl⟩ : ∃ u : Nat, m = (u : Int) := Int.eq_ofNat_of_zero_le m0
                        have u1 : u < xs1.length := by omega
                        refine ⟨el, xs1, _, u, _, rfl, rfl, E2.e, by omega, by omega, seq_nat u1, List.getElem?_eq_getElem u1, ?_⟩
                        have E3 := E2.setE far (rep_erase u E2.rE)
                        have le := List.length_eraseIdx_le F1 u
                        exact goOn ⟨_, _, _, _, E3, by omega, by omega, ne1, trivial⟩
                      · rintro σ H19 ⟨v7, rfl, E19⟩
                        -- if kind == 4
                        refine ⟨fun σ H' => ∃ v7, σ = [some (.ref a), some (.ref st), some (.ref t), some (.ref hd), some (.ref tl), some (.ref el), some (.ref hl), v7, v8, some (.ref rd), some (.ref dl), some (.int kd), some (.int (j : Int)), none, none, none, none, none, none, none, none, none] ∧
                          EdN H11 H' st cl tl el dl es (6 * i + 5) (fun _ => True), ?_, ?_⟩
                        · refine ⟨_, rfl, rfl, _, rfl, ite2 (fun c => ?_) (fun c => goOn (E19.more (by omega) fun _ z => trivial))⟩
                          obtain ⟨xs1, ts1, F1, told1, E1, lF1, lt1, ne1, g1⟩ := E19
                          have lxs1 := E1.rE.len
                          refine ⟨_, rfl, .inl ⟨rfl, _, sql E1.e⟩, _, rfl, st, cl, 3, rfl, E1.d, by decide, by decide, fun p Ha p0 p3 Ba da => ?_⟩
                          have Ea := E1.draw Ba da
                          refine ⟨_, rfl, st, cl, 3, rfl, da, by decide, by decide, fun q Hb q0 q3 Bb db => ?_⟩
                          have Eb := Ea.draw Bb db
                          refine ⟨_, rfl, st, cl, 2, rfl, db, by decide, by decide, fun m Hc m0 m3 Bc dc => ?_⟩
                          have Ec := Eb.draw Bc dc
                          refine ⟨(by show 4 ≤ sizeLine; decide), fun e ne => ?_⟩
                          obtain ⟨Hd, ed, Sd, hed, _⟩ := newFacts (o := .tup [.int p, .str "a", .int q, .int m]) ne
                          rw [← ed]
                          have Ed' := Ec.same Sd
                          refine ⟨el, xs1, _, rfl, rfl, Ed'.e, small_line (by omega), ?_⟩
                          have E2 := Ed'.setE far (rep_snoc Ed'.rE (d := ((p, "a", q, m) : En)) ⟨.inl rfl, e, rfl, hed⟩)
                          exact goOn ⟨_, _, _, _, E2, by rw [List.length_append, List.length_singleton]; omega, by omega, ne1, trivial⟩
                        · rintro σ H20 ⟨v7, rfl, E20⟩
                          have fin : ∀ {H' : Hp} {m : Nat}, m ≤ 6 * (i + 1) → EdN H11 H' st cl tl el dl es m (fun _ => True) → _ := fun {H' m} lm e => (⟨v7, v8, _, _, rfl, e.more lm fun _ z => z⟩ : ∃ (v7' v8' v11 v12 : Option V), [some (.ref a), some (.ref st), some (.ref t), some (.ref hd), some (.ref tl), some (.ref el), some (.ref hl), v7, v8, some (.ref rd), some (.ref dl), some (.int kd), some (.int (j : Int)), none, none, none, none, none, none, none, none, none] = [some (.ref a), some (.ref st), some (.ref t), some (.ref hd), some (.ref tl), some (.ref el), some (.ref hl), v7', v8', some (.ref rd), some (.ref dl), v11, v12, none, none, none, none, none, none, none, none, none] ∧ EdN H11 H' st cl tl el dl es (6 * (i + 1)) (fun _ => True))
                          -- if kind == 5
                          refine ⟨_, rfl, rfl, _, rfl, ite2 (fun c => ?_) (fun c => fin (by omega) E20)⟩
                          obtain ⟨xs1, ts1, F1, told1, E1, lF1, lt1, ne1, g1⟩ := E20
                          have lts1 := E1.rT.len
                          refine ⟨_, rfl, .inl ⟨rfl, _, sql E1.o⟩, (by show 2 ≤ sizeLine; decide), fun b nb => ?_⟩
                          obtain ⟨Ha, ea, Sa, hba, _⟩ := newFacts (o := .tup [.int 2, .str "b"]) nb
                          rw [← ea]
                          have Ea := E1.same Sa
                          refine ⟨_, rfl, st, cl, 4, rfl, Ea.d, by decide, by decide, fun m Hb m0 m3 Bb db => ?_⟩
                          have Eb := Ea.draw Bb db
                          have hbb := but_ts Ea.d Bb _ _ hba
                          refine ⟨_, _, rfl, rfl, (by show 2 ≤ sizeLine; decide), fun e ne => ?_⟩
                          obtain ⟨Hc, ec, Sc, hec, _⟩ := newFacts (o := .tup [.ref b, .int (m - 1)]) ne
                          rw [← ec]
                          have Ec := Eb.same Sc
                          refine ⟨dl, ts1, _, rfl, rfl, Ec.o, small_line (by omega), ?_⟩
                          have E2 := Ec.setT far (rep_snoc Ec.rT (d := (((2, "b"), m - 1) : Sp2)) ⟨.inr rfl, e, b, rfl, hec, Sc _ _ hbb⟩)
                          exact fin (m := 6 * (i + 1)) (Nat.le_refl _) ⟨_, _, _, _, E2, by omega, by rw [List.length_append, List.length_singleton]; omega, by simp, trivial⟩
              · rintro σ H13 ⟨v7, v8, v11, v12, rfl, E13⟩
                exact ⟨_, _, _, _, rfl, E13.more (by omega) fun _ z => z⟩
            · rintro σ H12 ⟨v7, v8, v11, v12, rfl, E12⟩
              -- paper = (tuple(ends), tuple(told))
              obtain ⟨xs1, ts1, F1, told1, E1, lF1, lt1, ne1, _⟩ := E12
              refine ⟨_, rfl, el, xs1, rfl, .inl ⟨sql E1.e, fun ea nea => ?_⟩⟩
              obtain ⟨H13, e13, S13, hea13, _⟩ := newFacts (o := .tup xs1) nea
              rw [← e13]
              refine ⟨_, rfl, dl, ts1, rfl, sql (S13 _ _ E1.o), fun ta o nta od => ?_⟩
              obtain ⟨H14, e14, S14, hta14, _⟩ := newFacts (o := .frz o (.tup ts1)) nta
              rw [← e14]
              refine ⟨(by show 2 ≤ sizeLine; decide), fun pp npp => ?_⟩
              obtain ⟨H15, e15, S15, hpp15, _⟩ := newFacts (o := .tup [.ref ea, .ref ta]) npp
              rw [← e15]
              have E15 := ((E1.same S13).same S14).same S15
              have hea15 := S15 _ _ (S14 _ _ hea13)
              have hta15 := S15 _ _ hta14
              have T515 : TSame H5 H15 := S511.ts.trans E15.t
              have ht15 := T515 _ _ ht5
              have hhd15 := T515 _ _ hhd5
              have rr15 : Rep RlV H15 xs rs := rep_mono (fun v d q => RlV.ts q T515) rr5
              have rT15 : Rep EnV H15 es T := rep_mono (fun v d q => EnV.ts q T515) rT5
              -- due
              refine ⟨_, rfl, _, rfl, _, rfl, t, pp, ea, ta, .ref hd, xs, xs1, ts1, rs, (r0.p, r0.s), F1, told1, rfl, ht15, rr15, few8, ⟨os0, hd, rfl, hhd15⟩, hpp15, sqt hea15, E15.rE, by omega, .inl (.inr ⟨o, hta15⟩), E15.rT, by omega, fun H16 S16 => ?_⟩
              -- if not is(takes_rest(..), due)
              refine ⟨_, rfl, _, rfl, _, rfl, t, pp, ea, ta, o, .ref hd, xs, xs1, ts1, rs, (r0.p, r0.s), F1, told1, rfl, S16 _ _ ht15, rep_mono (fun v d q => RlV.ts q S16.ts) rr15, few8, ⟨os0, hd, rfl, S16 _ _ hhd15⟩, S16 _ _ hpp15, S16 _ _ hea15,
                rep_mono (fun v d q => EnV.ts q S16.ts) E15.rE, by omega, S16 _ _ hta15, od, rep_mono (fun v d q => StV.ts q S16.ts) E15.rT, by omega, fun H17 S17 => ?_⟩
              have S1517 := S16.trans S17
              refine ⟨_, rfl, _, _, rfl, _, rfl, ?_⟩
              rw [decide_eq_true rfl]
              refine ite2 (fun z => nomatch z) (fun _ => ?_)
              -- if not due
              refine ⟨_, rfl, _, rfl, ite2 (fun _ => k _) (fun c => ?_)⟩
              have hT : takesB rs (r0.p, r0.s) F1 told1 = true := by simpa using c
              obtain ⟨a0, ra0'⟩ := takes_head hT
              have snd : ∀ e ∈ T, Snd rs e := fun e m => (gT e m).1
              have E17 := E15.same S1517
              have ht17 := S1517 _ _ ht15
              have hhd17 := S1517 _ _ hhd15
              have rr17 : Rep RlV H17 xs rs := rep_mono (fun v d q => RlV.ts q S1517.ts) rr15
              have rT17 : Rep EnV H17 es T := rep_mono (fun v d q => EnV.ts q S1517.ts) rT15
              -- most
              refine ⟨_, rfl, dl, rfl, ⟨_, sql E17.o⟩, fun D nD => ?_⟩
              refine lc_list_rep (K := K) (A := StV) (B := InV) (ds := told1) (f := fun x => if x.1 = (r0.p, r0.s) then some x.2 else none) StV.ts (fun h _ => h) (sql E17.o) E17.rT (by omega) nD ?_ ?_
              · rintro x d Hx Nx Sk dm ⟨od, ad, bd, rfl, hd1, hd2⟩ Sx nx sk
                refine ⟨rfl, _, rfl, ad, _, 0, _, rfl, rfl, sqt hd1, atI_nat (j := 0) rfl, _, rfl, d.1, (r0.p, r0.s), ⟨od, bd, rfl, hd2⟩, ⟨os0, hd, rfl, Sx _ _ hhd17⟩, _, rfl, ite2 (fun c => ?_) (fun c => ?_)⟩
                · exact ⟨_, rfl, ad, _, 1, _, rfl, rfl, sqt hd1, atI_nat (j := 1) rfl, nx _ _ _ (if_pos (of_decide_eq_true c)) (Same.refl _) rfl⟩
                · exact sk _ (if_neg (of_decide_eq_false (by simpa using c))) (Same.refl _)
              · intro H18 zs S18 hD rZ
                rw [InV.vals rZ] at hD
                refine ⟨D, _, 0, _, rfl, rfl, sql hD, atI_nat (j := 0) (v := .int a0) (by rw [List.getElem?_map, first_rk ra0']; rfl), ?_⟩
                -- best = {}; best[head] = 0
                intro bd nbd
                obtain ⟨H19, e19, S19, hbd19, _⟩ := newFacts (o := .dT []) nbd
                rw [← e19]
                have hbd19 : H19 bd = some (.dT (tkK [])) := hbd19
                refine ⟨_, rfl, _, rfl, bd, _, rfl, DPut.t (k := hdK (r0.p, r0.s)) hbd19 (S19 _ _ (S18 _ _ hhd17)) (by rw [sizeLine_eq]; show 0 < _; decide), ?_⟩
                rw [put_tk]
                have ht18 := S18 _ _ ht17
                have rr18 : Rep RlV H18 xs rs := rep_mono (fun v d q => RlV.ts q S18.ts) rr17
                have rT18 : Rep EnV H18 es T := rep_mono (fun v d q => EnV.ts q S18.ts) rT17
                have htl18 := S18 _ _ E17.tr
                have rTo18 : Rep StV H18 ts1 told1 := rep_mono (fun v d q => StV.ts q S18.ts) E17.rT
                have okT : ∀ {h : Hd} {a : Int}, rkOf told1 h = some a → okS h.2 := fun {h a} e => by
                  obtain ⟨v, _, x⟩ := rep_in rTo18 (rk_mem e)
                  exact x.1
                have I0 : BestI told1 a0 (putB [] (r0.p, r0.s) 0) := by
                  refine ⟨putB_nodup .nil, fun x m => ?_⟩
                  rcases putB_mem m with z | z
                  · rw [z]
                    exact ⟨Int.le_refl _, a0, ra0', by show 0 + a0 ≤ a0; omega⟩
                  · cases z
                refine ⟨12, rfl, by decide, by decide, for_range (lo := 0) (n := 12) (fun i σ H' => ∃ (v7 v8 v17 v18 v19 : Option V) (bd : Addr) (B : List Sp2), σ = [some (.ref a), some (.ref st), some (.ref t), some (.ref hd), some (.ref tl), some (.ref el), some (.ref hl), v7, v8, some (.ref rd), some (.ref dl), v11, v12, some (.ref pp), some (.bl (takesB rs (r0.p, r0.s) F1 told1)), some (.int a0), some (.ref bd), v17, v18, v19, none, none] ∧
                  Same H18 H' ∧ H18 bd = none ∧ H' bd = some (.dT (tkK B)) ∧ BestI told1 a0 B) ⟨_, _, _, _, _, bd, _, rfl, same_put S19 nbd, nbd, upd_same, I0⟩ ?_ (fun _ _ _ => k _)⟩
                rintro i σ H20 _ ⟨v7, v8, v17, v18, v19, bd, B, rfl, S20, nbd, hbd20, IB⟩
                -- following = {}
                intro fo nfo
                obtain ⟨H21, e21, S21, hfo21, _⟩ := newFacts (o := .dT []) nfo
                rw [← e21]
                have nfo18 : H18 fo = none := S20.free nfo
                have fobd : fo ≠ bd := (ne_of_none hbd20 nfo).symm
                refine ⟨bd, .dT (tkK B), S21 _ _ hbd20, trivial, fun od => ?_⟩
                obtain ⟨H22, e22⟩ : ∃ H22, H22 = upd H21 bd (.frz od (.dT (tkK B))) := ⟨_, rfl⟩
                rw [← e22]
                have hbd22 : H22 bd = some (.frz od (.dT (tkK B))) := by rw [e22]; exact upd_same
                have S22 : Same H18 H22 := by rw [e22]; exact same_put (S20.trans S21) nbd
                have hfo22 : H22 fo = some (.dT (tkK [])) := by rw [e22, upd_ne fobd]; exact hfo21
                -- for each in best
                refine ⟨_, rfl, bd, od, rfl, .inr ⟨tkK B, hbd22, ?_⟩⟩
                refine for_it walk_keysT (fun u σ H' => ∃ (v8 v18 v19 : Option V) (Fo : List Sp2), σ = [some (.ref a), some (.ref st), some (.ref t), some (.ref hd), some (.ref tl), some (.ref el), some (.ref hl), some (.int (0 + (i : Nat))), v8, some (.ref rd), some (.ref dl), v11, v12, some (.ref pp), some (.bl (takesB rs (r0.p, r0.s) F1 told1)), some (.int a0), some (.ref bd), some (.ref fo), v18, v19, none, none] ∧
                  Same H18 H' ∧ H' bd = some (.frz od (.dT (tkK B))) ∧ H' fo = some (.dT (tkK Fo)) ∧ BestI told1 a0 Fo) ⟨_, _, _, [], rfl, S22, hbd22, hfo22, .nil, (fun x m => nomatch m)⟩ (fun i σ H' _ ⟨_, _, _, _, _, _, h, _⟩ => h) ?_ ?_
                · rintro u x σ H23 H24 hu' ⟨v8, v18, v19, Fo, rfl, S23, hb23, hf23, IF⟩ ⟨rfl, kk, vv, q, ek, rfl, hq⟩
                  obtain ⟨h, b, eB, rfl, rfl⟩ := tk_at ek
                  have mB : (h, b) ∈ B := List.mem_of_getElem? eB
                  obtain ⟨b0, ar, rar, ba⟩ := IB.2 _ mB
                  have b0 : 0 ≤ b := b0
                  have ba : b + ar ≤ a0 := ba
                  have rar : rkOf told1 h = some ar := rar
                  have okh := okT rar
                  have hq : H24 q = some (.tup [.int h.1, .str h.2]) := hq
                  have rB : rkOf B h = some b := rk_at IB.1 mB
                  have lst := stp_len (rs := rs) (F := T) (h := h) few8 T36
                  -- for target, mark in steps(rules, true, each)
                  refine ⟨_, rfl, _, rfl, _, rfl, t, tl, _, xs, es, rs, T, h, rfl, S23 _ _ ht18, rep_mono (fun v d q => RlV.ts q S23.ts) rr18, few8, S23 _ _ htl18, rep_mono (fun v d q => EnV.ts q S23.ts) rT18, T36, ⟨okh, q, rfl, hq⟩, fun l ys H25 S25 nl hl25 rS => ?_⟩
                  have hf25 := S25 _ _ hf23
                  have hb25 := S25 _ _ hb23
                  have lfo : l ≠ fo := ne_of hl25 hf25 fun z => nomatch z
                  have lyS := rS.len
                  refine ⟨l, rfl, ⟨_, sql hl25⟩, for_list (K := K) (a := l) (xs := ys) (fun u σ H' => ∃ (v18 v19 : Option V) (Fo : List Sp2), σ = [some (.ref a), some (.ref st), some (.ref t), some (.ref hd), some (.ref tl), some (.ref el), some (.ref hl), some (.int (0 + (i : Nat))), some (.ref q), some (.ref rd), some (.ref dl), v11, v12, some (.ref pp), some (.bl (takesB rs (r0.p, r0.s) F1 told1)), some (.int a0), some (.ref bd), some (.ref fo), v18, v19, none, none] ∧
                    But fo H25 H' ∧ H' fo = some (.dT (tkK Fo)) ∧ BestI told1 a0 Fo) ⟨_, _, Fo, rfl, But.refl _ _, hf25, IF⟩ (fun i σ H' _ ⟨_, _, _, _, B, _⟩ => sql (B _ _ lfo hl25)) ?_ ?_⟩
                  · rintro u2 y σ H26 hy ⟨v18, v19, Fo, rfl, B26, hf26, IF⟩
                    obtain ⟨d, ed, xd⟩ := rep_get rS hy
                    have dm : d ∈ stp rs T h := List.mem_of_getElem? ed
                    have T26 : TSame H25 H26 := fun b xs e => B26 _ _ (ne_of e hf25 fun z => nomatch z) e
                    obtain ⟨od', ad, bd', rfl, hd1, hd2⟩ := StV.ts xd T26
                    refine ⟨ad, _, rfl, sqt hd1, rfl, _, _, rfl, _, _, rfl, rfl, ?_⟩
                    have hb26 := B26 _ _ fobd.symm hb25
                    have hq26 := T26 _ _ (S25 _ _ hq)
                    have g1 : DGet H26 bd (.ref q) (some (.int b)) := dgz hb26 hq26 rB
                    refine ⟨_, rfl, _, rfl, bd, _, rfl, g1, _, rfl, _, _, rfl, rfl, ?_⟩
                    refine ⟨_, rfl, fo, rfl, .inr ⟨_, .inl hf26⟩, _, rfl, _, dgo (h := d.1) hf26 hd2, b + d.2, (rkOf Fo d.1).getD 0, ?_, ?_⟩
                    · cases rkOf Fo d.1 <;> rfl
                    · have short : (tkK Fo).length < sizeLine := small_line (by
                        have := IF.len
                        unfold tkK
                        rw [List.length_map]
                        omega)
                      refine ⟨_, rfl, _, rfl, fo, _, rfl, DPut.t (k := hdK d.1) hf26 hd2 short, ?_⟩
                      rw [put_tk]
                      obtain ⟨a', ra', fa'⟩ := step_falls hT snd rar dm
                      refine ⟨_, _, _, rfl, fun b x ne e => ?_, upd_same, IF.put b0 (stp_ok wf gB dm).2 ba ra' fa'⟩
                      rw [upd_ne ne]
                      exact B26 _ _ ne e
                  · rintro σ H26 ⟨v18, v19, Fo, rfl, B26, hf26, IF⟩
                    exact ⟨_, _, _, _, rfl, fun b x e => B26 _ _ (ne_of_none e nfo18) (S25 _ _ (S23 _ _ e)), B26 _ _ fobd.symm hb25, hf26, IF⟩
                · rintro σ H23 ⟨v8, v18, v19, Fo, rfl, S23, hb23, hf23, IF⟩
                  refine ⟨hb23, ?_⟩
                  obtain ⟨H26, e26⟩ : ∃ H26, H26 = upd H23 bd (.dT (tkK B)) := ⟨_, rfl⟩
                  rw [← e26]
                  have S26 : Same H18 H26 := by rw [e26]; exact same_put S23 nbd
                  have hf26 : H26 fo = some (.dT (tkK Fo)) := by rw [e26, upd_ne fobd]; exact hf23
                  have lenF : (tkK Fo).length = Fo.length := by unfold tkK; rw [List.length_map]
                  have lF := IF.len
                  -- best = following
                  refine ⟨_, rfl, ?_⟩
                  -- if len(best) > 0 and max(..) > most
                  refine ⟨_, rfl, fo, _, rfl, hf26, _, _, rfl, rfl, _, rfl, ite2 (fun c => ?_) (fun c => iteF ⟨_, _, _, _, _, fo, Fo, rfl, S26, nfo18, hf26, IF⟩)⟩
                  have c : (0 : Int) < ((tkK Fo).length : Int) := of_decide_eq_true c
                  refine ⟨fo, .dT (tkK Fo), hf26, trivial, fun od2 => ?_⟩
                  obtain ⟨H27, e27⟩ : ∃ H27, H27 = upd H26 fo (.frz od2 (.dT (tkK Fo))) := ⟨_, rfl⟩
                  rw [← e27]
                  have hf27 : H27 fo = some (.frz od2 (.dT (tkK Fo))) := by rw [e27]; exact upd_same
                  have S27 : Same H18 H27 := by rw [e27]; exact same_put S26 nfo18
                  refine ⟨_, rfl, fo, od2, rfl, .inr ⟨tkK Fo, hf27, fun D2 nD2 => ?_⟩⟩
                  refine lc_it walk_keysT (fun u H' => Same H27 H' ∧ ∃ ys, H' D2 = some (.lst ys) ∧ Rep InV H' ys ((Fo.take u).map (·.2))) ⟨same_new nD2, [], upd_same, .nil⟩ (fun i H' _ p => p.1 _ _ hf27) ?_ ?_
                  · rintro u x H28 H29 hu' ⟨S28, ys, hD2, rY⟩ ⟨rfl, kk, vv, q, ek, rfl, hq⟩
                    obtain ⟨h, b, eB, rfl, rfl⟩ := tk_at ek
                    have mB : (h, b) ∈ Fo := List.mem_of_getElem? eB
                    have hq : H29 q = some (.tup [.int h.1, .str h.2]) := hq
                    have ly := rY.len
                    rw [List.length_map] at ly
                    have lt := List.length_take_le u Fo
                    refine ⟨rfl, _, rfl, _, rfl, fo, _, rfl, dgz (S28 _ _ hf27) hq (rk_at IF.1 mB), ys, hD2, small_line (by omega), same_put S28 nD2, _, upd_same, ?_⟩
                    rw [List.take_add_one, eB, List.map_append]
                    exact rep_snoc (rep_mono (fun v d q => q) rY) rfl
                  · rintro H28 ⟨S28, ys, hD2, rY⟩
                    rw [lenF, List.take_length] at rY
                    rw [InV.vals rY] at hD2
                    refine ⟨S28 _ _ hf27, ?_⟩
                    obtain ⟨H30, e30⟩ : ∃ H30, H30 = upd H28 fo (.dT (tkK Fo)) := ⟨_, rfl⟩
                    rw [← e30]
                    have S30 : Same H18 H30 := by rw [e30]; exact same_put (S27.trans S28) nfo18
                    have D2fo : D2 ≠ fo := ne_of hD2 (S28 _ _ hf27) fun z => nomatch z
                    have hD30 : H30 D2 = some (.lst ((Fo.map (·.2)).map V.int)) := by rw [e30, upd_ne D2fo]; exact hD2
                    have hf30 : H30 fo = some (.dT (tkK Fo)) := by rw [e30]; exact upd_same
                    refine ⟨D2, Fo.map (·.2), rfl, sql hD30, by rw [List.length_map]; omega, fun m mm _ => ?_⟩
                    refine ⟨_, rfl, _, _, rfl, rfl, _, rfl, ite2 (fun c2 => ?_) (fun c2 => ⟨_, _, _, _, _, fo, Fo, rfl, S30, nfo18, hf30, IF⟩)⟩
                    have c2 : a0 < m := of_decide_eq_true c2
                    obtain ⟨x, hx, rfl⟩ := List.mem_map.mp mm
                    obtain ⟨_, ax, rax, lx⟩ := IF.2 x hx
                    have := takes_nn hT rax
                    omega
end
end Wk

namespace Wk
open PySem L2
theorem all_mk {l : PySem.W.OpenLaw} {w : World} {K : PySem.W.Frag} {h : Heap} {mg : Str → Option Value} {fa C f1 f2 f3 f4 f5 f6 f7 f8 f9 f10 f11 f12 f13 f14 f15 f16 f17 : Addr} (X : K.In h) (G : h.Ns mainGlobals mg) (hfa : mg "law" = some (.ref fa))
    {od1 an1 od2 an2 od3 an3 od4 an4 od5 an5 od6 an6 od7 an7 od8 an8 od9 an9 od10 an10 od11 an11 od12 an12 od13 an13 od14 an14 od15 an15 od16 an16 od17 an17 : Option Addr} {sl1 sl2 sl3 sl4 sl5 sl6 sl7 sl8 sl9 sl10 sl11 sl12 sl13 sl14 sl15 sl16 sl17 : Array (Option Value)} {oc1 kV1 dc1 pm1 cd1 ct1 oc2 kV2 dc2 pm2 cd2 ct2 oc3 kV3 dc3 pm3 cd3 ct3 oc4 kV4 dc4 pm4 cd4 ct4 oc5 kV5 dc5 pm5 cd5 ct5 oc6 kV6 dc6 pm6 cd6 ct6 oc7 kV7 dc7 pm7 cd7 ct7 oc8 kV8 dc8 pm8 cd8 ct8 oc9 kV9 dc9 pm9 cd9 ct9 oc10 kV10 dc10 pm10 cd10 ct10 oc11 kV11 dc11 pm11 cd11 ct11 oc12 kV12 dc12 pm12 cd12 ct12 oc13 kV13 dc13 pm13 cd13 ct13 oc14 kV14 dc14 pm14 cd14 ct14 oc15 kV15 dc15 pm15 cd15 ct15 oc16 kV16 dc16 pm16 cd16 ct16 oc17 kV17 dc17 pm17 cd17 ct17 : Value}
    (aC : PySem.W.nsIn K mainGlobals "Paper" = some (some (.ref C)))
    (a1 : PySem.W.findIn K (.ref C) "__init__" = some (some (.ref f1))) (i1 : PySem.W.isFn K (.ref f1) = true)
    (l1 : K.lookup f1 = some ⟨oc1, od1, .func (PySem.W.fnOf "__init__" "Paper.__init__" (defArgs sInit) (defBody sInit) (defScope sInit) .none kV1 dc1 pm1 an1 cd1 ct1), sl1⟩) (c1 : PySem.W.codeIn K cd1 "Paper.__init__" = true) (k1 : PySem.W.keepIn K (.ref f1) = true)
    (a2 : PySem.W.findIn K (.ref C) "falls" = some (some (.ref f2))) (i2 : PySem.W.isFn K (.ref f2) = true)
    (l2 : K.lookup f2 = some ⟨oc2, od2, .func (PySem.W.fnOf "falls" "Paper.falls" (defArgs sFalls) (defBody sFalls) (defScope sFalls) .none kV2 dc2 pm2 an2 cd2 ct2), sl2⟩) (c2 : PySem.W.codeIn K cd2 "Paper.falls" = true) (k2 : PySem.W.keepIn K (.ref f2) = true)
    (a3 : PySem.W.findIn K (.ref C) "ends_of" = some (some (.ref f3))) (i3 : PySem.W.isFn K (.ref f3) = true)
    (l3 : K.lookup f3 = some ⟨oc3, od3, .func (PySem.W.fnOf "ends_of" "Paper.ends_of" (defArgs sEndsOf) (defBody sEndsOf) (defScope sEndsOf) .none kV3 dc3 pm3 an3 cd3 ct3), sl3⟩) (c3 : PySem.W.codeIn K cd3 "Paper.ends_of" = true) (k3 : PySem.W.keepIn K (.ref f3) = true)
    (a4 : PySem.W.findIn K (.ref C) "holds_after" = some (some (.ref f4))) (i4 : PySem.W.isFn K (.ref f4) = true)
    (l4 : K.lookup f4 = some ⟨oc4, od4, .func (PySem.W.fnOf "holds_after" "Paper.holds_after" (defArgs sAfter) (defBody sAfter) (defScope sAfter) .none kV4 dc4 pm4 an4 cd4 ct4), sl4⟩) (c4 : PySem.W.codeIn K cd4 "Paper.holds_after" = true) (k4 : PySem.W.keepIn K (.ref f4) = true)
    (a5 : PySem.W.findIn K (.ref C) "holds" = some (some (.ref f5))) (i5 : PySem.W.isFn K (.ref f5) = true)
    (l5 : K.lookup f5 = some ⟨oc5, od5, .func (PySem.W.fnOf "holds" "Paper.holds" (defArgs sHolds) (defBody sHolds) (defScope sHolds) .none kV5 dc5 pm5 an5 cd5 ct5), sl5⟩) (c5 : PySem.W.codeIn K cd5 "Paper.holds" = true) (k5 : PySem.W.keepIn K (.ref f5) = true)
    (a6 : PySem.W.nsIn K mainGlobals "takes_rest" = some (some (.ref f6)))
    (l6 : K.lookup f6 = some ⟨oc6, od6, .func (PySem.W.fnOf "takes_rest" "takes_rest" (defArgs sTakes) (defBody sTakes) (defScope sTakes) .none kV6 dc6 pm6 an6 cd6 ct6), sl6⟩) (c6 : PySem.W.codeIn K cd6 "takes_rest" = true) (k6 : PySem.W.keepIn K (.ref f6) = true)
    (a7 : PySem.W.nsIn K mainGlobals "_law_start" = some (some (.ref f7)))
    (l7 : K.lookup f7 = some ⟨oc7, od7, .func (PySem.W.fnOf "_law_start" "_law_start" (defArgs sStart) (defBody sStart) (defScope sStart) .none kV7 dc7 pm7 an7 cd7 ct7), sl7⟩) (c7 : PySem.W.codeIn K cd7 "_law_start" = true) (k7 : PySem.W.keepIn K (.ref f7) = true)
    (a8 : PySem.W.nsIn K mainGlobals "_law_draw" = some (some (.ref f8)))
    (l8 : K.lookup f8 = some ⟨oc8, od8, .func (PySem.W.fnOf "_law_draw" "_law_draw" (defArgs sDraw) (defBody sDraw) (defScope sDraw) .none kV8 dc8 pm8 an8 cd8 ct8), sl8⟩) (c8 : PySem.W.codeIn K cd8 "_law_draw" = true) (k8 : PySem.W.keepIn K (.ref f8) = true)
    (a9 : PySem.W.nsIn K mainGlobals "_law_pick" = some (some (.ref f9)))
    (l9 : K.lookup f9 = some ⟨oc9, od9, .func (PySem.W.fnOf "_law_pick" "_law_pick" (defArgs sPick) (defBody sPick) (defScope sPick) .none kV9 dc9 pm9 an9 cd9 ct9), sl9⟩) (c9 : PySem.W.codeIn K cd9 "_law_pick" = true) (k9 : PySem.W.keepIn K (.ref f9) = true)
    (a10 : PySem.W.nsIn K mainGlobals "_law_is" = some (some (.ref f10)))
    (l10 : K.lookup f10 = some ⟨oc10, od10, .func (PySem.W.fnOf "_law_is" "_law_is" (defArgs sIs) (defBody sIs) (defScope sIs) .none kV10 dc10 pm10 an10 cd10 ct10), sl10⟩) (c10 : PySem.W.codeIn K cd10 "_law_is" = true) (k10 : PySem.W.keepIn K (.ref f10) = true)
    (a11 : PySem.W.nsIn K mainGlobals "_law_pushdown" = some (some (.ref f11)))
    (l11 : K.lookup f11 = some ⟨oc11, od11, .func (PySem.W.fnOf "_law_pushdown" "_law_pushdown" (defArgs sPush) (defBody sPush) (defScope sPush) .none kV11 dc11 pm11 an11 cd11 ct11), sl11⟩) (c11 : PySem.W.codeIn K cd11 "_law_pushdown" = true) (k11 : PySem.W.keepIn K (.ref f11) = true)
    (a12 : PySem.W.nsIn K mainGlobals "_law_once" = some (some (.ref f12)))
    (l12 : K.lookup f12 = some ⟨oc12, od12, .func (PySem.W.fnOf "_law_once" "_law_once" (defArgs sOnce) (defBody sOnce) (defScope sOnce) .none kV12 dc12 pm12 an12 cd12 ct12), sl12⟩) (c12 : PySem.W.codeIn K cd12 "_law_once" = true) (k12 : PySem.W.keepIn K (.ref f12) = true)
    (a13 : PySem.W.nsIn K mainGlobals "_law_endings" = some (some (.ref f13)))
    (l13 : K.lookup f13 = some ⟨oc13, od13, .func (PySem.W.fnOf "_law_endings" "_law_endings" (defArgs sEnds) (defBody sEnds) (defScope sEnds) .none kV13 dc13 pm13 an13 cd13 ct13), sl13⟩) (c13 : PySem.W.codeIn K cd13 "_law_endings" = true) (k13 : PySem.W.keepIn K (.ref f13) = true)
    (a14 : PySem.W.nsIn K mainGlobals "_law_steps" = some (some (.ref f14)))
    (l14 : K.lookup f14 = some ⟨oc14, od14, .func (PySem.W.fnOf "_law_steps" "_law_steps" (defArgs sSteps) (defBody sSteps) (defScope sSteps) .none kV14 dc14 pm14 an14 cd14 ct14), sl14⟩) (c14 : PySem.W.codeIn K cd14 "_law_steps" = true) (k14 : PySem.W.keepIn K (.ref f14) = true)
    (a15 : PySem.W.nsIn K mainGlobals "_law_rest_right" = some (some (.ref f15)))
    (l15 : K.lookup f15 = some ⟨oc15, od15, .func (PySem.W.fnOf "_law_rest_right" "_law_rest_right" (defArgs sRight) (defBody sRight) (defScope sRight) .none kV15 dc15 pm15 an15 cd15 ct15), sl15⟩) (c15 : PySem.W.codeIn K cd15 "_law_rest_right" = true) (k15 : PySem.W.keepIn K (.ref f15) = true)
    (a16 : PySem.W.nsIn K mainGlobals "_law_takes_rest" = some (some (.ref f16)))
    (l16 : K.lookup f16 = some ⟨oc16, od16, .func (PySem.W.fnOf "_law_takes_rest" "_law_takes_rest" (defArgs sTakesL) (defBody sTakesL) (defScope sTakesL) .none kV16 dc16 pm16 an16 cd16 ct16), sl16⟩) (c16 : PySem.W.codeIn K cd16 "_law_takes_rest" = true) (k16 : PySem.W.keepIn K (.ref f16) = true)
    (a17 : PySem.W.nsIn K mainGlobals "law" = some (some (.ref f17)))
    (l17 : K.lookup f17 = some ⟨oc17, od17, .func (PySem.W.fnOf "law" "law" (defArgs sLaw) (defBody sLaw) (defScope sLaw) .none kV17 dc17 pm17 an17 cd17 ct17), sl17⟩) (c17 : PySem.W.codeIn K cd17 "law" = true) (k17 : PySem.W.keepIn K (.ref f17) = true)
    (pg : PySem.W.plainGet K C Str.empty = true) (hd : PySem.W.hasDictIn K C = true) (po : PySem.W.plainOver K C = true) (sa : PySem.W.findIn K (.ref C) "__setattr__" = some (some (.builtin "object.__setattr__"))) (mk : PySem.W.makesIn K C = true) (kc : PySem.W.keepIn K (.ref C) = true)
    (nR : PySem.W.findIn K (.ref C) "ranks" = some none) (nK : PySem.W.findIn K (.ref C) "_known" = some none) (nB : PySem.W.findIn K (.ref C) "_by_head" = some none)
    (zabs : PySem.W.nsIn K mainGlobals "abs" = some none)
    (zint : PySem.W.nsIn K mainGlobals "int" = some none)
    (zlen : PySem.W.nsIn K mainGlobals "len" = some none)
    (zisinstance : PySem.W.nsIn K mainGlobals "isinstance" = some none)
    (zbool : PySem.W.nsIn K mainGlobals "bool" = some none)
    (zrange : PySem.W.nsIn K mainGlobals "range" = some none)
    (ztuple : PySem.W.nsIn K mainGlobals "tuple" = some none)
    (zlist : PySem.W.nsIn K mainGlobals "list" = some none)
    (zset : PySem.W.nsIn K mainGlobals "set" = some none)
    (zsorted : PySem.W.nsIn K mainGlobals "sorted" = some none)
    (zmax : PySem.W.nsIn K mainGlobals "max" = some none)
    (zany : PySem.W.nsIn K mainGlobals "any" = some none)
    (zall : PySem.W.nsIn K mainGlobals "all" = some none)
    (zdict : PySem.W.nsIn K mainGlobals "dict" = some none)
    :
    ∃ fd : FuncData, (∀ (s : Shared) (v : Value), BindsTo s fd ⟨[v], []⟩ [("_law_script", v)]) ∧ ∀ base : Heap, K.In base → base.Ns mainGlobals mg → FnOk l.prog w K mg base CX0 5 fa fd ["_law_script"] (spLaw K) := by
  have e := hfa.symm.trans (PySem.W.mg_of X G a17)
  cases e
  have T : Txt mg := ⟨PySem.W.mg_none_of X G zabs, PySem.W.mg_none_of X G zint, PySem.W.mg_none_of X G zlen, PySem.W.mg_none_of X G zisinstance, PySem.W.mg_none_of X G zbool, PySem.W.mg_none_of X G zrange, PySem.W.mg_none_of X G ztuple, PySem.W.mg_none_of X G zlist, PySem.W.mg_none_of X G zset, PySem.W.mg_none_of X G zsorted, PySem.W.mg_none_of X G zmax, PySem.W.mg_none_of X G zany, PySem.W.mg_none_of X G zall, PySem.W.mg_none_of X G zdict⟩
  have PC : Pap K mg C := ⟨⟨pg, hd, po, sa⟩, nR, nK, nB, PySem.W.mg_of X G aC⟩
  have F1 := fun_mk (st := sInit) l1 c1 k1
  have b1 := F1.binds (ps := ["self", "endings", "ranks"]) fun _ _ _ _ _ _ us hl => match us, hl with | [_, _, _], _ => rfl
  have F2 := fun_mk (st := sFalls) l2 c2 k2
  have b2 := F2.binds (ps := ["self", "head", "most"]) fun _ _ _ _ _ _ us hl => match us, hl with | [_, _, _], _ => rfl
  have F3 := fun_mk (st := sEndsOf) l3 c3 k3
  have b3 := F3.binds (ps := ["self", "p", "s"]) fun _ _ _ _ _ _ us hl => match us, hl with | [_, _, _], _ => rfl
  have F4 := fun_mk (st := sAfter) l4 c4 k4
  have b4 := F4.binds (ps := ["self", "rule", "ending", "most"]) fun _ _ _ _ _ _ us hl => match us, hl with | [_, _, _, _], _ => rfl
  have F5 := fun_mk (st := sHolds) l5 c5 k5
  have b5 := F5.binds (ps := ["self", "rule"]) fun _ _ _ _ _ _ us hl => match us, hl with | [_, _], _ => rfl
  have F6 := fun_mk (st := sTakes) l6 c6 k6
  have b6 := F6.binds (ps := ["rules", "head", "paper"]) fun _ _ _ _ _ _ us hl => match us, hl with | [_, _, _], _ => rfl
  have F7 := fun_mk (st := sStart) l7 c7 k7
  have b7 := F7.binds (ps := ["_law_script"]) fun _ _ _ _ _ _ us hl => match us, hl with | [_], _ => rfl
  have F8 := fun_mk (st := sDraw) l8 c8 k8
  have b8 := F8.binds (ps := ["_law_state", "_law_bound"]) fun _ _ _ _ _ _ us hl => match us, hl with | [_, _], _ => rfl
  have F9 := fun_mk (st := sPick) l9 c9 k9
  have b9 := F9.binds (ps := ["_law_state", "_law_things"]) fun _ _ _ _ _ _ us hl => match us, hl with | [_, _], _ => rfl
  have F10 := fun_mk (st := sIs) l10 c10 k10
  have b10 := F10.binds (ps := ["_law_actual", "_law_due"]) fun _ _ _ _ _ _ us hl => match us, hl with | [_, _], _ => rfl
  have F11 := fun_mk (st := sPush) l11 c11 k11
  have b11 := F11.binds (ps := ["_law_state"]) fun _ _ _ _ _ _ us hl => match us, hl with | [_], _ => rfl
  have F12 := fun_mk (st := sOnce) l12 c12 k12
  have b12 := F12.binds (ps := ["_law_things"]) fun _ _ _ _ _ _ us hl => match us, hl with | [_], _ => rfl
  have F13 := fun_mk (st := sEnds) l13 c13 k13
  have b13 := F13.binds (ps := ["_law_rules"]) fun _ _ _ _ _ _ us hl => match us, hl with | [_], _ => rfl
  have F14 := fun_mk (st := sSteps) l14 c14 k14
  have b14 := F14.binds (ps := ["_law_rules", "_law_ends", "_law_head"]) fun _ _ _ _ _ _ us hl => match us, hl with | [_, _, _], _ => rfl
  have F15 := fun_mk (st := sRight) l15 c15 k15
  have b15 := F15.binds (ps := ["_law_rules", "_law_ends", "_law_ranks", "_law_rule"]) fun _ _ _ _ _ _ us hl => match us, hl with | [_, _, _, _], _ => rfl
  have F16 := fun_mk (st := sTakesL) l16 c16 k16
  have b16 := F16.binds (ps := ["_law_rules", "_law_head", "_law_paper"]) fun _ _ _ _ _ _ us hl => match us, hl with | [_, _, _], _ => rfl
  have F17 := fun_mk (st := sLaw) l17 c17 k17
  have G6 : Gd K mg "takes_rest" f6 _ ["rules", "head", "paper"] := ⟨PySem.W.mg_of X G a6, k6, b6⟩
  have G7 : Gd K mg "_law_start" f7 _ ["_law_script"] := ⟨PySem.W.mg_of X G a7, k7, b7⟩
  have G8 : Gd K mg "_law_draw" f8 _ ["_law_state", "_law_bound"] := ⟨PySem.W.mg_of X G a8, k8, b8⟩
  have G9 : Gd K mg "_law_pick" f9 _ ["_law_state", "_law_things"] := ⟨PySem.W.mg_of X G a9, k9, b9⟩
  have G10 : Gd K mg "_law_is" f10 _ ["_law_actual", "_law_due"] := ⟨PySem.W.mg_of X G a10, k10, b10⟩
  have G11 : Gd K mg "_law_pushdown" f11 _ ["_law_state"] := ⟨PySem.W.mg_of X G a11, k11, b11⟩
  have G12 : Gd K mg "_law_once" f12 _ ["_law_things"] := ⟨PySem.W.mg_of X G a12, k12, b12⟩
  have G13 : Gd K mg "_law_endings" f13 _ ["_law_rules"] := ⟨PySem.W.mg_of X G a13, k13, b13⟩
  have G14 : Gd K mg "_law_steps" f14 _ ["_law_rules", "_law_ends", "_law_head"] := ⟨PySem.W.mg_of X G a14, k14, b14⟩
  have G15 : Gd K mg "_law_rest_right" f15 _ ["_law_rules", "_law_ends", "_law_ranks", "_law_rule"] := ⟨PySem.W.mg_of X G a15, k15, b15⟩
  have G16 : Gd K mg "_law_takes_rest" f16 _ ["_law_rules", "_law_head", "_law_paper"] := ⟨PySem.W.mg_of X G a16, k16, b16⟩
  refine ⟨PySem.W.fnOf "law" "law" (defArgs sLaw) (defBody sLaw) (defScope sLaw) .none kV17 dc17 pm17 an17 cd17 ct17, fun s v => .of_eq rfl, fun base _ _ => ?_⟩
  have o_init := ok_init (P := l.prog) (w := w) (base := base) F1 T PC
  have o_falls := ok_falls (P := l.prog) (w := w) (base := base) F2 T PC
  have o_ends_of := ok_endsOf (P := l.prog) (w := w) (base := base) F3 T PC
  have o_after := ok_after F4 T PC ⟨a2, i2, k2⟩ b2 o_falls ⟨a3, i3, k3⟩ b3 o_ends_of
  have o_holds := ok_holds F5 T PC ⟨a2, i2, k2⟩ b2 o_falls ⟨a3, i3, k3⟩ b3 o_ends_of ⟨a4, i4, k4⟩ b4 o_after
  have o_takes := ok_takes F6 T PC ⟨mk, a1, i1, kc⟩ b1 o_init ⟨a5, i5, k5⟩ b5 o_holds
  have o_start := ok_start (P := l.prog) (w := w) (base := base) F7 T
  have o_draw := ok_draw (P := l.prog) (w := w) (base := base) F8 T
  have o_pick := ok_pick F9 T G8 o_draw
  have o_is := ok_is (P := l.prog) (w := w) (base := base) F10 T
  have o_push := ok_push F11 T G8 o_draw G9 o_pick
  have o_once := ok_once (P := l.prog) (w := w) (base := base) F12 T
  have o_ends := ok_ends (P := l.prog) (w := w) (base := base) F13 T
  have o_steps := ok_steps F14 T G12 o_once
  have o_right := ok_right (P := l.prog) (w := w) (base := base) F15 T
  have o_takesL := ok_takesL F16 T G15 o_right
  exact ok_law (fun_mk (st := sLaw) l17 c17 k17) T ⟨G7, o_start, G11, o_push, G13, o_ends, G14, o_steps, G12, o_once, G8, o_draw, G16, o_takesL, G10, o_is, G6, o_takes⟩
theorem walk {l : PySem.W.OpenLaw} {q : Program} {loose : List Str} {XP : (Str → Option Value) → Heap → Prop} {YP : World → Heap → Prop} {d : DefRec} {K : Params → PySem.W.Frag} (hn : l.most = some 63) (hdf : d.params.defaults = [])
    (hY : ∀ (w : World) (h : Heap), YP w h → (K w.params).In h)
    (F : ∀ (w : World) (mg : Str → Option Value) (fa : Addr) (h : Heap), (K w.params).In h → h.Ns mainGlobals mg → mg d.name = some (.ref fa) →
      ∃ fd : FuncData, (∀ (s : Shared) (u : Value), BindsTo s fd ⟨[u], []⟩ [("_law_script", u)]) ∧ ∀ base : Heap, (K w.params).In base → base.Ns mainGlobals mg → FnOk l.prog w (K w.params) mg base CX0 5 fa fd ["_law_script"] (spLaw (K w.params))) :
    PySem.W.WalkO q loose XP YP l.row.toRowW d [] (fun f vs => PySem.call f vs) :=
  L2.walk_of (n := 63) (k := 5) (x := "_law_script") (CX := fun _ => CX0) (sp := fun w => spLaw (K w.params)) hn (by decide) hdf ⟨rfl, by decide, by decide⟩ hY F (fun _ _ a ns hl _ hS => ⟨a, ns, rfl, hS, hl, fun _ => rfl⟩) fun _ _ _ _ _ z => z
end Wk

open PySem PySem.W PyProof.Rows in
set_option maxRecDepth 100000 in
set_option maxHeartbeats 0 in
theorem PySem.Challenge.cw_calltowers_k10_whole_judge_of_rests_holds : PySem.Challenge.rw_calltowers_k10_whole_judge_of_rests.Holds := by
  w_on; o_law; k_head; (case hw => w_witness2)
  k_fill
  refine Wk.walk (l := PySem.Challenge.rw_calltowers_k10_whole_judge_of_rests) rfl rfl (fun w h Y => PySem.W.kIn_of Y) ?F
  case F =>
    intro w mg fa h KX G hmg
    refine' Wk.all_mk KX G hmg ?aC ?a1 ?i1 ?l1 ?c1 ?k1 ?a2 ?i2 ?l2 ?c2 ?k2 ?a3 ?i3 ?l3 ?c3 ?k3 ?a4 ?i4 ?l4 ?c4 ?k4 ?a5 ?i5 ?l5 ?c5 ?k5 ?a6 ?l6 ?c6 ?k6 ?a7 ?l7 ?c7 ?k7 ?a8 ?l8 ?c8 ?k8 ?a9 ?l9 ?c9 ?k9 ?a10 ?l10 ?c10 ?k10 ?a11 ?l11 ?c11 ?k11 ?a12 ?l12 ?c12 ?k12 ?a13 ?l13 ?c13 ?k13 ?a14 ?l14 ?c14 ?k14 ?a15 ?l15 ?c15 ?k15 ?a16 ?l16 ?c16 ?k16 ?a17 ?l17 ?c17 ?k17 ?pg ?hd ?po ?sa ?mk ?kc ?nR ?nK ?nB ?zabs ?zint ?zlen ?zisinstance ?zbool ?zrange ?ztuple ?zlist ?zset ?zsorted ?zmax ?zany ?zall ?zdict
    (case aC => k_is)
    (case a1 => k_is)
    (case i1 => k_is)
    (case l1 => k_is)
    (case c1 => k_is)
    (case k1 => k_is)
    (case a2 => k_is)
    (case i2 => k_is)
    (case l2 => k_is)
    (case c2 => k_is)
    (case k2 => k_is)
    (case a3 => k_is)
    (case i3 => k_is)
    (case l3 => k_is)
    (case c3 => k_is)
    (case k3 => k_is)
    (case a4 => k_is)
    (case i4 => k_is)
    (case l4 => k_is)
    (case c4 => k_is)
    (case k4 => k_is)
    (case a5 => k_is)
    (case i5 => k_is)
    (case l5 => k_is)
    (case c5 => k_is)
    (case k5 => k_is)
    (case a6 => k_is)
    (case l6 => k_is)
    (case c6 => k_is)
    (case k6 => k_is)
    (case a7 => k_is)
    (case l7 => k_is)
    (case c7 => k_is)
    (case k7 => k_is)
    (case a8 => k_is)
    (case l8 => k_is)
    (case c8 => k_is)
    (case k8 => k_is)
    (case a9 => k_is)
    (case l9 => k_is)
    (case c9 => k_is)
    (case k9 => k_is)
    (case a10 => k_is)
    (case l10 => k_is)
    (case c10 => k_is)
    (case k10 => k_is)
    (case a11 => k_is)
    (case l11 => k_is)
    (case c11 => k_is)
    (case k11 => k_is)
    (case a12 => k_is)
    (case l12 => k_is)
    (case c12 => k_is)
    (case k12 => k_is)
    (case a13 => k_is)
    (case l13 => k_is)
    (case c13 => k_is)
    (case k13 => k_is)
    (case a14 => k_is)
    (case l14 => k_is)
    (case c14 => k_is)
    (case k14 => k_is)
    (case a15 => k_is)
    (case l15 => k_is)
    (case c15 => k_is)
    (case k15 => k_is)
    (case a16 => k_is)
    (case l16 => k_is)
    (case c16 => k_is)
    (case k16 => k_is)
    (case a17 => k_is)
    (case l17 => k_is)
    (case c17 => k_is)
    (case k17 => k_is)
    (case pg => k_is)
    (case hd => k_is)
    (case po => k_is)
    (case sa => k_is)
    (case mk => k_is)
    (case kc => k_is)
    (case nR => k_is)
    (case nK => k_is)
    (case nB => k_is)
    (case zabs => k_is)
    (case zint => k_is)
    (case zlen => k_is)
    (case zisinstance => k_is)
    (case zbool => k_is)
    (case zrange => k_is)
    (case ztuple => k_is)
    (case zlist => k_is)
    (case zset => k_is)
    (case zsorted => k_is)
    (case zmax => k_is)
    (case zany => k_is)
    (case zall => k_is)
    (case zdict => k_is)
