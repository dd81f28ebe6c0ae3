import PyProof.Rows.All
import Wide.All
import OpenK.AllK
import Wide.FinOn
import HandS.TupSets
import HandS.SortRule
import HandS.ForMost
import HandS.Deep
import PyProof.Rows.SortKeyStr
import HandS.More
import HandS.Exc
import HandS.Flow
import HandS.Wide
import PyProof.ListStr
import KE.KStateDown
import HandS.ExcOwn
import HandS.WordsExc
import HandS.IsInst
import HandS.Defaults
import HandS.Star
import HandS.Head0
import HandS.Head1
import HandS.Head2
import HandS.HeadEnd
import HandS.HeadHook1
import HandS.HeadHook2
import HandS.HeadNt
import HandS.TryOnly
import HandS.TupAny
import HandS.StrMore
import HandS.StrSplit
import KE.KCallOwn
import KE.KFmtOwn
import HandS.Slots
import HandS.SlotsOwn
import HandS.ClsMeth
import PySem.Challenge.RW_ownsignals_k84_grants_as_sets
set_option Elab.async false
set_option linter.all false
set_option maxRecDepth 100000
set_option maxHeartbeats 4000000
/-! sets of tuples whose items are ints and texts: set(list), set(tuple), sorted(set) -/
namespace GSet
open PySem PySem.Spec PyProof.Rows L2

abbrev Ks := List Key
abbrev hk (P : Program) (w : World) (q : Ks) : Int := tupleKeyHash (mixKind P w) q
abbrev TAt (P : Program) (w : World) (g : Heap) (q : Ks) (c : Addr) : Prop := IsTupleKey (mixKind P w) g q c
/-- an int or a text -/
def Plain (v : Value) : Prop := (∃ i u, v = Value.int i u) ∨ ∃ x u, v = Value.str x u

section
variable {P : Program} {w : World} {A : Around} {E : Value → Shared → Prop} {s : Shared}

theorem plain_items {q : Ks} {us : List Value} (h : ItemsAre (mixKind P w) q us) : ∀ v ∈ us, Plain v := by
  induction h with
  | nil => intro v m; cases m
  | @cons k0 v0 ks0 vs0 e _ rec =>
    intro v m
    rcases List.mem_cons.mp m with z | z
    · subst z
      exact keyIs_shape (k := k0) (v := v) e |>.elim (fun ⟨i, t, _, z⟩ => .inl ⟨i, t, z⟩) fun ⟨x, t, _, z⟩ => .inr ⟨x, t, z⟩
    · exact rec v z
theorem noClass (n : Nat) {v : Value} (p : Plain v) : ofAClassStatement n v = pure false := by
  rcases p with ⟨i, u, rfl⟩ | ⟨x, u, rfl⟩ <;> cases n <;> rfl
theorem byVal (n : Nat) {v : Value} (p : Plain v) : ∃ b, hashByValue n v = pure b := by
  rcases p with ⟨i, u, rfl⟩ | ⟨x, u, rfl⟩ <;> cases n <;> exact ⟨_, rfl⟩
/-- the class of a tuple key's items is no class statement's -/
theorem noClass_tup {q : Ks} {c : Addr} {Q : Bool → Shared → Prop} (t : TAt P w s.heap q c) (fin : Q false s) : wpAny (model P w) A (ofAClassStatement 8 (.ref c)) Q E s := by
  have ty := t.typeIs
  obtain ⟨ob, its, ep, at1, _, at2, at3⟩ := t
  unfold ofAClassStatement
  refine wpAny_bind (wpAny_typeOf ty ?_)
  dsimp only
  have e0 : (("tuple" : String) == "tuple") = true := by decide
  simp only [e0, if_true, Bool.not_true, Bool.false_eq_true, if_false]
  try refine wpAny_bind (wpAny_pure ?_)
  try simp only [Bool.not_true, Bool.false_eq_true, if_false]
  show wpAny _ _ (seqItems? (.ref c) >>= _) _ _ s
  refine wpAny_bind (wpAny_seqItems at1 at2 ?_)
  dsimp only
  refine wpAny_bind ?_
  show wpAny _ _ (forIn its _ _) _ _ s
  rw [← Array.forIn_toList]
  refine wpAny_forIn_list _ (fun left acc s' => acc.1 = none ∧ s' = s ∧ ∀ v ∈ left, Plain v) _ ?_ ?_ _ _ ⟨rfl, rfl, plain_items at3⟩
  · rintro v left acc s' ⟨ha, rfl, all⟩
    rw [noClass _ (all v List.mem_cons_self)]
    refine wpAny_bind (wpAny_pure ?_)
    simp only [Bool.false_eq_true, if_false]
    exact wpAny_pure ⟨rfl, rfl, fun u m => all u (List.mem_cons_of_mem _ m)⟩
  · rintro ⟨a1, a2⟩ s' ⟨ha, rfl, _⟩
    simp only at ha
    subst ha
    exact wpAny_pure fin
theorem byVal_tup {q : Ks} {c : Addr} {Q : Bool → Shared → Prop} (t : TAt P w s.heap q c) (fin : ∀ b, Q b s) : wpAny (model P w) A (hashByValue 8 (.ref c)) Q E s := by
  have ty := t.typeIs
  obtain ⟨ob, its, ep, at1, _, at2, at3⟩ := t
  unfold hashByValue
  refine wpAny_bind (wpAny_specialOf ty F.slot_tuple_hash.lookup ?_)
  show wpAny _ _ (seqItems? (.ref c) >>= _) _ _ s
  refine wpAny_bind (wpAny_seqItems at1 at2 ?_)
  refine wpAny_bind ?_
  show wpAny _ _ (forIn its _ _) _ _ s
  rw [← Array.forIn_toList]
  refine wpAny_forIn_list _ (fun left acc s' => s' = s ∧ ∀ v ∈ left, Plain v) _ ?_ ?_ _ _ ⟨rfl, plain_items at3⟩
  · rintro v left acc s' ⟨rfl, all⟩
    obtain ⟨b, e⟩ := byVal 7 (all v List.mem_cons_self)
    rw [e]
    refine wpAny_bind (wpAny_pure ?_)
    cases b with
    | true =>
      simp only [Bool.not_true, Bool.false_eq_true, if_false]
      exact wpAny_pure ⟨rfl, fun u m => all u (List.mem_cons_of_mem _ m)⟩
    | false =>
      simp only [Bool.not_false, if_true]
      exact wpAny_pure (wpAny_pure (fin _))
  · rintro ⟨a1, a2⟩ s' ⟨rfl, _⟩
    cases a1 with
    | none => exact wpAny_pure (fin _)
    | some b => exact wpAny_pure (fin _)
theorem unseen {q : Ks} {c : Addr} {Q : Bool → Shared → Prop} (t : TAt P w s.heap q c) {others : List Value} (hy : ∀ y ∈ others, ∃ q' d, y = Value.ref d ∧ TAt P w s.heap q' d) (fin : Q false s) :
    wpAny (model P w) A (searchCouldBeSeen (.ref c) others) Q E s := by
  unfold searchCouldBeSeen
  refine wpAny_bind ?_
  refine wpAny_forIn_list _ (fun left acc s' => acc.1 = none ∧ s' = s ∧ ∀ y ∈ left, ∃ q' d, y = Value.ref d ∧ TAt P w s.heap q' d) _ ?_ ?_ _ _ ⟨rfl, rfl, hy⟩
  · rintro v left acc s' ⟨ha, rfl, all⟩
    obtain ⟨q', d, rfl, t'⟩ := all v List.mem_cons_self
    have tl : ∀ y ∈ left, ∃ q' d, y = Value.ref d ∧ TAt P w s'.heap q' d := fun u m => all u (List.mem_cons_of_mem _ m)
    dsimp only
    by_cases z : (c == d || (carriedByValue (.ref c) && carriedByValue (.ref d))) = true
    · exact wp_if_pos z (wpAny_pure ⟨rfl, rfl, tl⟩)
    · refine wp_if_neg z ?_
      refine wpAny_bind (wpAny_eqIsQuiet_tuple t ?_)
      simp only [Bool.not_true, Bool.false_eq_true, if_false]
      refine wpAny_bind (wpAny_eqIsQuiet_tuple t' ?_)
      simp only [Bool.not_true, Bool.false_eq_true, if_false]
      refine wpAny_bind (noClass_tup t ?_)
      simp only [Bool.false_eq_true, if_false]
      refine wpAny_bind (noClass_tup t' ?_)
      simp only [Bool.false_eq_true, if_false]
      exact wpAny_pure ⟨rfl, rfl, tl⟩
  · rintro ⟨a1, a2⟩ s' ⟨ha, rfl, _⟩
    simp only at ha
    subst ha
    exact wpAny_pure fin
end

/-! ### the table -/
abbrev Row := Addr × Ks
def rows (P : Program) (w : World) (R : List Row) : List (Int × Value) := R.map fun r => (hk P w r.2, Value.ref r.1)
abbrev hs (P : Program) (w : World) (R : List Row) : List Int := R.map fun r => hk P w r.2
structure TabAt (P : Program) (w : World) (g : Heap) (c : Addr) (R : List Row) (es : Array (Int × Value)) (ep : Nat) (t : SetTable) : Prop where
  ob : ∃ o, g.get? c = some o ∧ o.ExactSet ∧ o.data = .set es ep t
  rw_ : es.toList = rows P w R
  tab : TabOk t (hs P w R)
  nd : (R.map (·.2)).Nodup
  tup : ∀ r ∈ R, TAt P w g r.2 r.1
  led : w.params.followText "set-order" = true ∨ t.led = true
  room : R.length * 5 < t.mask * 3
  few : R.length < 64

section
variable {P : Program} {w : World} {A : Around} {E : Value → Shared → Prop} {s : Shared}
variable {c : Addr} {R : List Row} {es : Array (Int × Value)} {ep : Nat} {t : SetTable}
theorem rows_len {l : Array (Int × Value)} {R' : List Row} (h : l.toList = rows P w R') : l.size = R'.length := by
  have z := congrArg List.length h
  rwa [rows, Array.length_toList, List.length_map] at z
theorem TabAt.size (T : TabAt P w s.heap c R es ep t) : es.size = R.length := rows_len T.rw_
theorem TabAt.psize (T : TabAt P w s.heap c R es ep t) : t.place.size = R.length := by
  have z := T.tab.sz
  rwa [List.length_map] at z
theorem TabAt.fits (T : TabAt P w s.heap c R es ep t) : t.fits es.size = true := by
  have z1 := T.psize
  have z2 := T.size
  have z3 := T.room
  unfold SetTable.fits SetTable.fill
  rw [T.tab.dm, Bool.and_eq_true, beq_iff_eq, decide_eq_true_eq]
  show t.place.size = es.size ∧ t.place.size + 0 ≤ t.mask
  omega
theorem row_at {l : Array (Int × Value)} {R' : List Row} (h : l.toList = rows P w R') {i : Nat} {r : Row} (e : R'[i]? = some r) : l[i]? = some (hk P w r.2, Value.ref r.1) := by
  rw [← Array.getElem?_toList, h, rows, List.getElem?_map, e] <;> rfl
theorem TabAt.gw (T : TabAt P w s.heap c R es ep t) : ¬ t.gaveWay = true := by
  unfold SetTable.gaveWay
  rw [mask_odd T.tab.mok]
  decide
abbrev start (t : SetTable) (h : Int) : SetTable.Probe := runAt t.mask (SetTable.bits h % (t.mask + 1)) (SetTable.bits h)
theorem nodum (m : Nat) : ∀ (n : Nat) (p : SetTable.Probe), p.dummy = none → (nth m p n).dummy = none
  | 0, _, h => h
  | n + 1, p, h => nodum m n (adv m p) (by
    unfold adv
    split <;> exact h)

/-- what stands behind a key's way: the first free place, K -/
structure Seek (t : SetTable) (h : Int) (K : Nat) : Prop where
  lt : K < 10 * SetTable.turns t.mask
  no : way t.mask h K ∉ t.place.toList
  yes : ∀ j, j < K → way t.mask h j ∈ t.place.toList

theorem seek_go (T : TabAt P w s.heap c R es ep t) {x : Addr} {q : Ks} (tx : TAt P w s.heap q x) (hu : A.units < cLine) {K : Nat} (S : Seek t (hk P w q) K) {Q : SetFound → Shared → Prop}
    (inn : q ∈ R.map (·.2) → Q (.there none) s) (out : q ∉ R.map (·.2) → Q (.free (way t.mask (hk P w q) K) false) s) :
    ∀ (f j : Nat) (st : Option SetTable.Probe), st.getD (t.probeStart (hk P w q)) = nth t.mask (start t (hk P w q)) j → j ≤ K → K - j < f →
      (∀ (i : Nat) r, R[i]? = some r → r.2 = q → ∃ j', j ≤ j' ∧ j' < K ∧ t.place.toList[i]? = some (way t.mask (hk P w q) j')) →
      wpAny (model P w) A (setSearchFrom c (.ref x) (hk P w q) true f st) Q E s
  | 0, j, st, _, _, z, _ => absurd z (Nat.not_lt_zero _)
  | f + 1, j, st, hst, hj, hf, ahead => by
    obtain ⟨o, ho, hex, hd⟩ := T.ob
    have hsl := T.psize
    rw [setSearchFrom_succ]
    refine wpAny_bind (wpAny_setState_of ho hd T.fits ?_)
    dsimp only
    refine wp_if_neg T.gw ?_
    try refine wpAny_bind (wpAny_pure ?_)
    have sh : ∀ n, nth t.mask (nth t.mask (start t (hk P w q)) j) n = nth t.mask (start t (hk P w q)) (j + n) := fun n => (nth_add t.mask j _ n).symm
    have ej : ∀ n, (nth t.mask (nth t.mask (start t (hk P w q)) j) n).j = way t.mask (hk P w q) (j + n) := fun n => congrArg SetTable.Probe.j (sh n)
    have spec := go_spec t T.tab.ris T.tab.dm (fun i => (es[i]?.map (·.1)).getD 0) (hk P w q) (10 * SetTable.turns t.mask) (K - j) _ (nodum t.mask j (start t (hk P w q)) rfl) (by have := S.lt; omega)
      (fun n hn => by rw [ej]; exact S.yes (j + n) (by omega)) (by rw [ej, Nat.add_sub_cancel' hj]; exact S.no)
    have hashOf : ∀ (i : Nat) r, R[i]? = some r → (fun i => (es[i]?.map (·.1)).getD 0) i = hk P w r.2 := fun i r e => by
      show (es[i]?.map (·.1)).getD 0 = _
      rw [row_at T.rw_ e] <;> rfl
    rcases spec with ⟨n, i, hn, hi, hh, hno, hpr⟩ | ⟨hno, hpr⟩
    · have found : t.probe (fun i => (es[i]?.map (·.1)).getD 0) (hk P w q) (st.getD (t.probeStart (hk P w q))) = some (.candidate (way t.mask (hk P w q) (j + n)) i (nth t.mask (start t (hk P w q)) (j + (n + 1)))) := by
        rw [hst, ← ej, ← sh]
        exact hpr
      rw [found]
      dsimp only
      rw [ej] at hi
      have il : i < R.length := by
        have z : i < t.place.toList.length := (List.getElem?_eq_some_iff.mp hi).1
        rw [Array.length_toList] at z
        omega
      have hr : R[i]? = some R[i] := List.getElem?_eq_getElem il
      generalize R[i] = r at hr
      have mem : r ∈ R := List.mem_of_getElem? hr
      have tr := T.tup r mem
      have cont : wpAny (model P w) A (searchRest c (.ref x) (hk P w q) true f es t (way t.mask (hk P w q) (j + n)) i (nth t.mask (start t (hk P w q)) (j + (n + 1)))) Q E s := by
        unfold searchRest
        rw [row_at T.rw_ hr]
        dsimp only
        refine wpAny_bind (wpAny_holding (wpAny_eqBool_tuple hu tr tx ?_))
        refine wpAny_bind (wpAny_setState_of ho hd T.fits ?_)
        dsimp only
        by_cases eq : r.2 = q
        · refine wp_if_pos (by simp [eq]) ?_
          exact wpAny_pure (inn (List.mem_map.mpr ⟨r, mem, eq⟩))
        · refine wp_if_neg (by simp [eq]) ?_
          try refine wpAny_bind (wpAny_pure ?_)
          rw [sameMem]
          dsimp only
          have live : t.slot (way t.mask (hk P w q) (j + n)) = .live i := slot_live T.tab.ris hi
          simp only [if_true, live, row_at T.rw_ hr]
          refine wpAny_bind (wpAny_isSame_ref_self (wpAny_bind (wpAny_pure ?_)))
          simp only [if_true]
          refine wp_if_neg (by simp [eq]) ?_
          refine seek_go T tx hu S inn out f (j + (n + 1)) _ rfl (by omega) (by omega) fun i0 r0 e0 k0 => ?_
          obtain ⟨j', b1, b2, b3⟩ := ahead i0 r0 e0 k0
          refine ⟨j', ?_, b2, b3⟩
          rcases Nat.lt_trichotomy j' (j + n) with y | y | y
          · exact absurd ((hashOf i0 r0 e0).trans (congrArg (hk P w) k0)) (hno (j' - j) i0 (by omega) (by rw [ej, Nat.add_sub_cancel' b1]; exact b3))
          · rw [y] at b3
            have s0 := slot_live T.tab.ris b3
            rw [live] at s0
            injection s0 with s0
            rw [← s0, hr] at e0
            exact absurd ((congrArg Prod.snd (Option.some.inj e0)).trans k0) eq
          · omega
      by_cases hl : t.led = true
      · refine wp_if_neg (by simp [hl]) ?_
        try refine wpAny_bind (wpAny_pure ?_)
        exact cont
      · refine wp_if_pos (by simp [hl]) ?_
        refine wpAny_bind (unseen tx (fun y hy => ?_) ?_)
        · obtain ⟨e, he, ee⟩ := List.mem_map.mp hy
          have he1 : e ∈ es ∧ e.1 = hk P w q := by simpa using he
          have he2 : e ∈ es.toList := by simpa using he1.1
          rw [T.rw_] at he2
          obtain ⟨r2, hr2, e2⟩ := List.mem_map.mp he2
          exact ⟨r2.2, r2.1, by rw [← ee, ← e2], T.tup r2 hr2⟩
        · refine wp_if_neg (by decide) ?_
          try refine wpAny_bind (wpAny_pure ?_)
          exact cont
    · have empt : t.probe (fun i => (es[i]?.map (·.1)).getD 0) (hk P w q) (st.getD (t.probeStart (hk P w q))) = some (.empty (way t.mask (hk P w q) K) none) := by
        have z : way t.mask (hk P w q) K = (nth t.mask (nth t.mask (start t (hk P w q)) j) (K - j)).j := by rw [ej, Nat.add_sub_cancel' hj]
        rw [hst, z]
        exact hpr
      rw [empt]
      dsimp only
      refine wpAny_pure (out fun m => ?_)
      obtain ⟨r0, m0, k0⟩ := List.mem_map.mp m
      obtain ⟨i0, l0, e0⟩ := List.getElem_of_mem m0
      have e1 : R[i0]? = some r0 := by rw [List.getElem?_eq_getElem l0, e0]
      obtain ⟨j', b1, b2, b3⟩ := ahead i0 r0 e1 k0
      exact hno (j' - j) i0 (by omega) (by rw [ej, Nat.add_sub_cancel' b1]; exact b3) ((hashOf i0 r0 e1).trans (congrArg (hk P w) k0))

theorem seek_all (T : TabAt P w s.heap c R es ep t) {x : Addr} {q : Ks} (tx : TAt P w s.heap q x) (hu : A.units < cLine) {Q : SetFound → Shared → Prop}
    (inn : q ∈ R.map (·.2) → Q (.there none) s) (out : ∀ K, q ∉ R.map (·.2) → Seek t (hk P w q) K → Q (.free (way t.mask (hk P w q) K) false) s) :
    wpAny (model P w) A (setSearch c (.ref x) (hk P w q) true) Q E s := by
  have room := T.room
  obtain ⟨K, h1, h2, h3⟩ := T.tab.first (by rw [List.length_map]; omega) (hk P w q)
  have S : Seek t (hk P w q) K := ⟨h1, h2, h3⟩
  have big : K < 100000 := by
    have : 10 * SetTable.turns t.mask ≤ 1420 := by
      unfold SetTable.turns
      rcases T.tab.mok with e | e | e <;> omega
    omega
  unfold setSearch
  refine seek_go T tx hu S inn (fun m => out K m S) 100000 0 none rfl (Nat.zero_le _) (by omega) fun i r e k => ?_
  have hi : (hs P w R)[i]? = some (hk P w q) := by rw [List.getElem?_map, e, ← k] <;> rfl
  have il : i < t.place.toList.length := by
    have z1 : i < R.length := (List.getElem?_eq_some_iff.mp e).1
    have z2 := T.psize
    rw [Array.length_toList]
    omega
  have hj := List.getElem?_eq_getElem il
  obtain ⟨n, hn, en⟩ := T.tab.before h2 hi hj
  exact ⟨n, Nat.zero_le _, hn, by rw [hj, en]⟩

theorem tat_same {g g' : Heap} {q : Ks} {d e : Addr} {o : Obj} {es : Array (Int × Value)} {ep : Nat} {t : SetTable} (x : TAt P w g q d) (ho : g.get? e = some o) (hd : o.data = .set es ep t) (sb : Heap.SameBut e g g') : TAt P w g' q d := by
  obtain ⟨o', its, n, a1, a2, a3, a4⟩ := x
  have ne : d ≠ e := by
    rintro rfl
    obtain rfl : o' = o := Option.some.inj (a1.symm.trans ho)
    rw [hd] at a3
    exact nomatch a3
  exact ⟨o', its, n, (sb.2 d ne).trans a1, a2, a3, a4⟩
theorem tat_keep {g g' : Heap} {q : Ks} {d : Addr} (x : TAt P w g q d) (k : ∀ b o, g.get? b = some o → g'.get? b = some o) : TAt P w g' q d :=
  let ⟨o, its, n, a1, r⟩ := x
  ⟨o, its, n, k d o a1, r⟩
theorem rows_ins (R : List Row) (p : Nat) (x : Row) : rows P w (R.take p ++ x :: R.drop p) = (rows P w R).take p ++ (hk P w x.2, Value.ref x.1) :: (rows P w R).drop p := by
  rw [rows, List.map_append, List.map_cons, List.map_take, List.map_drop] <;> rfl

/-- the rows in the order of a new table -/
theorem reorder (R : List Row) (es : Array (Int × Value)) (order : Array Nat) (hr : es.toList = rows P w R) (hp : order.toList.Perm (List.range R.length)) :
    ∃ R2, (order.filterMap (es[·]?)).toList = rows P w R2 ∧ R2.Perm R ∧ hs P w R2 = order.toList.map fun i => (es.map (·.1)).getD i 0 := by
  have sz := rows_len hr
  have at_ : ∀ i (h : i < R.length), es[i]? = some (hk P w (R[i]).2, Value.ref (R[i]).1) := fun i h => row_at hr (List.getElem?_eq_getElem h)
  have main : ∀ l : List Nat, (∀ i ∈ l, i < R.length) → (l.filterMap fun i => es[i]?) = rows P w (l.filterMap fun i => R[i]?) ∧ hs P w (l.filterMap fun i => R[i]?) = l.map fun i => (es.map (·.1)).getD i 0 := by
    intro l
    induction l with
    | nil => intro _; exact ⟨rfl, rfl⟩
    | cons i l rec =>
      intro hl
      have hi := hl i List.mem_cons_self
      obtain ⟨e1, e2⟩ := rec fun j m => hl j (List.mem_cons_of_mem _ m)
      have e3 : (es.map (·.1)).getD i 0 = hk P w (R[i]).2 := by
        have z : (es.map (·.1))[i]? = some (hk P w (R[i]).2) := by rw [Array.getElem?_map, at_ i hi] <;> rfl
        simp [Array.getD_eq_getD_getElem?, z]
      rw [List.filterMap_cons_some (at_ i hi), List.filterMap_cons_some (List.getElem?_eq_getElem hi), e1]
      refine ⟨rfl, ?_⟩
      rw [List.map_cons, e3, ← e2] <;> rfl
  obtain ⟨e1, e2⟩ := main order.toList fun i m => List.mem_range.mp (hp.mem_iff.mp m)
  refine ⟨_, by first | (rw [Array.toList_filterMap]; exact e1) | simpa using e1, ?_, e2⟩
  have full : ∀ n, n ≤ R.length → (List.range n).filterMap (fun i => R[i]?) = R.take n := by
    intro n
    induction n with
    | zero => intro _; rfl
    | succ n rec =>
      intro hn
      rw [List.range_succ, List.filterMap_append, rec (Nat.le_of_lt hn), List.take_succ, List.getElem?_eq_getElem hn, List.filterMap_cons_some (List.getElem?_eq_getElem hn)] <;> rfl
  have z := hp.filterMap fun i => R[i]?
  rwa [full R.length (Nat.le_refl _), List.take_length] at z

/-- a larger table -/
theorem relay_go {o : Obj} (ho : s.heap.get? c = some o) (hex : o.ExactSet) (hd : o.data = .set es ep t) (hr : es.toList = rows P w R) (hsz : t.place.size = es.size) (hdm : t.dummies = #[]) (hfl : es.size ≤ t.mask)
    (nd : (R.map (·.2)).Nodup) (tup : ∀ r ∈ R, TAt P w s.heap r.2 r.1) (ld : w.params.followText "set-order" = true ∨ t.led = true) (few : R.length < 64) {wanted M : Nat}
    (hw : SetTable.sizeAbove wanted - 1 = M) (hM : MaskOk M) (hw2 : SetTable.sizeAbove wanted ≤ 128) (hn : R.length * 5 < M * 3) {Q : Unit → Shared → Prop}
    (fin : ∀ g' R' es' ep' t', Heap.SameBut c s.heap g' → TabAt P w g' c R' es' ep' t' → R'.Perm R → Q () { s with heap := g' }) : wpAny (model P w) A (setRelay c wanted) Q E s := by
  have sz := rows_len hr
  have fits : t.fits es.size = true := by
    unfold SetTable.fits SetTable.fill
    rw [hdm, Bool.and_eq_true, beq_iff_eq, decide_eq_true_eq]
    show t.place.size = es.size ∧ t.place.size + 0 ≤ t.mask
    omega
  obtain ⟨t', order, e, hp, Tn, em, el, ep', ed⟩ := relaid_ok t (hs := es.map (·.1)) (wanted := wanted) hw hM (by rw [Array.size_map, sz]; omega)
  rw [Array.size_map, sz] at hp
  obtain ⟨R2, r1, r2, r3⟩ := reorder R es order hr hp
  rw [← r3] at Tn
  have s2 : (order.filterMap (es[·]?)).size = es.size := by rw [rows_len r1, r2.length_eq, sz]
  rw [setRelay_eq]
  refine wpAny_bind (wpAny_setState_of ho hd fits ?_)
  dsimp only
  refine wp_if_neg (by rw [sizeLine_eq]; omega) ?_
  try refine wpAny_bind (wpAny_pure ?_)
  rw [e]
  dsimp only
  refine wpAny_bind ?_
  refine wp_if_neg (by rw [s2]; simp) ?_
  try refine wpAny_bind (wpAny_pure ?_)
  refine wpAny_pure ?_
  dsimp only
  refine wpAny_storeSet_of ho hd ?_ (by rw [s2, sz, sizeLine_eq]; omega)
  have sb : Heap.SameBut c s.heap (s.heap.update c (Obj.putSet (order.filterMap (es[·]?)) t')) := Heap.SameBut.update ..
  refine fin _ R2 (order.filterMap (es[·]?)) (ep + 1) t' sb ?_ r2
  refine ⟨⟨_, store_at ho hd, ⟨hex.1, hex.2.1, hex.2.2⟩, rfl⟩, r1, Tn, (r2.map (·.2)).nodup_iff.mpr nd, fun r m => tat_same (tup r (r2.mem_iff.mp m)) ho hd sb, by rw [el]; exact ld, ?_, by rw [r2.length_eq]; exact few⟩
  rw [r2.length_eq, em]
  exact hn

/-- one more row -/
theorem add_go (T : TabAt P w s.heap c R es ep t) {x : Addr} {q : Ks} (tx : TAt P w s.heap q x) (hu : A.units < cLine) (hfew : R.length + 1 < 64) {Q : Bool → Shared → Prop}
    (fin : ∀ b g' R' es' ep' t', Heap.SameBut c s.heap g' → TabAt P w g' c R' es' ep' t' → (q ∈ R.map (·.2) → R' = R) → (q ∉ R.map (·.2) → R'.Perm ((x, q) :: R)) → Q b { s with heap := g' }) :
    wpAny (model P w) A (setAddHashed c (.ref x) (hk P w q)) Q E s := by
  obtain ⟨o, ho, hex, hd⟩ := T.ob
  have sz := T.size
  have room := T.room
  unfold setAddHashed
  refine wpAny_holding ?_
  rw [show (100000 : Nat) = 99999 + 1 from rfl, setAddHashedIn_succ]
  refine wpAny_bind (wpAny_setState_of ho hd T.fits ?_)
  dsimp only
  refine wp_if_neg (by simp [byScan, Value.scannable]) ?_
  try refine wpAny_bind (wpAny_pure ?_)
  refine wpAny_bind (seek_all T tx hu (fun m => ?_) fun K m S => ?_)
  · dsimp only
    exact wpAny_pure (fin false s.heap R es ep t (Heap.SameBut.refl c s.heap) T (fun _ => rfl) fun z => absurd m z)
  · dsimp only
    refine wpAny_bind (wpAny_setState_of ho hd T.fits ?_)
    dsimp only
    obtain ⟨q1, q2, q3, q4, q5, q6, q7, q8, q9⟩ := T.tab.put S.no S.yes
    generalize t.put (way t.mask (hk P w q) K) = pt at q1 q3 q4 q5 q6 q7 q8 q9 ⊢
    obtain ⟨t0, p⟩ := pt
    dsimp only at q1 q3 q4 q5 q6 q7 q8 q9 ⊢
    subst q1
    have tabk : ∀ byv : Bool, ∃ t1 : SetTable, (if byv = true then t0 else { t0 with plain := false }) = t1 ∧ t1.mask = t.mask ∧ t1.led = t.led ∧ t1.fill = (hs P w R).length + 1 ∧
        TabOk t1 ((hs P w R).take (SetTable.below t.place (way t.mask (hk P w q) K)) ++ hk P w q :: (hs P w R).drop (SetTable.below t.place (way t.mask (hk P w q) K))) := fun byv => by
      cases byv with
      | true => exact ⟨t0, rfl, q4, q5, q9, q3⟩
      | false => exact ⟨{ t0 with plain := false }, rfl, q4, q5, q9, ⟨q3.ris, q3.dm, q3.sz, q3.mok, q3.bd, q3.reach⟩⟩
    have main : ∀ byv : Bool, wpAny (model P w) A (do
        storeSet c (SetTable.insertAt es (SetTable.below t.place (way t.mask (hk P w q) K)) (hk P w q, Value.ref x)) (if byv = true then t0 else { t0 with plain := false })
        if (!false && (if byv = true then t0 else { t0 with plain := false }).tooFull) = true then setRelay c (SetTable.grown (es.size + 1))
        return true) Q E s := fun byv => by
      obtain ⟨t1, e1, p4, p5, p9, p3⟩ := tabk byv
      rw [e1]
      have hin : (SetTable.insertAt es (SetTable.below t.place (way t.mask (hk P w q) K)) (hk P w q, Value.ref x)).toList = rows P w (R.take (SetTable.below t.place (way t.mask (hk P w q) K)) ++ (x, q) :: R.drop (SetTable.below t.place (way t.mask (hk P w q) K))) := by
        rw [SetTable.toList_insertAt, rows_ins, T.rw_]
      generalize SetTable.below t.place (way t.mask (hk P w q) K) = p at q2 p3 hin ⊢
      have pm := put_perm R p (x, q)
      have hlen : (R.take p ++ (x, q) :: R.drop p).length = R.length + 1 := pm.length_eq
      have hhs : hs P w (R.take p ++ (x, q) :: R.drop p) = (hs P w R).take p ++ hk P w q :: (hs P w R).drop p := by
        simp only [hs, List.map_append, List.map_cons, List.map_take, List.map_drop]
      rw [← hhs] at p3
      have nd1 : ((R.take p ++ (x, q) :: R.drop p).map (·.2)).Nodup := by
        refine (pm.map (·.2)).nodup_iff.mpr ?_
        rw [List.map_cons]
        exact List.nodup_cons.mpr ⟨m, T.nd⟩
      have hes : (SetTable.insertAt es p (hk P w q, Value.ref x)).size = R.length + 1 := by rw [rows_len hin, hlen]
      generalize SetTable.insertAt es p (hk P w q, Value.ref x) = es1 at hin hes ⊢
      generalize R.take p ++ (x, q) :: R.drop p = R1 at pm hlen p3 nd1 hin
      refine wpAny_bind (wpAny_storeSet_of ho hd ?_ (by rw [hes, sizeLine_eq]; omega))
      have sb : Heap.SameBut c s.heap (s.heap.update c (Obj.putSet es1 t1)) := Heap.SameBut.update ..
      have ho1 := store_at (es' := es1) (t' := t1) ho hd
      generalize s.heap.update c (Obj.putSet es1 t1) = g1 at sb ho1 ⊢
      have tup1 : ∀ r ∈ R1, TAt P w g1 r.2 r.1 := fun r hr => by
        rcases List.mem_cons.mp (pm.mem_iff.mp hr) with e | hr
        · rw [e]; exact tat_same tx ho hd sb
        · exact tat_same (T.tup r hr) ho hd sb
      have ld1 : w.params.followText "set-order" = true ∨ t1.led = true := by rw [p5]; exact T.led
      have lenh : (hs P w R).length = R.length := List.length_map _
      by_cases hf : t1.tooFull = true
      · have hfull : (R.length + 1) * 5 ≥ t1.mask * 3 := by
          have h := hf
          unfold SetTable.tooFull at h
          rw [decide_eq_true_eq, p9, lenh] at h
          exact h
        rw [sz]
        have hsz1 : t1.place.size = es1.size := by
          have h := p3.sz
          rw [List.length_map, hlen] at h
          rw [h, hes]
        have two : (t.mask = 7 ∧ R.length = 4) ∨ (t.mask = 31 ∧ R.length = 18) := by
          rcases T.tab.mok with e | e | e <;> rw [p4, e] at hfull <;> rw [e] at room
          · exact .inl ⟨e, by omega⟩
          · exact .inr ⟨e, by omega⟩
          · omega
        have go : ∀ M, SetTable.sizeAbove (SetTable.grown (R.length + 1)) - 1 = M → MaskOk M → SetTable.sizeAbove (SetTable.grown (R.length + 1)) ≤ 128 → (R.length + 1) * 5 < M * 3 →
            wpAny (model P w) A (setRelay c (SetTable.grown (R.length + 1))) (fun _ s' => wpAny (model P w) A (pure true) Q E s') E { s with heap := g1 } := fun M z1 z2 z3 z4 => by
          refine relay_go (s := { s with heap := g1 }) ho1 ⟨hex.1, hex.2.1, hex.2.2⟩ rfl hin hsz1 p3.dm (by rw [hes, p4]; rcases two with ⟨e, e2⟩ | ⟨e, e2⟩ <;> omega) nd1 tup1 ld1 (by rw [hlen]; exact hfew) z1 z2 z3 (by rw [hlen]; exact z4) ?_
          intro g2 R2 es2 ep2 t2 sb2 T2 pm2
          exact wpAny_pure (fin true g2 R2 es2 ep2 t2 (sb.trans sb2) T2 (fun z => absurd z m) fun _ => pm2.trans pm)
        have fin2 : wpAny (model P w) A (setRelay c (SetTable.grown (R.length + 1))) (fun _ s' => wpAny (model P w) A (pure true) Q E s') E { s with heap := g1 } := by
          rcases two with ⟨_, e2⟩ | ⟨_, e2⟩
          · exact go 31 (by rw [e2, size_20]) (.inr (.inl rfl)) (by rw [e2, size_20]; decide) (by omega)
          · exact go 127 (by rw [e2, size_76]) (.inr (.inr rfl)) (by rw [e2, size_76]; decide) (by omega)
        first
          | exact wpAny_bind (wp_if_pos (by simp [hf]) fin2)
          | exact wp_if_pos (by simp [hf]) (wpAny_bind fin2)
      · have done := fin true g1 R1 es1 (ep + 1) t1 sb ⟨⟨_, ho1, ⟨hex.1, hex.2.1, hex.2.2⟩, rfl⟩, hin, p3, nd1, tup1, ld1, (by
            have h := hf
            unfold SetTable.tooFull at h
            rw [decide_eq_true_eq, p9, lenh] at h
            rw [hlen]
            omega), by rw [hlen]; exact hfew⟩ (fun z => absurd z m) fun _ => pm
        first
          | exact wp_if_neg (by simp [hf]) (wpAny_pure done)
          | exact wpAny_bind (wp_if_neg (by simp [hf]) (wpAny_pure (wpAny_pure done)))
    by_cases hp : t0.plain = true
    · first
        | exact wpAny_bind (wp_if_pos hp (byVal_tup tx fun b => main b))
        | exact wp_if_pos hp (wpAny_bind (byVal_tup tx fun b => main b))
    · first
        | exact wpAny_bind (wp_if_neg hp (wpAny_pure (main true)))
        | exact wp_if_neg hp (wpAny_bind (wpAny_pure (main true)))
end

/-! ### set(xs) -/
/-- what has come of the first i items -/
structure Come (qs : List Row) (i : Nat) (R : List Row) : Prop where
  sub : ∀ r ∈ R, r ∈ qs.take i
  all : ∀ r ∈ qs.take i, r.2 ∈ R.map (·.2)
  len : R.length ≤ i
theorem Come.zero (qs : List Row) : Come qs 0 [] := ⟨fun r h => (by cases h), fun r h => (by simp at h), Nat.le_refl _⟩
theorem Come.old {qs R : List Row} {i : Nat} {x : Row} (g : Come qs i R) (h : qs[i]? = some x) (m : x.2 ∈ R.map (·.2)) : Come qs (i + 1) R := by
  refine ⟨fun r hr => ?_, fun r hr => ?_, Nat.le_succ_of_le g.len⟩ <;> rw [take_next h] at *
  · exact List.mem_append_left _ (g.sub r hr)
  · rcases List.mem_append.mp hr with z | z
    · exact g.all r z
    · rw [List.mem_singleton.mp z]; exact m
theorem Come.new {qs R R' : List Row} {i : Nat} {x : Row} (g : Come qs i R) (h : qs[i]? = some x) (pm : R'.Perm (x :: R)) : Come qs (i + 1) R' := by
  refine ⟨fun r hr => ?_, fun r hr => ?_, by rw [pm.length_eq, List.length_cons]; exact Nat.succ_le_succ g.len⟩
  · rw [take_next h]
    rcases List.mem_cons.mp (pm.mem_iff.mp hr) with e | z
    · rw [e]; exact List.mem_append_right _ (List.mem_singleton.mpr rfl)
    · exact List.mem_append_left _ (g.sub r z)
  · rw [(pm.map (·.2)).mem_iff, List.map_cons]
    rw [take_next h] at hr
    rcases List.mem_append.mp hr with z | z
    · exact List.mem_cons_of_mem _ (g.all r z)
    · rw [List.mem_singleton.mp z]; exact List.mem_cons_self

section
variable {P : Program} {w : World} {A : Around} {E : Value → Shared → Prop} {s : Shared}
theorem TabAt.keep {g g' : Heap} {c : Addr} {R : List Row} {es : Array (Int × Value)} {ep : Nat} {t : SetTable} (T : TabAt P w g c R es ep t) (hc : ∀ o, g.get? c = some o → g'.get? c = some o) (ht : ∀ r ∈ R, TAt P w g' r.2 r.1) : TabAt P w g' c R es ep t :=
  let ⟨o, ho, r⟩ := T.ob
  ⟨⟨o, hc o ho, r⟩, T.rw_, T.tab, T.nd, ht, T.led, T.room, T.few⟩
abbrev emptySet (w : World) : Obj := { cls := .type "set", dict := none, data := .set #[] 0 (.fresh 0 0 (!w.params.followText "set-order")) }
theorem tab_fresh {g : Heap} {c : Addr} (ho : g.get? c = some (emptySet w)) : TabAt P w g c [] #[] 0 (.fresh 0 0 (!w.params.followText "set-order")) where
  ob := ⟨_, ho, ⟨rfl, rfl, rfl⟩, rfl⟩
  rw_ := rfl
  tab := ⟨List.Pairwise.nil, rfl, rfl, .inl rfl, fun x hx => (by cases hx), fun i h j hi => (by simp at hi)⟩
  nd := List.nodup_nil
  tup := fun r hr => (by cases hr)
  led := by
    show _ ∨ (!w.params.followText "set-order") = true
    cases w.params.followText "set-order"
    · exact .inr rfl
    · exact .inl rfl
  room := (by show 0 * 5 < 7 * 3; decide)
  few := (by show 0 < 64; decide)

/-- the loop behind set(..) -/
theorem fill_loop {I : Addr} {fp wr : List Addr} {G : Array GenState → Array GenState → Prop} {n : Nat} {Pv : Nat → Value → Prop} {St : Nat → Shared → Prop} {R : Result → Shared → Prop}
    (W : WalksS P w A.in1 I fp wr G n Pv St) (S : Addr) (hSf : S ∉ fp) (qs : List Row) (hn : n = qs.length) (few : qs.length < 64) (val : ∀ i v, Pv i v → ∃ r, qs[i]? = some r ∧ v = .ref r.1)
    (h0 : Heap) (hq : ∀ r ∈ qs, TAt P w h0 r.2 r.1) (hS0 : h0.get? S = none) (hw0 : ∀ b ∈ wr, h0.get? b = none) (hu : A.in1.units < cLine) :
    ∀ (k i : Nat) (s : Shared), n - i = k → i ≤ n → St i s → (∀ b o, h0.get? b = some o → s.heap.get? b = some o) → (∃ L es ep t, TabAt P w s.heap S L es ep t ∧ Come qs i L) →
      (∀ s' L es ep t, Moved (S :: wr) G s s' → TabAt P w s'.heap S L es ep t → Come qs n L → (∀ b o, h0.get? b = some o → s'.heap.get? b = some o) → R (.ok (.ret .none)) s') →
      codeAny (model P w) A (.builtin "set.update.loop" ⟨[.ref S, .ref I], []⟩) R s := by
  have hSw : S ∉ wr := fun h => hSf (W.sub _ h)
  have sub : ∀ b ∈ wr, b ∈ S :: wr := fun b hb => List.mem_cons_of_mem _ hb
  have keepM : ∀ {s s' : Shared}, Moved wr G s s' → (∀ b o, h0.get? b = some o → s.heap.get? b = some o) → ∀ b o, h0.get? b = some o → s'.heap.get? b = some o := fun mv kp b o e =>
    mv.heap b o (fun hb => by rw [hw0 b hb] at e; cases e) (kp b o e)
  intro k
  induction k with
  | zero =>
    intro i s hk' hi hst kp ⟨L, es, ep, t, T, g⟩ hR
    obtain rfl : i = n := by omega
    refine codeAny_builtin F.entry_set_update_loop ?_
    rw [Around.under_plainId F.plain_set_update_loop _]
    show wpAny _ A.in1 (pyNext (.ref I) >>= _) _ _ s
    refine wpAny_bind (W.done s _ _ hst fun s' mv => ?_)
    show wpAny _ A.in1 (ret Value.none) _ _ s'
    have kp' := keepM mv kp
    exact wpAny_pure (hR s' L es ep t (mv.mono sub) (T.keep (fun o e => mv.heap S o hSw e) fun r hr => tat_keep (hq r (List.mem_of_mem_take (g.sub r hr))) kp') g kp')
  | succ k ih =>
    intro i s hk' hi hst kp ⟨L, es, ep, t, T, g⟩ hR
    have lt : i < n := by omega
    refine codeAny_builtin F.entry_set_update_loop ?_
    rw [Around.under_plainId F.plain_set_update_loop _]
    show wpAny _ A.in1 (pyNext (.ref I) >>= _) _ _ s
    refine wpAny_bind (W.item i s _ _ lt hst fun v s' hP hst' mv => ?_)
    obtain ⟨r, hr, rfl⟩ := val i v hP
    have kp' := keepM mv kp
    have T' : TabAt P w s'.heap S L es ep t := T.keep (fun o e => mv.heap S o hSw e) fun z hz => tat_keep (hq z (List.mem_of_mem_take (g.sub z hz))) kp'
    have tx : TAt P w s'.heap r.2 r.1 := tat_keep (hq r (List.mem_of_getElem? hr)) kp'
    show wpAny _ A.in1 (holding [Value.ref r.1] (setAdd S (.ref r.1)) >>= _) _ _ s'
    refine wpAny_bind (wpAny_holding ?_)
    unfold setAdd
    refine wpAny_holding ?_
    refine wpAny_bind (wpAny_pyHash_tuple hu tx ?_)
    refine add_go (s := { s' with toks := s'.toks + (r.2.length + 1) }) T' tx hu (by have := g.len; omega) fun b h' L' es' ep' t' sb T2 c1 c2 => ?_
    have g' : Come qs (i + 1) L' := by
      rcases Classical.em (r.2 ∈ L.map (·.2)) with z | z
      · rw [c1 z]; exact g.old hr z
      · exact g.new hr (c2 z)
    have kp2 : ∀ b o, h0.get? b = some o → h'.get? b = some o := fun b o e => (sb.2 b (fun z => by rw [z, hS0] at e; cases e)).trans (kp' b o e)
    refine wpAny_pure ⟨plainId_quiet F.plain_set_update_loop _, ih (i + 1) _ (by omega) lt (W.frame _ s' _ _ hst' (Nat.le_add_right _ _) fun b hb o e => ?_) kp2 ⟨L', es', ep', t', T2, g'⟩ fun s'' L2 es2 ep2 t2 mv'' T'' g'' kp'' => ?_⟩
    · rw [sb.2 b (fun h : b = S => hSf (by rw [← h]; exact hb))]; exact e
    · refine hR s'' L2 es2 ep2 t2 (Moved.trans W.gtrans ((mv.mono sub).then_heap (Nat.le_add_right _ _) fun b o hb e => ?_) mv'') T'' g'' kp''
      rw [sb.2 b (fun h : b = S => hb (by rw [h]; exact List.mem_cons_self))]; exact e

set_option maxHeartbeats 3200000 in
/-- set(x), x a list -/
theorem set_list {l : Addr} {items : Array Value} (qs : List Row) {Q : Value → Shared → Prop} (hh : A.handled = none) (hl : s.heap.IsList l items) (hit : items.toList = qs.map fun r => Value.ref r.1)
    (hq : ∀ r ∈ qs, TAt P w s.heap r.2 r.1) (few : qs.length < 64) (hu : A.units + 3 < cLine)
    (fin : ∀ (h' : Heap) (tk : Nat) L es ep t, TabAt P w h' s.heap.objs.size L es ep t → Come qs qs.length L → (∀ b o, s.heap.get? b = some o → h'.get? b = some o) → Q (.ref s.heap.objs.size) { s with heap := h', toks := tk }) :
    wpAny (model P w) A (call (.type "set") [.ref l]) Q E s := by
  have isz : items.size = qs.length := by
    have q := congrArg List.length hit
    rwa [Array.length_toList, List.length_map] at q
  obtain ⟨c, tl, hmro⟩ := F.called_set.mro
  have hmade := F.called_set.made
  have hsub := F.called_set.sub
  refine wpAny_call (codeAny_of_tree ?_)
  show wpAny _ _ (callAny (.type "set") _) _ _ _
  refine wpAny_pure ⟨Code.quiet_builtin _ (by decide +kernel), codeAny_builtin F.entry_type_call ?_⟩
  rw [Around.under_plain (weight_type_call_type "set" [.ref l] []) rfl]
  have h1 := F.called_set.notType
  have h2 := F.called_set.canCreate
  have hct := F.typeCall_set_1 (.ref l)
  repeat (any_goals (first | assumption | wp_step))
  refine codeAny_mono (code_set_led1 (.ref l) (E := E) (Q₁ := fun obj s₁ => obj = .ref s.heap.objs.size ∧ s₁ = { s with heap := s.heap.push (emptySet w) }) ⟨rfl, rfl⟩) fun r s₁ hr => ?_
  cases r with
  | error e => exact hr
  | ok fl =>
    cases fl with
    | ret obj =>
      obtain ⟨rfl, rfl⟩ := hr
      have hS : (s.heap.push (emptySet w)).get? s.heap.objs.size = some (emptySet w) := Heap.get?_push_size _ rfl
      have hT : Shared.TypeIs { s with heap := s.heap.push (emptySet w) } (.ref s.heap.objs.size) "set" := ⟨_, hS, rfl⟩
      have hli := F.called_set.init.lookup
      have hbi := F.called_set.init.bind (.ref s.heap.objs.size)
      repeat (any_goals (first | assumption | wp_step))
      refine codeAny_mono (codeAny_call_builtin (R := wants (fun r s₂ => r = .none ∧ ∃ h' tk L es ep t, s₂ = { s with heap := h', toks := tk } ∧ TabAt P w h' s.heap.objs.size L es ep t ∧ Come qs qs.length L ∧
          (∀ b o, s.heap.get? b = some o → h'.get? b = some o)) E) F.called_set.init.plain F.entry_set_init (check_set_init_1 hT ?_)) fun r₂ s₂ hr₂ => ?_
      · obtain ⟨ol, hol, hcl, nl, hdl⟩ := hl
        obtain ⟨ocls, odict, odata, oslots⟩ := ol
        simp only at hcl hdl
        subst hcl; subst hdl
        have hol' : (s.heap.push (emptySet w)).get? l = some { cls := .type "list", dict := odict, data := .seq items nl, slots := oslots } := Heap.get?_push_of_some _ hol
        have hsls := F.sub_list_set
        have hslf := F.sub_list_frozenset
        have hne : (Value.type "list" == Value.type "dict") = false := by decide
        have hl1 : (s.heap.push (emptySet w)).IsList l items := ⟨_, hol', rfl, nl, rfl⟩
        unfold Builtin.«set.__init__» noKeywords Builtin.Frozenset.updateFrom
        generalize hPI : pyIter = PI
        wp_walk
        subst hPI
        refine wpAny_pyIter_list hl1 ?_
        refine wpAny_bind (wpAny_runValue ?_)
        have hlS : l < s.heap.objs.size := Heap.lt_size hol
        have hh3 : A.in1.in1.in1.handled = none := by simp [hh]
        have z1 : (s.heap.push (emptySet w)).objs.size = s.heap.objs.size + 1 := Heap.size_push ..
        have hneI : l ≠ (s.heap.push (emptySet w)).objs.size := by
          rw [z1]; exact Nat.ne_of_lt (Nat.lt_succ_of_lt hlS)
        have hSf : s.heap.objs.size ∉ [(s.heap.push (emptySet w)).objs.size, l] := by
          rw [z1]; simp only [List.mem_cons, List.mem_singleton, List.not_mem_nil, or_false, not_or]
          exact ⟨Nat.ne_of_lt (Nat.lt_succ_self _), Nat.ne_of_gt hlS⟩
        have val : ∀ (i : Nat) (v : Value), items[i]? = some v → ∃ r, qs[i]? = some r ∧ v = .ref r.1 := fun i v hv => by
          have q : items.toList[i]? = some v := by rw [Array.getElem?_toList]; exact hv
          rw [hit, List.getElem?_map] at q
          obtain ⟨r, e1, e2⟩ := Option.map_eq_some_iff.mp q
          exact ⟨r, e1, e2.symm⟩
        have free : ∀ b, s.heap.objs.size ≤ b → s.heap.get? b = none := fun b hb => by
          cases q : s.heap.get? b with
          | none => rfl
          | some o => exact absurd (Nat.lt_of_lt_of_le (Heap.lt_size q) hb) (Nat.lt_irrefl _)
        refine fill_loop ((Walks.list hh3 _ l hneI items).toS) s.heap.objs.size
          hSf qs isz few val s.heap hq (free _ (Nat.le_refl _)) (fun b hb => free b (by
            rw [List.mem_singleton.mp hb, z1]
            exact Nat.le_succ _)) hu (items.size - 0) 0 _ (by omega) (Nat.zero_le _)
          ⟨⟨_, Heap.get?_push_size _ rfl, rfl, rfl⟩, (hl1.push _)⟩ (fun b o e => Heap.get?_push_of_some _ (Heap.get?_push_of_some _ e)) ?hS0 ?hR
        case hS0 => exact ⟨[], #[], 0, _, tab_fresh (Heap.get?_push_of_some _ hS), Come.zero qs⟩
        case hR =>
          intro s' L es ep t mv T' g' kp
          obtain ⟨h', g2, d', tk', os'⟩ := s'
          obtain rfl : g2 = s.gens := mv.gens
          obtain rfl : d' = s.drawn := mv.drawn
          obtain rfl : os' = s.os := mv.os
          show wpAny _ _ _ _ _ _
          refine wpAny_pure ?_
          show wpAny _ _ (ret Value.none) _ _ _
          rw [isz] at g'
          exact wpAny_pure ⟨rfl, h', tk', L, es, ep, t, rfl, T', g', kp⟩
      · cases r₂ with
        | error e => exact hr₂
        | ok fl₂ =>
          cases fl₂ with
          | ret r =>
            obtain ⟨rfl, h', tk, L, es, ep, t, rfl, T', g', k'⟩ := hr₂
            repeat (any_goals (first | assumption | wp_step))
            exact fin _ _ _ _ _ _ T' g' k'
          | _ => exact hr₂.elim
    | _ => exact hr.elim

set_option maxHeartbeats 3200000 in
/-- set(x), x a tuple -/
theorem set_tuple {l : Addr} {items : Array Value} (qs : List Row) {Q : Value → Shared → Prop} (hh : A.handled = none) (hl : s.heap.IsTuple l items) (hit : items.toList = qs.map fun r => Value.ref r.1)
    (hq : ∀ r ∈ qs, TAt P w s.heap r.2 r.1) (few : qs.length < 64) (hu : A.units + 3 < cLine)
    (fin : ∀ (h' : Heap) (tk : Nat) L es ep t, TabAt P w h' s.heap.objs.size L es ep t → Come qs qs.length L → (∀ b o, s.heap.get? b = some o → h'.get? b = some o) → Q (.ref s.heap.objs.size) { s with heap := h', toks := tk }) :
    wpAny (model P w) A (call (.type "set") [.ref l]) Q E s := by
  have isz : items.size = qs.length := by
    have q := congrArg List.length hit
    rwa [Array.length_toList, List.length_map] at q
  obtain ⟨c, tl, hmro⟩ := F.called_set.mro
  have hmade := F.called_set.made
  have hsub := F.called_set.sub
  refine wpAny_call (codeAny_of_tree ?_)
  show wpAny _ _ (callAny (.type "set") _) _ _ _
  refine wpAny_pure ⟨Code.quiet_builtin _ (by decide +kernel), codeAny_builtin F.entry_type_call ?_⟩
  rw [Around.under_plain (weight_type_call_type "set" [.ref l] []) rfl]
  have h1 := F.called_set.notType
  have h2 := F.called_set.canCreate
  have hct := F.typeCall_set_1 (.ref l)
  repeat (any_goals (first | assumption | wp_step))
  refine codeAny_mono (code_set_led1 (.ref l) (E := E) (Q₁ := fun obj s₁ => obj = .ref s.heap.objs.size ∧ s₁ = { s with heap := s.heap.push (emptySet w) }) ⟨rfl, rfl⟩) fun r s₁ hr => ?_
  cases r with
  | error e => exact hr
  | ok fl =>
    cases fl with
    | ret obj =>
      obtain ⟨rfl, rfl⟩ := hr
      have hS : (s.heap.push (emptySet w)).get? s.heap.objs.size = some (emptySet w) := Heap.get?_push_size _ rfl
      have hT : Shared.TypeIs { s with heap := s.heap.push (emptySet w) } (.ref s.heap.objs.size) "set" := ⟨_, hS, rfl⟩
      have hli := F.called_set.init.lookup
      have hbi := F.called_set.init.bind (.ref s.heap.objs.size)
      repeat (any_goals (first | assumption | wp_step))
      refine codeAny_mono (codeAny_call_builtin (R := wants (fun r s₂ => r = .none ∧ ∃ h' tk L es ep t, s₂ = { s with heap := h', toks := tk } ∧ TabAt P w h' s.heap.objs.size L es ep t ∧ Come qs qs.length L ∧
          (∀ b o, s.heap.get? b = some o → h'.get? b = some o)) E) F.called_set.init.plain F.entry_set_init (check_set_init_1 hT ?_)) fun r₂ s₂ hr₂ => ?_
      · obtain ⟨ol, hol, hcl, nl, hdl⟩ := hl
        obtain ⟨ocls, odict, odata, oslots⟩ := ol
        simp only at hcl hdl
        subst hcl; subst hdl
        have hol' : (s.heap.push (emptySet w)).get? l = some { cls := .type "tuple", dict := odict, data := .seq items nl, slots := oslots } := Heap.get?_push_of_some _ hol
        have hsls := F.sub_tuple_set
        have hslf := F.sub_tuple_frozenset
        have hne : (Value.type "tuple" == Value.type "dict") = false := by decide
        have hl1 : (s.heap.push (emptySet w)).IsTuple l items := ⟨_, hol', rfl, nl, rfl⟩
        unfold Builtin.«set.__init__» noKeywords Builtin.Frozenset.updateFrom
        generalize hPI : pyIter = PI
        wp_walk
        subst hPI
        refine wpAny_pyIter_tuple hl1 ?_
        refine wpAny_bind (wpAny_runValue ?_)
        have hlS : l < s.heap.objs.size := Heap.lt_size hol
        have hh3 : A.in1.in1.in1.handled = none := by simp [hh]
        have z1 : (s.heap.push (emptySet w)).objs.size = s.heap.objs.size + 1 := Heap.size_push ..
        have hneI : l ≠ (s.heap.push (emptySet w)).objs.size := by
          rw [z1]; exact Nat.ne_of_lt (Nat.lt_succ_of_lt hlS)
        have hSf : s.heap.objs.size ∉ [(s.heap.push (emptySet w)).objs.size, l] := by
          rw [z1]; simp only [List.mem_cons, List.mem_singleton, List.not_mem_nil, or_false, not_or]
          exact ⟨Nat.ne_of_lt (Nat.lt_succ_self _), Nat.ne_of_gt hlS⟩
        have val : ∀ (i : Nat) (v : Value), items[i]? = some v → ∃ r, qs[i]? = some r ∧ v = .ref r.1 := fun i v hv => by
          have q : items.toList[i]? = some v := by rw [Array.getElem?_toList]; exact hv
          rw [hit, List.getElem?_map] at q
          obtain ⟨r, e1, e2⟩ := Option.map_eq_some_iff.mp q
          exact ⟨r, e1, e2.symm⟩
        have free : ∀ b, s.heap.objs.size ≤ b → s.heap.get? b = none := fun b hb => by
          cases q : s.heap.get? b with
          | none => rfl
          | some o => exact absurd (Nat.lt_of_lt_of_le (Heap.lt_size q) hb) (Nat.lt_irrefl _)
        refine fill_loop ((Walks.tuple hh3 _ l hneI items).toS) s.heap.objs.size
          hSf qs isz few val s.heap hq (free _ (Nat.le_refl _)) (fun b hb => free b (by
            rw [List.mem_singleton.mp hb, z1]
            exact Nat.le_succ _)) hu (items.size - 0) 0 _ (by omega) (Nat.zero_le _)
          ⟨⟨_, Heap.get?_push_size _ rfl, rfl, rfl⟩, (hl1.push _)⟩ (fun b o e => Heap.get?_push_of_some _ (Heap.get?_push_of_some _ e)) ?hS0 ?hR
        case hS0 => exact ⟨[], #[], 0, _, tab_fresh (Heap.get?_push_of_some _ hS), Come.zero qs⟩
        case hR =>
          intro s' L es ep t mv T' g' kp
          obtain ⟨h', g2, d', tk', os'⟩ := s'
          obtain rfl : g2 = s.gens := mv.gens
          obtain rfl : d' = s.drawn := mv.drawn
          obtain rfl : os' = s.os := mv.os
          show wpAny _ _ _ _ _ _
          refine wpAny_pure ?_
          show wpAny _ _ (ret Value.none) _ _ _
          rw [isz] at g'
          exact wpAny_pure ⟨rfl, h', tk', L, es, ep, t, rfl, T', g', kp⟩
      · cases r₂ with
        | error e => exact hr₂
        | ok fl₂ =>
          cases fl₂ with
          | ret r =>
            obtain ⟨rfl, h', tk, L, es, ep, t, rfl, T', g', k'⟩ := hr₂
            repeat (any_goals (first | assumption | wp_step))
            exact fin _ _ _ _ _ _ T' g' k'
          | _ => exact hr₂.elim
    | _ => exact hr.elim
end
end GSet

set_option Elab.async false
set_option linter.all false
set_option maxRecDepth 100000
set_option maxHeartbeats 4000000
/-! sets of pairs of texts: sorted, and rules of the layer -/
namespace GSet
open PySem PySem.Spec PyProof.Rows L2

/-- a pair of texts -/
abbrev PT2 := Str × Str
/-- by the first, then by the second -/
def ltS (p q : PT2) : Bool := if p.1 = q.1 then decide (p.2.cps.toList < q.2.cps.toList) else decide (p.1.cps.toList < q.1.cps.toList)
theorem nat_lt_irrefl : ∀ l : List Nat, ¬ l < l := fun l h => List.lt_irrefl l h
theorem nat_lt_asym {l m : List Nat} (h : l < m) : ¬ m < l := fun k => List.lt_irrefl l (List.lt_trans h k)
theorem nat_lt_trans {l m n : List Nat} (h : l < m) (k : m < n) : l < n := List.lt_trans h k
theorem nat_eq_of {l m : List Nat} (h : ¬ l < m) (k : ¬ m < l) : l = m := List.le_antisymm (List.not_lt.mp k) (List.not_lt.mp h)
theorem str_eq_of {x y : Str} (h : ¬ x.cps.toList < y.cps.toList) (k : ¬ y.cps.toList < x.cps.toList) : x = y := by
  have e := nat_eq_of h k
  cases x; cases y
  simp only at e
  congr
  exact Array.toList_inj.mp e
def LtS (p q : PT2) : Prop := p.1.cps.toList < q.1.cps.toList ∨ (p.1 = q.1 ∧ p.2.cps.toList < q.2.cps.toList)
theorem ltS_iff {p q : PT2} : ltS p q = true ↔ LtS p q := by
  unfold ltS LtS
  by_cases e : p.1 = q.1
  · rw [if_pos e, decide_eq_true_eq]
    refine ⟨fun h => .inr ⟨e, h⟩, fun h => ?_⟩
    rcases h with h | h
    · rw [e] at h; exact absurd h (nat_lt_irrefl _)
    · exact h.2
  · rw [if_neg e, decide_eq_true_eq]
    refine ⟨.inl, fun h => ?_⟩
    rcases h with h | h
    · exact h
    · exact absurd h.1 e
theorem ltS_no {p q : PT2} : ltS p q = false ↔ ¬ LtS p q := by
  rw [← ltS_iff]
  cases ltS p q <;> simp
theorem LtS.irrefl (p : PT2) : ¬ LtS p p := fun h => by
  rcases h with h | h
  · exact nat_lt_irrefl _ h
  · exact nat_lt_irrefl _ h.2
theorem LtS.trans {p q r : PT2} (h : LtS p q) (k : LtS q r) : LtS p r := by
  rcases h with h | ⟨h1, h2⟩
  · rcases k with k | ⟨k1, k2⟩
    · exact .inl (nat_lt_trans h k)
    · exact .inl (by rw [← k1]; exact h)
  · rcases k with k | ⟨k1, k2⟩
    · exact .inl (by rw [h1]; exact k)
    · exact .inr ⟨h1.trans k1, nat_lt_trans h2 k2⟩
theorem LtS.asym {p q : PT2} (h : LtS p q) : ¬ LtS q p := fun k => LtS.irrefl p (h.trans k)
theorem LtS.eq {p q : PT2} (h : ¬ LtS p q) (k : ¬ LtS q p) : p = q := by
  have e1 : p.1 = q.1 := str_eq_of (fun z => h (.inl z)) fun z => k (.inl z)
  have e2 : p.2 = q.2 := str_eq_of (fun z => h (.inr ⟨e1, z⟩)) fun z => k (.inr ⟨e1.symm, z⟩)
  exact Prod.ext e1 e2
theorem LtS.tot {p q : PT2} (h : ¬ LtS p q) (n : p ≠ q) : LtS q p := Classical.byContradiction fun k => n (LtS.eq h k)
theorem swoS (k : Value → PT2) : SrtO.Swo fun v u => ltS (k v) (k u) := by
  refine ⟨fun x y h => ltS_no.mpr (LtS.asym (ltS_iff.mp h)), fun x y z h1 h2 => ltS_no.mpr fun h => ?_⟩
  have a := ltS_no.mp h1
  have b := ltS_no.mp h2
  by_cases e : k x = k y
  · rw [e] at h; exact b h
  · exact b (h.trans (LtS.tot a (fun z => e z.symm)))

section
variable {prog : Program} {w : World} {A : Around} {E : Value → Shared → Prop} {s : Shared}
/-- a pair of texts at a value -/
def IsPS (h : Heap) (v : Value) (p : PT2) : Prop := ∃ a o t u n, v = .ref a ∧ h.get? a = some o ∧ o.cls = .type "tuple" ∧ o.data = .seq #[.str p.1 t, .str p.2 u] n
theorem IsPS.keeps {h h' : Heap} {v : Value} {p : PT2} (x : IsPS h v p) (k : ∀ b o, h.get? b = some o → o.cls = .type "tuple" → h'.get? b = some o) : IsPS h' v p := by
  obtain ⟨a, o, t, u, n, e, ho, hc, hd⟩ := x
  exact ⟨a, o, t, u, n, e, k _ _ ho hc, hc, hd⟩
theorem IsPS.inj {h : Heap} {v : Value} {p q : PT2} (x : IsPS h v p) (y : IsPS h v q) : p = q := by
  obtain ⟨a, o, t, u, n, e, ho, hc, hd⟩ := x
  obtain ⟨a', o', t', u', n', e', ho', hc', hd'⟩ := y
  obtain rfl : a = a' := Value.ref.inj (e.symm.trans e')
  obtain rfl : o = o' := Option.some.inj (ho.symm.trans ho')
  rw [hd] at hd'
  simp only [Data.seq.injEq, Array.mk.injEq, List.cons.injEq, Value.str.injEq, and_true] at hd'
  exact Prod.ext hd'.1.1.1 hd'.1.2.1
theorem psFirsts {h : Heap} : ∀ {vs : List Value}, (∀ v ∈ vs, ∃ p, IsPS h v p) → ∃ fs : List Value, PySem.W.KatTups h vs fs ∧ fs.length = vs.length ∧ ∀ f ∈ fs, ∃ x t, f = Value.str x t
  | [], _ => ⟨[], PySem.W.KatTups.nil, rfl, fun _ hm => by simp at hm⟩
  | v :: vs, hp => by
    obtain ⟨fs, h1, h2, h3⟩ := psFirsts (vs := vs) fun v' hm => hp v' (List.mem_cons_of_mem _ hm)
    obtain ⟨p, a, o, t, u, n, e, ho, hc, hd⟩ := hp v List.mem_cons_self
    subst e
    refine ⟨.str p.1 t :: fs, PySem.W.KatTups.cons ho hc hd rfl h1, by rw [List.length_cons, List.length_cons, h2], fun f hm => ?_⟩
    rcases List.mem_cons.mp hm with rfl | hm
    · exact ⟨p.1, t, rfl⟩
    · exact h3 f hm
theorem psCmp {vs : List Value} {k : Value → PT2} (hp : ∀ v ∈ vs, IsPS s.heap v (k v)) : SrtO.Cmp prog w A s (tuples' true) (fun p => p.1 ∈ vs) (SrtO.lt2 fun v u => ltS (k v) (k u)) := by
  intro p q hm hm'
  have h1 := hp _ hm
  have h2 := hp _ hm'
  show wpAny (model prog w) A (keyLt' (tuples' true) p.1 q.1) (fun r s' => s' = s ∧ r = ltS (k p.1) (k q.1)) (fun _ _ => False) s
  generalize k p.1 = x at h1 ⊢
  generalize k q.1 = y at h2 ⊢
  obtain ⟨x1, x2⟩ := x
  obtain ⟨y1, y2⟩ := y
  obtain ⟨a, o, t, u, n, e, ho, hc, hd⟩ := h1
  obtain ⟨a', o', t', u', n', e', ho', hc', hd'⟩ := h2
  rw [e, e']
  refine PySem.W.kat_lt ho hd ho' hd' ?_
  show PySem.W.KatLex prog w A true (decide (2 < 2)) _ [(.str x1 t, .str y1 t'), (.str x2 u, .str y2 u')] 0 s
  refine PySem.W.kat_cons (SeqAt.EqAt.str_str x1 t y1 t' prog w _ _ ?_)
  refine PySem.W.kat_go (fun e1 => ?_) (fun e1 => ?_)
  · have ex : x1 = y1 := by simpa using e1
    refine PySem.W.kat_yes (PySem.W.kat_cons (SeqAt.EqAt.str_str x2 u y2 u' prog w _ _ ?_))
    refine PySem.W.kat_go (fun e2 => ?_) (fun e2 => ?_)
    · have ey : x2 = y2 := by simpa using e2
      have e3 : ltS (x1, x2) (y1, y2) = false := by
        rw [ltS_no, ex, ey]
        exact LtS.irrefl _
      exact PySem.W.kat_yes (PySem.W.kat_nil ⟨rfl, e3.symm⟩)
    · have e3 : ltS (x1, x2) (y1, y2) = decide (x2.cps.toList < y2.cps.toList) := if_pos ex
      refine PySem.W.kat_no (PySem.W.kat_one _ _ ?_)
      exact lt_str (show s = s ∧ decide (x2.cps.toList < y2.cps.toList) = ltS (x1, x2) (y1, y2) from ⟨rfl, e3.symm⟩)
  · have ex : ¬ x1 = y1 := by simpa using e1
    have e3 : ltS (x1, x2) (y1, y2) = decide (x1.cps.toList < y1.cps.toList) := if_neg ex
    exact PySem.W.kat_no (oneLt_str ⟨rfl, e3.symm⟩)
theorem psSortable {a : Addr} {vs : List Value} {k : Value → PT2} (h0 : 0 < vs.length) (hp : ∀ v ∈ vs, IsPS s.heap v (k v)) (ha : ∀ o, s.heap.get? a = some o → o.cls ≠ .type "tuple") : SrtO.SortableO prog w A s a vs fun v u => ltS (k v) (k u) := by
  intro h' keep
  have hp' : ∀ v ∈ vs, IsPS h' v (k v) := fun v hm => (hp v hm).keeps fun b o e c => keep b o (fun z => by subst z; exact ha o e c) e
  obtain ⟨fs, h1, h2, h3⟩ := psFirsts fun v hm => ⟨_, hp' v hm⟩
  refine ⟨tuples' true, fun Q E hq => ?_, psCmp hp'⟩
  refine PySem.W.kat_kind (T := .type "str") h1 (by omega) (fun f hm => ?_) (by rfl) ?_
  · obtain ⟨x, t, rfl⟩ := h3 f hm
    exact PySem.W.Looks.now
  · have e : (Value.type "str" != Value.type "tuple") = true := by first | decide +kernel | rfl | decide
    rw [e]
    exact hq

/-- the pairs of texts of a table -/
abbrev PR := Addr × PT2
def key2 (p : PT2) : Ks := [.inr p.1, .inr p.2]
def row2 (r : PR) : Row := (r.1, key2 r.2)
theorem key2_inj {p q : PT2} (h : key2 p = key2 q) : p = q := by
  unfold key2 at h
  simp only [List.cons.injEq, Sum.inr.injEq, and_true] at h
  exact Prod.ext h.1 h.2
theorem items_two {q : PT2} {us : List Value} (h : ItemsAre (mixKind prog w) (key2 q) us) : ∃ t u, us = [.str q.1 t, .str q.2 u] := by
  cases h with
  | cons e1 r1 => cases r1 with
    | cons e2 r2 => cases r2 with
      | nil =>
        rcases keyIs_shape (k := .inr q.1) e1 with ⟨i, t, z, _⟩ | ⟨x, t, z, e3⟩
        · cases z
        · cases z
          rcases keyIs_shape (k := .inr q.2) e2 with ⟨i, u, z, _⟩ | ⟨y, u, z, e4⟩
          · cases z
          · cases z
            exact ⟨t, u, by rw [e3, e4]⟩
theorem tat_ps {g : Heap} {q : PT2} {d : Addr} (x : TAt prog w g (key2 q) d) : IsPS g (.ref d) q := by
  obtain ⟨o, its, n, a1, a2, a3, a4⟩ := x
  obtain ⟨t, u, e⟩ := items_two a4
  refine ⟨d, o, t, u, n, rfl, a1, a2, ?_⟩
  rw [a3]
  congr
  exact Array.toList_inj.mp e
/-- sorted(a) -/
theorem sorted_set2 {a : Addr} {L : List PR} {es : Array (Int × Value)} {ep : Nat} {t : SetTable} {Q : Value → Shared → Prop} (R : TabAt prog w s.heap a (L.map row2) es ep t) (hh : A.handled = none)
    (hQ : ∀ s' p (out : Array Value) (c : Nat) (L' : List PR), (∀ b o, s.heap.get? b = some o → s'.heap.get? b = some o) → s'.gens = s.gens → s'.os = s.os → s.heap.objs.size ≤ p →
      s'.heap.get? p = some (seqObj "list" out c) → out.toList = L'.map (fun q => Value.ref q.1) → L'.Perm L → L'.Pairwise (fun q r => LtS q.2 r.2) → Q (.ref p) s') :
    wpAny (model prog w) A (call (.builtin "sorted") [.ref a]) Q E s := by
  obtain ⟨o, ho, hex, hd⟩ := R.ob
  have hsz := R.size
  have hfew := R.few
  rw [List.length_map] at hfew hsz
  have hsb : es.size < scanBound := by unfold scanBound; omega
  refine Calls.call_function_entry kind_sorted plain_sorted entry_sorted (args_sorted1 _) ?_
  unfold Builtin.«sorted»
  refine wpAny_bind (m := checkCount "sorted" 1 1 _) (wpAny_pure ?_)
  refine wpAny_bind (collect_set (A := A.in1) hh ⟨o, ho, hex.1, hd⟩ R.fits hsb R.tab.ris R.led fun s1 vs k1 hz g1 o1 pm => ?_)
  have hes : es.toList.map (·.2) = L.map fun q => Value.ref q.1 := by
    rw [R.rw_, rows, List.map_map, List.map_map] <;> rfl
  rw [hes] at pm
  have tL : ∀ q ∈ L, TAt prog w s.heap (key2 q.2) q.1 := fun q hq => R.tup (row2 q) (List.mem_map.mpr ⟨q, hq, rfl⟩)
  have ndk : (L.map (·.2)).Nodup := by
    have z := R.nd
    rw [List.map_map] at z
    refine List.pairwise_map.mpr ((List.pairwise_map.mp z).imp fun {a b} h e => h ?_)
    show key2 a.2 = key2 b.2
    rw [e]
  have nL : L.Nodup := (List.pairwise_map.mp ndk).imp fun {a b} h e => h (by rw [e])
  have ord : ∀ vs : List Value, (∀ v ∈ vs, ∃ q ∈ L, v = Value.ref q.1) → ∃ L1 : List PR, vs = L1.map (fun q => Value.ref q.1) ∧ ∀ q ∈ L1, q ∈ L := by
    intro vs
    induction vs with
    | nil => intro _; exact ⟨[], rfl, fun q hq => (by cases hq)⟩
    | cons v vs ih =>
      intro hv
      obtain ⟨q, hq, e⟩ := hv v List.mem_cons_self
      obtain ⟨L1, e1, hs⟩ := ih fun u hu => hv u (List.mem_cons_of_mem _ hu)
      refine ⟨q :: L1, by rw [List.map_cons, e, e1], fun r hr => ?_⟩
      rcases List.mem_cons.mp hr with z | z
      · rw [z]; exact hq
      · exact hs r z
  have one : ∀ q ∈ L, ∀ r ∈ L, q.1 = r.1 → q = r := fun q hq r hr e => by
    have a1 := tat_ps (tL q hq)
    have a2 := tat_ps (tL r hr)
    rw [e] at a1
    exact Prod.ext e (a1.inj a2)
  have perm_of : ∀ L1 : List PR, (∀ q ∈ L1, q ∈ L) → (L1.map (fun q => Value.ref q.1)).Perm (L.map fun q => Value.ref q.1) → L1.Perm L := by
    intro L1 hs pm1
    have nref : (L.map fun q => Value.ref q.1).Nodup := by
      refine List.pairwise_map.mpr (List.Pairwise.imp_of_mem (fun {q r} hq hr hne e => ?_) nL)
      injection e with e
      exact hne (one q hq r hr e)
    have n0 := pm1.nodup_iff.mpr nref
    have n1 : L1.Nodup := (List.pairwise_map.mp n0).imp fun {a b} h e => h (by rw [e])
    refine (List.perm_ext_iff_of_nodup n1 nL).mpr fun q => ⟨hs q, fun hq => ?_⟩
    have hm : Value.ref q.1 ∈ L1.map (fun q => Value.ref q.1) := pm1.mem_iff.mpr (List.mem_map.mpr ⟨q, hq, rfl⟩)
    obtain ⟨r, hr, e⟩ := List.mem_map.mp hm
    injection e with e
    rw [← one r (hs r hr) q hq e]
    exact hr
  have hvl : vs.length < 64 := by rw [pm.length_eq, List.length_map]; exact hfew
  have hvz : vs.length ≤ sizeLine := by rw [sizeLine_eq]; omega
  refine wpAny_bind (wpAny_newList ?_ hvz)
  have hoL : (s1.heap.push (seqObj "list" vs.toArray 0)).get? s1.heap.objs.size = some (seqObj "list" vs.toArray 0) := Heap.get?_push_size _ rfl
  have tk : ∀ q ∈ L, IsPS (s1.heap.push (seqObj "list" vs.toArray 0)) (.ref q.1) q.2 := fun q hq => (tat_ps (tL q hq)).keeps fun b u e _ => Heap.get?_push_of_some _ (k1 b u e)
  -- the pair of a value
  have kx : ∃ k : Value → PT2, ∀ q ∈ L, k (.ref q.1) = q.2 := by
    classical
    refine ⟨fun v => if h : ∃ p, IsPS (s1.heap.push (seqObj "list" vs.toArray 0)) v p then h.choose else ("", ""), fun q hq => ?_⟩
    have h : ∃ p, IsPS (s1.heap.push (seqObj "list" vs.toArray 0)) (.ref q.1) p := ⟨_, tk q hq⟩
    show dite _ _ _ = _
    rw [dif_pos h]
    exact h.choose_spec.inj (tk q hq)
  obtain ⟨k, kh⟩ := kx
  have hp : ∀ v ∈ vs, IsPS (s1.heap.push (seqObj "list" vs.toArray 0)) v (k v) := fun v hv => by
    obtain ⟨q, hq, e⟩ := List.mem_map.mp (pm.mem_iff.mp hv)
    rw [← e, kh q hq]
    exact tk q hq
  refine wpAny_bind (wpAny_holding (wpAny_call_entry slot_list_sort ⟨_, hoL, rfl⟩ entry_list_sort (SrtO.list_sort_ord (s := { s1 with heap := s1.heap.push (seqObj "list" vs.toArray 0) }) (swoS k) hoL hvz
    (fun h2 => psSortable (by omega) hp fun o e => ?_) fun out hs hb => ⟨_, rfl, ?_⟩) (args_list_sort _)))
  · have e' : some o = some (seqObj "list" vs.toArray 0) := e.symm.trans hoL
    cases e'
    intro c
    exact absurd (Value.type.inj c) (by decide)
  obtain ⟨c, hc⟩ := sortedHeap_at (vs := vs) (out := out.toArray) hoL
  obtain ⟨L', e', hs'⟩ := ord out fun v hv => by
    obtain ⟨q, hq, e⟩ := List.mem_map.mp (pm.mem_iff.mp (hb.perm.mem_iff.mp hv))
    exact ⟨q, hq, e.symm⟩
  have pL : L'.Perm L := perm_of L' hs' (by rw [← e']; exact hb.perm.trans pm)
  have nL' : (L'.map (·.2)).Nodup := (pL.map (·.2)).nodup_iff.mpr ndk
  have pw : L'.Pairwise (fun q r => LtS q.2 r.2) := by
    rw [e'] at hs
    have z := List.pairwise_map.mp hs
    have z2 := List.pairwise_map.mp nL'
    refine List.Pairwise.imp_of_mem (fun {q r} hq hr hle => ?_) (List.pairwise_and_iff.mpr ⟨z, z2⟩)
    obtain ⟨h1, h2⟩ := hle
    have h3 : ltS (k (.ref r.1)) (k (.ref q.1)) = false := h1
    rw [kh q (hs' q hq), kh r (hs' r hr)] at h3
    exact LtS.tot (ltS_no.mp h3) (fun e => h2 e.symm)
  refine wpAny_pure ⟨_, rfl, hQ _ s1.heap.objs.size out.toArray c L' (fun b u e => ?_) g1 o1 hz hc (by rw [← e']) pL pw⟩
  have q := k1 b u e
  have hlt := Heap.lt_size q
  show (sortedHeap (s1.heap.push (seqObj "list" vs.toArray 0)) s1.heap.objs.size vs out.toArray).get? b = some u
  rw [sortedHeap_old (Nat.ne_of_lt hlt) (by rw [size_push']; exact Nat.lt_succ_of_lt hlt)]
  exact Heap.get?_push_of_some _ q
end
end GSet

set_option Elab.async false
set_option linter.all false
set_option maxRecDepth 100000
set_option maxHeartbeats 4000000
/-! sets of pairs of texts: rules of the layer -/
namespace GSet
open PySem PySem.Spec PyProof.Rows L2

structure Tab0 (P : Program) (w : World) (h : Heap) (a : Addr) (R : List Row) : Prop where
  ex : ∃ (es : Array (Int × Value)) (ep : Nat) (t : SetTable), (∃ o, h.get? a = some o ∧ o.ExactSet ∧ o.data = .set es ep t) ∧ es.toList = rows P w R ∧ TabOk t (hs P w R) ∧ (R.map (·.2)).Nodup ∧
    (w.params.followText "set-order" = true ∨ t.led = true) ∧ R.length * 5 < t.mask * 3 ∧ R.length < 64
def SetO (P : Program) (w : World) (a : Addr) (R : List Row) : HO := .ext fun h => Tab0 P w h a R
theorem TabAt.t0 {P : Program} {w : World} {h : Heap} {a : Addr} {R : List Row} {es : Array (Int × Value)} {ep : Nat} {t : SetTable} (T : TabAt P w h a R es ep t) : Tab0 P w h a R := ⟨es, ep, t, T.ob, T.rw_, T.tab, T.nd, T.led, T.room, T.few⟩
theorem Tab0.full {P : Program} {w : World} {h : Heap} {a : Addr} {R : List Row} (T : Tab0 P w h a R) (ht : ∀ p ∈ R, TAt P w h p.2 p.1) : ∃ es ep t, TabAt P w h a R es ep t := by
  obtain ⟨es, ep, t, h1, h2, h3, h4, h6, h7, h8⟩ := T.ex
  exact ⟨es, ep, t, h1, h2, h3, h4, ht, h6, h7, h8⟩
theorem setO_new {P : Program} {w : World} {H : Hp} {h : Heap} {a : Addr} {R : List Row} (T : Tab0 P w h a R) : ObjOk P w H h a (SetO P w a R) := by
  have ⟨es, ep, t, ⟨o, ho, r⟩, q⟩ := T.ex
  refine ⟨T, ⟨o, ho⟩, fun h1 h2 p k => ?_⟩
  have ⟨es', ep', t', ⟨o', ho', r'⟩, q'⟩ := Tab0.ex p
  exact ⟨es', ep', t', ⟨o', k o' ho', r'⟩, q'⟩
theorem refs2 : ∀ {ks : List PR} {us : List Value}, Vals (ks.map fun p => V.ref p.1) us → us = ks.map fun p => Value.ref p.1
  | [], _, .nil => rfl
  | p :: ks, _, .cons r t => by
    cases r
    rw [refs2 t] <;> rfl
theorem vals2_ : ∀ (ks : List PR), Vals (ks.map fun p => V.ref p.1) (ks.map fun p => Value.ref p.1)
  | [] => .nil
  | p :: ks => .cons rfl (vals2_ ks)
section
variable {X : Cx}
theorem tat_inv {pins : List (Addr × Obj)} {σ : L2.St} {H : Hp} {s : Shared} {b : Addr} {p : PT2} (I : Inv X pins σ H s) (h : SqT X.K H b [.str p.1, .str p.2]) : TAt X.prog X.w s.heap (key2 p) b := by
  obtain ⟨its, r, ⟨o, ho, hc, n, hd⟩, _⟩ := I.tuple h
  refine ⟨o, its.toArray, n, ho, hc, hd, ?_⟩
  rw [List.toList_toArray]
  obtain ⟨u, v, rfl, ⟨t1, rfl⟩, ⟨t2, rfl⟩⟩ := vals2 r
  exact .cons (keyIs_str p.1 t1) (.cons (keyIs_str p.2 t2) .nil)
/-- set(x), x a list or a tuple of pairs of texts -/
def rSet2 (K : PySem.W.Frag) (P : Program) (w : World) : List V → Hp → VK → Prop := fun xs H Q => ∃ (l : Addr) (ks : List PR), xs = [V.ref l] ∧ (SqL K H l (ks.map fun p => V.ref p.1) ∨ SqT K H l (ks.map fun p => V.ref p.1)) ∧
  (∀ p ∈ ks, SqT K H p.1 [.str p.2.1, .str p.2.2]) ∧ ks.length < 64 ∧
  ∀ a (L : List PR), H a = none → (∀ p ∈ L, p ∈ ks) → (∀ p ∈ ks, p.2 ∈ L.map (·.2)) → Q (.ref a) (upd H a (SetO P w a (L.map row2)))
theorem back2 {ks : List PR} : ∀ {L : List Row}, (∀ r ∈ L, r ∈ ks.map row2) → ∃ L2 : List PR, L = L2.map row2 ∧ ∀ p ∈ L2, p ∈ ks
  | [], _ => ⟨[], rfl, fun _ h => nomatch h⟩
  | r :: L, h => by
    obtain ⟨L2, e, k⟩ := back2 (L := L) fun x m => h x (List.mem_cons_of_mem _ m)
    obtain ⟨p, hp, e2⟩ := List.mem_map.mp (h r List.mem_cons_self)
    refine ⟨p :: L2, by rw [List.map_cons, ← e, e2], fun q hq => ?_⟩
    rcases List.mem_cons.mp hq with z | z
    · rw [z]; exact hp
    · exact k q z
theorem cr_set2 (hc : X.calm = true) (hu : X.A.units + 64 < cLine) : CallR X (.type "set") (rSet2 X.K X.prog X.w) := by
  intro pins s σ H xs us Q I r h
  obtain ⟨l, ks, rfl, hl, hk, hf, q⟩ := h
  rw [Vals.ref1 r]
  have hn : H s.heap.objs.size = none := I.hok.fresh (Nat.le_refl _)
  have hq : ∀ r ∈ ks.map row2, TAt X.prog X.w s.heap r.2 r.1 := fun r hr => by
    obtain ⟨p, hp, rfl⟩ := List.mem_map.mp hr
    exact tat_inv I (hk p hp)
  have hlen : (ks.map row2).length < 64 := by rw [List.length_map]; exact hf
  have fin : ∀ (h' : Heap) (tk : Nat) L es ep t, TabAt X.prog X.w h' s.heap.objs.size L es ep t → Come (ks.map row2) (ks.map row2).length L → (∀ b o, s.heap.get? b = some o → h'.get? b = some o) →
      EP X pins σ Q (.ref s.heap.objs.size) { s with heap := h', toks := tk } := fun h' tk L es ep t R g k => by
    obtain ⟨L2, rfl, hs⟩ := back2 (ks := ks) fun r hr => by
      have z := g.sub r hr
      rw [List.take_length] at z
      exact z
    refine ⟨.ref s.heap.objs.size, upd H s.heap.objs.size (SetO X.prog X.w s.heap.objs.size (L2.map row2)), I.laid (t' := tk) k (Nat.le_refl _) (setO_new R.t0), rfl, q _ L2 hn hs fun p hp => ?_⟩
    have z := g.all (row2 p) (by rw [List.take_length]; exact List.mem_map.mpr ⟨p, hp, rfl⟩)
    rw [List.map_map] at z
    obtain ⟨p2, h2, e2⟩ := List.mem_map.mp z
    exact List.mem_map.mpr ⟨p2, h2, key2_inj e2⟩
  rcases hl with hl | hl
  · obtain ⟨its, rv, pl, hz⟩ := I.list hl
    exact set_list (P := X.prog) (w := X.w) (ks.map row2) (I.ok.hd hc) pl.isList (by rw [List.toList_toArray, refs2 rv, List.map_map] <;> rfl) hq hlen (by omega) fin
  · obtain ⟨its, rv, pl, hz⟩ := I.tuple hl
    exact set_tuple (P := X.prog) (w := X.w) (ks.map row2) (I.ok.hd hc) pl (by rw [List.toList_toArray, refs2 rv, List.map_map] <;> rfl) hq hlen (by omega) fin
/-- sorted(a), a such a set -/
def rSorted2 (K : PySem.W.Frag) (P : Program) (w : World) : List V → Hp → VK → Prop := fun vs H Q => ∃ (a : Addr) (L : List PR), vs = [V.ref a] ∧ H a = some (SetO P w a (L.map row2)) ∧ (∀ p ∈ L, SqT K H p.1 [.str p.2.1, .str p.2.2]) ∧
  ∀ (L' : List PR) (p : Addr), L'.Perm L → L'.length < 64 → L'.Pairwise (fun q r => LtS q.2 r.2) → H p = none → Q (.ref p) (upd H p (.lst (L'.map fun q => V.ref q.1)))
theorem cr_sorted2 (hc : X.calm = true) : CallR X (.builtin "sorted") (rSorted2 X.K X.prog X.w) := by
  intro pins s σ H vs us Q I r h
  obtain ⟨a, L, rfl, ha, hk, q⟩ := h
  have R0 : Tab0 X.prog X.w s.heap a (L.map row2) := (I.hok a _ ha).1
  obtain ⟨es, ep, t, R⟩ := R0.full fun r hr => by
    obtain ⟨p, hp, rfl⟩ := List.mem_map.mp hr
    exact tat_inv I (hk p hp)
  rw [Vals.ref1 r]
  refine sorted_set2 R (I.ok.hd hc) fun s' p out c L' k g o hp hg hout pm pw => ?_
  have hfew : L'.length < 64 := by
    have z := R.few
    rw [List.length_map] at z
    rw [pm.length_eq]; exact z
  have hlen : (L'.map fun q => V.ref q.1).length ≤ sizeLine := by rw [List.length_map, sizeLine_eq]; omega
  have hn : H p = none := I.hok.fresh hp
  have hv : Vals (L'.map fun q => V.ref q.1) out.toList := by rw [hout]; exact vals2_ L'
  have J : Inv X pins σ (upd H p (.lst (L'.map fun q => V.ref q.1))) { s with heap := s'.heap, gens := s'.gens, drawn := s'.drawn, toks := s'.toks } :=
    I.call (ch := []) (Un.laid k hp hn) (I.hok.laid k hp ⟨hlen, out.toList, c, hv, hg⟩) (by rw [g]; exact I.bare) (fun _ z => nomatch z)
  have e : s' = { s with heap := s'.heap, gens := s'.gens, drawn := s'.drawn, toks := s'.toks } := by
    cases s'
    cases s
    cases o
    rfl
  rw [e]
  exact ⟨.ref p, _, J, rfl, q L' p pm hfew pw hn⟩
end
end GSet

set_option Elab.async false
set_option linter.all false
set_option maxRecDepth 100000
set_option maxHeartbeats 2000000
/-! readings as functions of the abstract heap, for simp -/
namespace G3
open PySem PySem.Spec PyProof.Rows L2

/-! ### heaps -/
/-- what is read at p: an object, also one that is locked -/
def ct (H : Hp) (p : Addr) : Option HO := match H p with
  | some (.frz _ u) => some u
  | x => x
theorem ct_of {H : Hp} {p : Addr} {o : HO} (h : H p = some o) (hf : ∀ a b, o ≠ .frz a b) : ct H p = some o := by
  unfold ct
  rw [h]
  cases o <;> first | rfl | exact absurd rfl (hf _ _)
theorem ct_rd {H : Hp} {p : Addr} {o : HO} (h : ct H p = some o) : Rd H p o := by
  unfold ct at h
  cases e : H p with
  | none => rw [e] at h; cases h
  | some x =>
    rw [e] at h
    cases x with
    | frz a u => exact .inr ⟨a, by rw [e, Option.some.inj h]⟩
    | _ => exact .inl (by rw [e]; exact h)
theorem ct_lst {K : PySem.W.Frag} {H : Hp} {p : Addr} {xs : List V} (h : ct H p = some (.lst xs)) : SqL K H p xs := .inl (ct_rd h)
theorem ct_tup {K : PySem.W.Frag} {H : Hp} {p : Addr} {xs : List V} (h : ct H p = some (.tup xs)) : SqT K H p xs := .inl (ct_rd h)

/-- all but L as it was; tuples never change -/
structure Ex (L : List Addr) (H H' : Hp) : Prop where
  keep : ∀ a, a ∉ L → H a ≠ none → H' a = H a
  tup : ∀ a xs, H a = some (.tup xs) → H' a = some (.tup xs)
  frz : ∀ a o u, H a = some (.frz o u) → H' a = some (.frz o u)
theorem Ex.refl (L : List Addr) (H : Hp) : Ex L H H := ⟨fun _ _ _ => rfl, fun _ _ h => h, fun _ _ _ h => h⟩
theorem Ex.trans {L : List Addr} {H H1 H2 : Hp} (a : Ex L H H1) (b : Ex L H1 H2) : Ex L H H2 :=
  ⟨fun p h n => by
    have e := a.keep p h n
    rw [b.keep p h (by rw [e]; exact n), e], fun p xs h => b.tup p xs (a.tup p xs h), fun p o u h => b.frz p o u (a.frz p o u h)⟩
theorem Ex.sub {L L' : List Addr} {H H' : Hp} (a : Ex L H H') (h : ∀ p ∈ L, p ∈ L') : Ex L' H H' := ⟨fun p n => a.keep p fun z => n (h p z), a.tup, a.frz⟩
theorem Ex.at {L : List Addr} {H H' : Hp} (a : Ex L H H') {p : Addr} {o : HO} (h : H p = some o) (n : p ∉ L) : H' p = some o := by rw [a.keep p n (by rw [h]; simp), h]
theorem Ex.at0 {H H' : Hp} (a : Ex [] H H') {p : Addr} {o : HO} (h : H p = some o) : H' p = some o := a.at h (by simp)
/-- what was not there is not in the way: the addresses of L that are new are dropped -/
theorem Ex.drop {L M : List Addr} {H H' : Hp} (a : Ex (L ++ M) H H') (h : ∀ p ∈ M, H p = none) : Ex L H H' :=
  ⟨fun p n e => a.keep p (fun z => (List.mem_append.mp z).elim n fun y => e (h p y)) e, a.tup, a.frz⟩
theorem Ex.new {L : List Addr} {H : Hp} {p : Addr} {o : HO} (h : H p = none) : Ex L H (upd H p o) :=
  ⟨fun a _ e => upd_ne fun z => e (by rw [z]; exact h), fun a xs e => by rw [upd_ne (ne_of_none e h)]; exact e, fun a x u e => by rw [upd_ne (ne_of_none e h)]; exact e⟩
theorem Ex.set {L : List Addr} {H : Hp} {p : Addr} {o : HO} (h : p ∈ L) (ht : ∀ xs, H p ≠ some (.tup xs)) (hf : ∀ x u, H p ≠ some (.frz x u)) : Ex L H (upd H p o) :=
  ⟨fun a n _ => upd_ne fun z => n (by rw [z]; exact h), fun a xs e => by rw [upd_ne fun z => ht xs (by rw [← z]; exact e)]; exact e, fun a x u e => by rw [upd_ne fun z => hf x u (by rw [← z]; exact e)]; exact e⟩
theorem Ex.free {L : List Addr} {H H' : Hp} (a : Ex L H H') {p : Addr} (h : H' p = none) (n : p ∉ L) : H p = none := by
  cases e : H p with
  | none => rfl
  | some o => rw [a.at e n] at h; cases h
/-- the same list as an old one -/
theorem Ex.ne {H : Hp} {p a : Addr} {o : HO} (h : H p = none) (e : H a = some o) : p ≠ a := fun z => by rw [z, e] at h; cases h

/-- a new object -/
def nw (H : Hp) (o : HO) (Q : VK) : Prop := ∀ p H', H p = none → H' p = some o → Ex [] H H' → Q (.ref p) H'
theorem nw.to {H : Hp} {o : HO} {Q : VK} (h : nw H o Q) : ∀ p, H p = none → Q (.ref p) (upd H p o) := fun p hp => h p _ hp upd_same (Ex.new hp)

/-! ### operators -/
/-- a + b -/
def rAddG : R2 := fun x y H Q => match x, y with
  | .int i, .int j => Q (.int (i + j)) H
  | .str a, .str b => a.length + b.length ≤ sizeLine ∧ Q (.str (a ++ b)) H
  | .ref p, .ref q => (match H p, H q with
    | some (.lst xs), some (.lst ys) => xs.length + ys.length ≤ sizeLine ∧ nw H (.lst (xs ++ ys)) Q
    | some (.tup xs), some (.tup ys) => xs.length + ys.length ≤ sizeLine ∧ xs ≠ [] ∧ ((ys = [] → Q (.ref p) H) ∧ (ys ≠ [] → nw H (.tup (xs ++ ys)) Q))
    | _, _ => False)
  | _, _ => False
section
variable {X : Cx}
theorem g_add : OpR X (binaryOp .Add) rAddG := by
  intro pins s σ H x y v u Q I rx ry h
  cases x with
  | int i =>
    cases y with
    | int j => exact op_add pins s σ H _ _ v u Q I rx ry ⟨i, j, rfl, rfl, h⟩
    | _ => exact (show False from h).elim
  | str a =>
    cases y with
    | str b => exact op_add_str pins s σ H _ _ v u Q I rx ry ⟨a, b, rfl, rfl, h.1, h.2⟩
    | _ => exact (show False from h).elim
  | ref p =>
    cases y with
    | ref q =>
      simp only [rAddG] at h
      split at h
      · rename_i xs ys h1 h2
        exact op_cat pins s σ H _ _ v u Q I rx ry ⟨p, q, xs, ys, rfl, rfl, h1, h2, h.1, h.2.to⟩
      · rename_i xs ys h1 h2
        exact op_catT pins s σ H _ _ v u Q I rx ry ⟨p, q, xs, ys, rfl, rfl, SqT.of h1, SqT.of h2, h.2.1, h.1, h.2.2.1, fun e => (h.2.2.2 e).to⟩
      · exact h.elim
    | _ => exact (show False from h).elim
  | _ => exact (show False from h).elim
end
def rSubG : R2 := fun x y H Q => match x, y with
  | .int i, .int j => Q (.int (i - j)) H
  | _, _ => False
def rModG : R2 := fun x y H Q => match x, y with
  | .int i, .int j => 0 < j ∧ Q (.int (i % j)) H
  | _, _ => False
def rDivG : R2 := fun x y H Q => match x, y with
  | .int i, .int j => (0 < j ∧ j < 1073741824) ∧ Q (.int (i / j)) H
  | _, _ => False
def rMulG : R2 := fun x y H Q => match x, y with
  | .int i, .int j => CMul i j ∧ Q (.int (i * j)) H
  | .ref p, .int k => (match H p with
    | some (.lst xs) => (-(2 ^ 63) ≤ k ∧ k < 2 ^ 63 ∧ xs.length * k.toNat ≤ sizeLine) ∧ nw H (.lst (List.replicate k.toNat xs).flatten) Q
    | _ => False)
  | _, _ => False
def rPowG : R2 := fun x y H Q => match x, y with
  | .int i, .int j => CPow i j ∧ Q (.int (i ^ j.toNat)) H
  | _, _ => False
section
variable {X : Cx}
theorem g_sub : OpR X (binaryOp .Sub) rSubG := by
  intro pins s σ H x y v u Q I rx ry h
  cases x <;> cases y <;> first | exact (show False from h).elim | exact op_sub pins s σ H _ _ v u Q I rx ry ⟨_, _, rfl, rfl, h⟩
theorem g_mod : OpR X (binaryOp .Mod) rModG := by
  intro pins s σ H x y v u Q I rx ry h
  cases x <;> cases y <;> first | exact (show False from h).elim | exact op_mod pins s σ H _ _ v u Q I rx ry ⟨_, _, rfl, rfl, h.1, h.2⟩
theorem g_div : OpR X (binaryOp .FloorDiv) rDivG := by
  intro pins s σ H x y v u Q I rx ry h
  cases x <;> cases y <;> first | exact (show False from h).elim | exact op_fdiv pins s σ H _ _ v u Q I rx ry ⟨_, _, rfl, rfl, h.1, h.2⟩
theorem g_pow : OpR X (binaryOp .Pow) rPowG := by
  intro pins s σ H x y v u Q I rx ry h
  cases x <;> cases y <;> first | exact (show False from h).elim | exact op_pow pins s σ H _ _ v u Q I rx ry ⟨_, _, rfl, rfl, h.1, h.2⟩
theorem g_mul : OpR X (binaryOp .Mult) rMulG := by
  intro pins s σ H x y v u Q I rx ry h
  cases x with
  | int i =>
    cases y with
    | int j => exact op_mul pins s σ H _ _ v u Q I rx ry ⟨i, j, rfl, rfl, h.1, h.2⟩
    | _ => exact (show False from h).elim
  | ref p =>
    cases y with
    | int k =>
      simp only [rMulG] at h
      split at h
      · rename_i xs h1
        exact op_rep pins s σ H _ _ v u Q I rx ry ⟨p, k, xs, rfl, rfl, h1, h.1.1, h.1.2.1, h.1.2.2, h.2.to⟩
      · exact h.elim
    | _ => exact (show False from h).elim
  | _ => exact (show False from h).elim
end
/-- < <= > >= of ints (p), of texts (q) -/
def rCmpG (p : Int → Int → Bool) : R2 := fun x y H Q => match x, y with
  | .int i, .int j => Q (.bl (p i j)) H
  | _, _ => False
section
variable {X : Cx}
theorem g_lt : OpR X (compareOp .Lt) (rCmpG fun i j => decide (i < j)) := by
  intro pins s σ H x y v u Q I rx ry h
  cases x <;> cases y <;> first | exact (show False from h).elim | exact op_lt pins s σ H _ _ v u Q I rx ry ⟨_, _, rfl, rfl, h⟩
theorem g_le : OpR X (compareOp .LtE) (rCmpG fun i j => decide (i ≤ j)) := by
  intro pins s σ H x y v u Q I rx ry h
  cases x <;> cases y <;> first | exact (show False from h).elim | exact op_le pins s σ H _ _ v u Q I rx ry ⟨_, _, rfl, rfl, h⟩
theorem g_gt : OpR X (compareOp .Gt) (rCmpG fun i j => decide (j < i)) := by
  intro pins s σ H x y v u Q I rx ry h
  cases x <;> cases y <;> first | exact (show False from h).elim | exact op_gt pins s σ H _ _ v u Q I rx ry ⟨_, _, rfl, rfl, h⟩
theorem g_ge : OpR X (compareOp .GtE) (rCmpG fun i j => decide (j ≤ i)) := by
  intro pins s σ H x y v u Q I rx ry h
  cases x <;> cases y <;> first | exact (show False from h).elim | exact op_ge pins s σ H _ _ v u Q I rx ry ⟨_, _, rfl, rfl, h⟩
end
/-- == of two scalars, by value -/
def eqS : V → V → Bool
  | .int i, .int j => decide (i = j)
  | .str a, .str b => decide (a = b)
  | .bl a, .bl b => decide (a = b)
  | .byt a, .byt b => decide (a = b)
  | .non, .non => true
  | _, _ => false
def rEqG (neg : Bool) : R2 := fun x y H Q => scal x y = true ∧ Q (.bl (if neg then !eqS x y else eqS x y)) H
theorem eqS_of {x y : V} (h : scal x y = true) : eqS x y = decide (x = y) := by
  cases x <;> cases y <;> first | rfl | (simp [eqS]; done) | (simp [scal] at h; done)
section
variable {X : Cx}
theorem g_eq : OpR X (compareOp .Eq) (rEqG false) := by
  intro pins s σ H x y v u Q I rx ry ⟨hs, q⟩
  exact op_eq pins s σ H _ _ v u Q I rx ry ⟨hs, by rw [← eqS_of hs]; exact q⟩
theorem g_ne : OpR X (compareOp .NotEq) (rEqG true) := by
  intro pins s σ H x y v u Q I rx ry ⟨hs, q⟩
  exact op_ne pins s σ H _ _ v u Q I rx ry ⟨hs, by rw [← eqS_of hs]; exact q⟩
end

/-! ### subscripts, len -/
def rIxG : R2 := fun x y H Q => match x, y with
  | .str z, .int i => z.length ≤ sizeLine ∧ ∃ c, atI z.cps.toList i = some c ∧ Q (.str ⟨#[c]⟩) H
  | .ref p, .int i => (match ct H p with
    | some (.lst xs) => ∃ v, atI xs i = some v ∧ Q v H
    | some (.tup xs) => ∃ v, atI xs i = some v ∧ Q v H
    | _ => False)
  | _, _ => False
section
variable {X : Cx}
theorem g_ix : IxR X rIxG := by
  intro value slice pins s σ H x y v u Q I rx ry h hs
  cases x with
  | str z =>
    cases y with
    | int i =>
      obtain ⟨h1, c, h2, h3⟩ := h
      exact ix_str value slice pins s σ H _ _ v u Q I rx ry ⟨z, i, c, rfl, rfl, h1, h2, h3⟩ hs
    | _ => exact (show False from h).elim
  | ref p =>
    cases y with
    | int i =>
      simp only [rIxG] at h
      split at h
      · rename_i xs h1
        obtain ⟨w, h2, h3⟩ := h
        exact ix_list value slice pins s σ H _ _ v u Q I rx ry ⟨p, xs, i, w, rfl, rfl, ct_lst h1, h2, h3⟩ hs
      · rename_i xs h1
        obtain ⟨w, h2, h3⟩ := h
        exact ix_tup value slice pins s σ H _ _ v u Q I rx ry ⟨p, xs, i, w, rfl, rfl, ct_tup h1, h2, h3⟩ hs
      · exact h.elim
    | _ => exact (show False from h).elim
  | _ => exact (show False from h).elim
end
def rLenG : List V → Hp → VK → Prop := fun vs H Q => match vs with
  | [.str z] => z.length ≤ sizeLine ∧ Q (.int z.length) H
  | [.ref p] => (match ct H p with
    | some (.lst xs) => Q (.int xs.length) H
    | some (.tup xs) => Q (.int xs.length) H
    | _ => False)
  | _ => False
section
variable {X : Cx}
theorem g_len : CallR X (.builtin "len") rLenG := by
  intro pins s σ H vs us Q I r h
  match vs, h, r with
  | [.str z], h, r => exact call_len pins s σ H _ us Q I r ⟨.str z, z.length, rfl, ⟨h.1, rfl⟩, h.2⟩
  | [.ref p], h, r =>
    simp only [rLenG] at h
    split at h
    · rename_i xs h1
      exact call_len pins s σ H _ us Q I r ⟨.ref p, xs.length, rfl, .inl ⟨xs, ct_lst h1, rfl⟩, h⟩
    · rename_i xs h1
      exact call_len pins s σ H _ us Q I r ⟨.ref p, xs.length, rfl, .inr ⟨xs, ct_tup h1, rfl⟩, h⟩
    · exact h.elim
end
/-- xs[i] = v -/
def rSetG : V → V → V → Hp → (Hp → Prop) → Prop := fun o i v H Q => match o, i with
  | .ref p, .int k => (match H p with
    | some (.lst xs) => ∃ j, ixN xs.length k = some j ∧ Q (upd H p (.lst (xs.set j v)))
    | _ => False)
  | _, _ => False
section
variable {X : Cx}
theorem g_set : PSet X rSetG := by
  intro pins s σ H o i v ov iv u Q I ro ri rv h
  cases o with
  | ref p =>
    cases i with
    | int k =>
      simp only [rSetG] at h
      split at h
      · rename_i xs h1
        obtain ⟨j, h2, h3⟩ := h
        exact set_list pins s σ H _ _ v ov iv u Q I ro ri rv ⟨p, xs, k, j, rfl, rfl, h1, h2, h3⟩
      · exact h.elim
    | _ => exact (show False from h).elim
  | _ => exact (show False from h).elim
end
/-- list(x), tuple(x) of a list, a tuple, a text's signs -/
def rListG : List V → Hp → VK → Prop := fun vs H Q => match vs with
  | [.ref p] => (match ct H p with
    | some (.lst xs) => nw H (.lst xs) Q
    | some (.tup xs) => nw H (.lst xs) Q
    | _ => False)
  | _ => False
def rTupG : List V → Hp → VK → Prop := fun vs H Q => match vs with
  | [.ref p] => (match ct H p with
    | some (.lst xs) => nw H (.tup xs) Q
    | some (.tup xs) => Q (.ref p) H
    | _ => False)
  | _ => False
section
variable {X : Cx}
theorem g_list : CallR X (.type "list") rListG := by
  intro pins s σ H vs us Q I r h
  match vs, h, r with
  | [.ref p], h, r =>
    simp only [rListG] at h
    split at h
    · rename_i xs h1
      exact call_list_of pins s σ H _ us Q I r ⟨p, xs, rfl, .inl (ct_lst h1), h.to⟩
    · rename_i xs h1
      exact call_list_of pins s σ H _ us Q I r ⟨p, xs, rfl, .inr (ct_tup h1), h.to⟩
    · exact h.elim
theorem g_tuple : CallR X (.type "tuple") rTupG := by
  intro pins s σ H vs us Q I r h
  match vs, h, r with
  | [.ref p], h, r =>
    simp only [rTupG] at h
    split at h
    · rename_i xs h1
      exact call_tuple_of pins s σ H _ us Q I r ⟨p, xs, rfl, .inl ⟨ct_lst h1, h.to⟩⟩
    · rename_i xs h1
      exact call_tuple_of pins s σ H _ us Q I r ⟨p, xs, rfl, .inr ⟨ct_tup h1, h⟩⟩
    · exact h.elim
/-- int(x) -/
def rIntG : List V → Hp → VK → Prop := fun vs H Q => match vs with
  | [.int i] => Q (.int i) H
  | [.bl k] => Q (.int (if k then 1 else 0)) H
  | _ => False
theorem g_int : CallR X (.type "int") rIntG := by
  intro pins s σ H vs us Q I r h
  match vs, h, r with
  | [.int i], h, r => exact call_int1 pins s σ H _ us Q I r (.inl ⟨i, rfl, h⟩)
  | [.bl k], h, r => exact call_int1 pins s σ H _ us Q I r (.inr ⟨k, rfl, h⟩)
def rAbsG : List V → Hp → VK → Prop := fun vs H Q => match vs with
  | [.int i] => Q (.int (if i < 0 then -i else i)) H
  | _ => False
theorem g_abs : CallR X (.builtin "abs") rAbsG := by
  intro pins s σ H vs us Q I r h
  match vs, h, r with
  | [.int i], h, r => exact call_abs pins s σ H _ us Q I r ⟨i, rfl, h⟩
end

/-! ### displays -/
def tTupG (t : TA) : TE := fun σ H Q => t σ H fun xs H1 => xs.length ≤ sizeLine ∧ nw H1 (.tup xs) Q
def tLstG (t : TA) : TE := fun σ H Q => t σ H fun xs H1 => xs.length ≤ sizeLine ∧ nw H1 (.lst xs) Q

/-! ### weakening of readings -/
section
variable {X : Cx}
theorem PE.imp {e : Expr} {t t' : TE} (h : PE X e t) (i : ∀ σ H Q, t' σ H Q → t σ H Q) : PE X e t' := ⟨fun pins s σ H Q I hw => h.run pins s σ H Q I (i σ H Q hw)⟩
theorem PA.mono {es : List Expr} {t : TA} (h : PA X es t) {pos : Pos} {pins : List (Addr × Obj)} {s : Shared} {σ : L2.St} {H : Hp} {Q Q' : List V → Hp → Prop} (I : Inv X pins σ H s) (hw : t σ H Q) (i : ∀ vs H, Q vs H → Q' vs H) :
    wpAny (model X.prog X.w) X.A (spliced (backTo pos (starEach es X.env))) (AP X pins σ Q') X.xe s := thn (h.run pos pins s σ H Q I hw) fun _ _ ⟨vs, H', I', r, q⟩ => ⟨vs, H', I', r, i _ _ q⟩
theorem pg_tupD {es : List Expr} {t : TA} {x1 : Nat} {pos : Pos} (h : PA X es t) : PE X (.Tuple es x1 pos) (tTupG t) := by
  refine ⟨fun pins s σ H Q I hq => ?_⟩
  refine wpAny_Tuple_spliced (thn (h.run pos pins s σ H _ I hq) fun us s1 ⟨xs, H1, I1, r, z, q⟩ => ⟨by rw [← r.length]; exact z, ?_⟩)
  have hf : H1 s1.heap.objs.size = none := I1.hok.fresh (Nat.le_refl _)
  refine ⟨.ref s1.heap.objs.size, upd H1 s1.heap.objs.size (.tup xs), I1.laid (t' := s1.toks) (fun b u e => Heap.get?_push_of_some _ e) (Nat.le_refl _) ?_, rfl, q.to _ hf⟩
  exact ⟨z, us, r, ⟨_, Heap.get?_push_size _ rfl, rfl, _, rfl⟩⟩
theorem pg_lstD {es : List Expr} {t : TA} {pos : Pos} (h : PA X es t) : PE X (.List es pos) (tLstG t) := by
  refine ⟨fun pins s σ H Q I hq => ?_⟩
  refine wpAny_List_spliced (thn (h.run pos pins s σ H _ I hq) fun us s1 ⟨xs, H1, I1, r, z, q⟩ => ⟨by rw [← r.length]; exact z, ?_⟩)
  have hf : H1 s1.heap.objs.size = none := I1.hok.fresh (Nat.le_refl _)
  refine ⟨.ref s1.heap.objs.size, upd H1 s1.heap.objs.size (.lst xs), I1.laid (t' := s1.toks) (fun b u e => Heap.get?_push_of_some _ e) (Nat.le_refl _) ?_, rfl, q.to _ hf⟩
  exact ⟨z, us, 0, r, Heap.get?_push_size _ rfl⟩
end

/-! ### calls by a positional promise -/
def tCR (sp : Sp) (E : XK) (t : TA) : TE := fun σ H Q => t σ H fun vs H1 => sp vs H1 Q E
def tMR (C : Addr) (m : Str) (sp : Sp) (E : XK) (ta : TE) (t : TA) : TE := fun σ H Q => ta σ H fun x H1 => ∃ a dx fs, x = .ref a ∧ H1 a = some (.ins C dx fs) ∧ fs.lookup m = none ∧ t σ H1 fun vs H2 => sp (x :: vs) H2 Q E
section
variable {X : Cx} {CX : CXT} {k : Nat} {f C : Addr} {sp : Sp} {E : XK} {x m : Str} {p pos apos : Pos} {e o : Expr} {es : List Expr} {ta : TE} {t : TA}
theorem run_at {pins : List (Addr × Obj)} {σ : L2.St} {H : Hp} {s : Shared} {Q : VK} {us : List Value} {vs : List V} (F : FnR X.prog X.w X.K X.mg X.base CX k f sp) (hr : Room k X.A) (hx : Passes CX X E) (I : Inv X pins σ H s) (r : Vals vs us) (h : sp vs H Q E) :
    wpAny (model X.prog X.w) X.A (call (.ref f) us) (EP X pins σ Q) X.xe s := wpAny_call (run_fnR F hr hx I r h)
theorem pe_cr (F : FnR X.prog X.w X.K X.mg X.base CX k f sp) (hr : Room k X.A) (hg : Gl X x) (hm : X.mg x = some (.ref f)) (hk : PySem.W.keepIn X.K (.ref f) = true) (hx : Passes CX X E) (ha : PA X (e :: es) t)
    (hdb : (x == ("__debug__" : Str)) = false := by decide) (he : starEach (e :: es) X.env = (false, eval e X.env) :: starEach es X.env := by rfl) (hpl : (backTo pos (starEach es X.env)).any (·.1) = false := by rfl) :
    PE X (.Call (.Name x p) (e :: es) [] pos) (tCR sp E t) := by
  refine ⟨fun pins s σ H Q I h => ?_⟩
  refine wpAny_Call_Name_kw (ld_glob I hg hm ?_ hdb)
  refine PySem.W.callWith_K (h₀ := X.base) I.ok.mod.kin hk (thn (ha.run pos pins s σ H _ I h) fun us s1 ⟨vs, H1, I1, r, q⟩ => ⟨I1.kIn, ?_⟩) he hpl
  exact run_at F hr hx I1 r q
theorem pe_cr0 (F : FnR X.prog X.w X.K X.mg X.base CX k f sp) (hr : Room k X.A) (hg : Gl X x) (hm : X.mg x = some (.ref f)) (hk : PySem.W.keepIn X.K (.ref f) = true) (hx : Passes CX X E)
    (hdb : (x == ("__debug__" : Str)) = false := by decide) : PE X (.Call (.Name x p) [] [] pos) (tCR sp E tNil) := by
  refine ⟨fun pins s σ H Q I h => ?_⟩
  refine wpAny_Call_Name_kw (ld_glob I hg hm ?_ hdb)
  exact PySem.W.callWith_K0 I.kIn hk (run_at (us := []) F hr hx I .nil h)
theorem pe_mr {pl : Sem Bool} (he : PE X o ta) (c : Cls X.K C) (hm : Meth X.K C m f) (F : FnR X.prog X.w X.K X.mg X.base CX k f sp) (hr : Room k X.A) (hx : Passes CX X E) (ha : PA X (e :: es) t)
    (hst : starEach (e :: es) X.env = (false, eval e X.env) :: starEach es X.env := by rfl) (hpl : (backTo pos (starEach es X.env)).any (·.1) = false := by rfl)
    (ht : eval (.Call (.Attribute o m apos) (e :: es) [] pos) X.env = (do
      let ov ← eval o X.env
      standAt apos.atName
      let (f, first) ← holding [ov] (getMethod ov m pl)
      callWith pos f first (backTo pos (starEach (e :: es) X.env)) (backToKw pos (keywordEach [] X.env))) := by rfl) :
    PE X (.Call (.Attribute o m apos) (e :: es) [] pos) (tMR C m sp E ta t) := by
  refine ⟨fun pins s σ H Q I h => ?_⟩
  refine PySem.W.methodCall_KW (pl := pl) (thn (he.run pins s σ H _ I h) fun u s1 ⟨x, H1, I1, rx, a, dx, fs, ex, ea, l, q⟩ => ?_) ht
  subst ex
  obtain rfl : u = Value.ref a := rx
  refine getmeth_ok I1 ea c hm l ?_
  refine PySem.W.callWith_K (first := [.ref a]) (h₀ := X.base) I.ok.mod.kin hm.kp (thn (ha.run pos pins s1 σ H1 _ I1 q) fun us s2 ⟨vs, H2, I2, r, q2⟩ => ⟨I2.kIn, ?_⟩) hst hpl
  exact run_at (us := .ref a :: us) (vs := .ref a :: vs) F hr hx I2 (.cons rfl r) q2
theorem pe_mr0 {pl : Sem Bool} (he : PE X o ta) (c : Cls X.K C) (hm : Meth X.K C m f) (F : FnR X.prog X.w X.K X.mg X.base CX k f sp) (hr : Room k X.A) (hx : Passes CX X E)
    (ht : eval (.Call (.Attribute o m apos) [] [] pos) X.env = (do
      let ov ← eval o X.env
      standAt apos.atName
      let (f, first) ← holding [ov] (getMethod ov m pl)
      callWith pos f first (backTo pos (starEach [] X.env)) (backToKw pos (keywordEach [] X.env))) := by rfl) :
    PE X (.Call (.Attribute o m apos) [] [] pos) (tMR C m sp E ta tNil) := by
  refine ⟨fun pins s σ H Q I h => ?_⟩
  refine PySem.W.methodCall_KW (pl := pl) (thn (he.run pins s σ H _ I h) fun u s1 ⟨x, H1, I1, rx, a, dx, fs, ex, ea, l, q⟩ => ?_) ht
  subst ex
  obtain rfl : u = Value.ref a := rx
  refine getmeth_ok I1 ea c hm l ?_
  exact PySem.W.callWith_K0 (first := [.ref a]) I1.kIn hm.kp (run_at (us := [.ref a]) (vs := [.ref a]) F hr hx I1 (.cons rfl .nil) q)
end
end G3

set_option Elab.async false
set_option linter.all false
set_option maxRecDepth 100000
set_option maxHeartbeats 2000000
/-! more generic readings; promises by values; a head's facts -/
namespace G3
open PySem PySem.Spec PyProof.Rows L2

/-! ### promises of so many values -/
def sp0 (f : Hp → VK → XK → Prop) : Sp := fun vs H Q E => match vs with
  | [] => f H Q E
  | _ => False
def sp1 (f : V → Hp → VK → XK → Prop) : Sp := fun vs H Q E => match vs with
  | [a] => f a H Q E
  | _ => False
def sp2 (f : V → V → Hp → VK → XK → Prop) : Sp := fun vs H Q E => match vs with
  | [a, b] => f a b H Q E
  | _ => False
def sp3 (f : V → V → V → Hp → VK → XK → Prop) : Sp := fun vs H Q E => match vs with
  | [a, b, c] => f a b c H Q E
  | _ => False
def sp4 (f : V → V → V → V → Hp → VK → XK → Prop) : Sp := fun vs H Q E => match vs with
  | [a, b, c, d] => f a b c d H Q E
  | _ => False
theorem len0 {f : Hp → VK → XK → Prop} : ∀ vs H Q E, sp0 f vs H Q E → vs.length = 0
  | [], _, _, _, _ => rfl
theorem len1 {f : V → Hp → VK → XK → Prop} : ∀ vs H Q E, sp1 f vs H Q E → vs.length = 1
  | [_], _, _, _, _ => rfl
theorem len2 {f : V → V → Hp → VK → XK → Prop} : ∀ vs H Q E, sp2 f vs H Q E → vs.length = 2
  | [_, _], _, _, _, _ => rfl
theorem len3 {f : V → V → V → Hp → VK → XK → Prop} : ∀ vs H Q E, sp3 f vs H Q E → vs.length = 3
  | [_, _, _], _, _, _, _ => rfl
theorem len4 {f : V → V → V → V → Hp → VK → XK → Prop} : ∀ vs H Q E, sp4 f vs H Q E → vs.length = 4
  | [_, _, _, _], _, _, _, _ => rfl
theorem un0 {f : Hp → VK → XK → Prop} {vs : List V} {H : Hp} {Q : VK} {E : XK} (h : sp0 f vs H Q E) : vs = [] ∧ f H Q E := match vs, h with
  | [], h => ⟨rfl, h⟩
theorem un1 {f : V → Hp → VK → XK → Prop} {vs : List V} {H : Hp} {Q : VK} {E : XK} (h : sp1 f vs H Q E) : ∃ a, vs = [a] ∧ f a H Q E := match vs, h with
  | [a], h => ⟨a, rfl, h⟩
theorem un2 {f : V → V → Hp → VK → XK → Prop} {vs : List V} {H : Hp} {Q : VK} {E : XK} (h : sp2 f vs H Q E) : ∃ a b, vs = [a, b] ∧ f a b H Q E := match vs, h with
  | [a, b], h => ⟨a, b, rfl, h⟩
theorem un3 {f : V → V → V → Hp → VK → XK → Prop} {vs : List V} {H : Hp} {Q : VK} {E : XK} (h : sp3 f vs H Q E) : ∃ a b c, vs = [a, b, c] ∧ f a b c H Q E := match vs, h with
  | [a, b, c], h => ⟨a, b, c, rfl, h⟩
theorem un4 {f : V → V → V → V → Hp → VK → XK → Prop} {vs : List V} {H : Hp} {Q : VK} {E : XK} (h : sp4 f vs H Q E) : ∃ a b c d, vs = [a, b, c, d] ∧ f a b c d H Q E := match vs, h with
  | [a, b, c, d], h => ⟨a, b, c, d, rfl, h⟩

section
variable {P : Program} {w : World} {K : PySem.W.Frag} {mg : Str → Option Value} {base : Heap} {x qual : Str} {params : Arguments} {body : List Stmt} {scope : Scope} {kws : List (Str × V)} {f : Addr}
/-- a def's promise by its body: it may let out what E says -/
theorem fnr {N ps : List Str} {k : Nat} {sp : Sp} (F : ∃ fd, FunD K x qual params body scope [] kws f fd) (S : FnScope N ps scope)
    (hb : ∀ (kV doc pm : Value) (an : Option Addr) (cdv ct : Value) (us : List Value), us.length = ps.length → bindArgs (PySem.W.fnOf x qual params body scope .none kV doc pm an cdv ct) ⟨us, []⟩ = pure (ps.zip us))
    (len : ∀ vs H Q E, sp vs H Q E → vs.length = ps.length)
    (hbody : ∀ (cdv : Value) (A : Around) (outer : List Env) (s : Shared) (H : Hp) (vs : List V) (Q : VK) (E : XK), Room k (A.deeper (envOfC qual scope s.heap.objs.size f cdv)) → sp vs H Q E →
      ∃ t, PSs (cxOf (L2.CX P w) P w K mg base N qual scope f cdv A outer s H E) body t ∧ t { nx := fun _ H' => Q .non H', rt := Q } (start N vs) H) : FnR P w K mg base (L2.CX P w) (k + 1) f sp := by
  obtain ⟨fd, F⟩ := F
  refine ((F.ok S len hbody).raw (F.bindsN hb) .nil).imp fun vs H Q E h => ?_
  rw [List.append_nil]
  exact h
end
/-- what is raised in a def's body leaves it -/
theorem px {P : Program} {w : World} {K : PySem.W.Frag} {mg : Str → Option Value} {base : Heap} {N : List Str} {qual : Str} {scope : Scope} {f : Addr} {cd : Value} {A : Around} {outer : List Env} {s : Shared} {H : Hp} {E : XK} :
    Passes (L2.CX P w) (cxOf (L2.CX P w) P w K mg base N qual scope f cd A outer s H E) E := passes_call (takes_of rfl rfl rfl rfl) fun _ _ _ _ h => h
theorem px_blk {X : Cx} {E : XK} {CX : CXT} {s : Shared} {H : Hp} {sc : Scope} {en : Env} {fp : List Addr} (h : ∀ e s', X.xe e s' → (X.blk s H sc en fp).xe e s') (hq : Passes CX (X.blk s H sc en fp) E) : Passes CX (X.blk s H sc en fp) E := hq

/-! ### walks over a list or a tuple -/
/-- a list or a tuple of xs at a -/
def SqA (K : PySem.W.Frag) (H : Hp) (a : Addr) (xs : List V) : Bool → Prop
  | true => SqT K H a xs
  | false => SqL K H a xs
def It2 (K : PySem.W.Frag) (a : Addr) : Bool → It
  | true => Itt K a
  | false => Itl K a
def iSeq (K : PySem.W.Frag) (tl : TE) : TI := fun σ H R => ∃ Post : VK, tl σ H Post ∧ ∀ x H1, Post x H1 → ∃ a b xs, x = .ref a ∧ SqA K H1 a xs b ∧ R (It2 K a b) H1
section
variable {X : Cx}
theorem pi_seq {tg l : Expr} {tl : TE} (hl : PE X l tl) : PI X tg l (iSeq X.K tl) := by
  constructor
  intro pins s σ H R I ⟨Post, h, hP⟩
  refine thn (hl.run pins s σ H _ I h) ?_
  rintro v s1 ⟨x, H1, I1, rx, post⟩
  obtain ⟨a, b, xs, rfl, hq, q⟩ := hP x H1 post
  obtain rfl : v = Value.ref a := rx
  cases b with
  | true =>
    obtain ⟨its, rv, p, hz⟩ := I1.tuple (show SqT X.K H1 a xs from hq)
    refine wpAny_pyIter_tuple (items := its.toArray) p ⟨_, _, _, _, H1, rfl, I1.kept (t' := s1.toks) ?_, turn_tuple a s1.heap.objs.size, ⟨_, Heap.get?_push_size _ rfl, rfl, rfl⟩, ?_, q⟩
    · exact fun b o e => Heap.get?_push_of_some _ e
    · intro b hb
      rw [show b = s1.heap.objs.size by simpa using hb]
      exact I1.fpOk (Nat.le_refl _) (I1.hok.fresh (Nat.le_refl _))
  | false =>
    obtain ⟨its, rv, p, hz⟩ := I1.list (show SqL X.K H1 a xs from hq)
    refine wpAny_pyIter_list p.isList ⟨_, _, _, _, H1, rfl, I1.kept (t' := s1.toks) ?_, turn_list a s1.heap.objs.size, ⟨_, Heap.get?_push_size _ rfl, rfl, rfl⟩, ?_, q⟩
    · exact fun b o e => Heap.get?_push_of_some _ e
    · intro b hb
      rw [show b = s1.heap.objs.size by simpa using hb]
      exact I1.fpOk (Nat.le_refl _) (I1.hok.fresh (Nat.le_refl _))
end

/-! ### what a part leaves, said once -/
def upA (t : TA) : TA := fun σ H Q => ∃ Post, t σ H Post ∧ ∀ vs H1, Post vs H1 → Q vs H1
def upE (t : TE) : TE := fun σ H Q => ∃ Post, t σ H Post ∧ ∀ v H1, Post v H1 → Q v H1
def upT (t : TT) : TT := fun σ H Q => ∃ Post, t σ H Post ∧ ∀ v H1, Post v H1 → Q v H1
def upG (t : TG) : TG := fun v σ H Q => ∃ Post, t v σ H Post ∧ ∀ σ1 H1, Post σ1 H1 → Q σ1 H1
theorem PA.up {X : Cx} {es : List Expr} {t : TA} (h : PA X es t) : PA X es (upA t) := ⟨fun pos pins s σ H Q I ⟨_, hw, i⟩ => PA.mono h I hw i⟩
theorem PE.up {X : Cx} {e : Expr} {t : TE} (h : PE X e t) : PE X e (upE t) := ⟨fun pins s σ H Q I ⟨_, hw, i⟩ => thn (h.run pins s σ H _ I hw) fun _ _ ⟨v, H', I', r, q⟩ => ⟨v, H', I', r, i _ _ q⟩⟩
theorem PTs.up {X : Cx} {es : List Expr} {t : TT} (h : PTs X es t) : PTs X es (upT t) := ⟨fun pins s σ H Q I ⟨_, hw, i⟩ => thn (h.run pins s σ H _ I hw) fun _ _ ⟨H', I', q⟩ => ⟨H', I', i _ _ q⟩⟩
theorem PG.up {X : Cx} {e : Expr} {t : TG} (h : PG X e t) : PG X e (upG t) := ⟨fun pins s σ H x v Q I r ⟨_, hw, i⟩ => thn (h.run pins s σ H x v _ I r hw) fun _ _ ⟨σ', H', I', q⟩ => ⟨σ', H', I', i _ _ q⟩⟩
theorem PS.imp {X : Cx} {st : Stmt} {t t' : TS} (h : PS X st t) (i : ∀ D σ H, t' D σ H → t D σ H) : PS X st t' := ⟨fun pins s σ H D I hw => h.run pins s σ H D I (i D σ H hw)⟩

/-- a for over xs: Pv what holds ahead of each turn -/
def loopS (K : PySem.W.Frag) (a : Addr) (xs : List V) (b : Bool) (g : TG) (tb : TS) (D : Ends) (σ : L2.St) (H : Hp) : Prop := ∃ Pv : Nat → L2.St → Hp → Prop, Pv 0 σ H ∧ (∀ i σ H, i ≤ xs.length → Pv i σ H → SqA K H a xs b) ∧
  (∀ (i : Nat) x σ H, xs[i]? = some x → Pv i σ H → g x σ H fun σ2 H2 => tb { D with nx := Pv (i + 1), ct := Pv (i + 1), bk := D.nx } σ2 H2) ∧ ∀ σ H, Pv xs.length σ H → D.nx σ H
/-- for x in a list or a tuple -/
def tForS (K : PySem.W.Frag) (tl : TE) (g : TG) (tb : TS) : TS := fun D σ H => tl σ H fun x H1 => ∃ a b xs, x = .ref a ∧ SqA K H1 a xs b ∧ loopS K a xs b g tb D σ H1
/-- a comprehension over xs: Pv what holds ahead of each turn, with what is made so far -/
def turnsS (K : PySem.W.Frag) (a : Addr) (xs : List V) (b : Bool) (g : TG) (tt : TT) (te : TE) (vs : List Nat) (σ : L2.St) (L : Addr) (Q : VK) (H : Hp) : Prop := ∃ Pv : Nat → List V → Hp → Prop, Pv 0 [] (upd H L (.lst [])) ∧
  (∀ i acc H, i ≤ xs.length → Pv i acc H → SqA K H a xs b ∧ H L = some (.lst acc)) ∧
  (∀ (i : Nat) x acc H, xs[i]? = some x → Pv i acc H → g x (wipe σ vs) H fun σ2 H2 => wipe σ2 vs = wipe σ vs ∧ tt σ2 H2 fun c H3 =>
      if c = true then te σ2 H3 fun y H4 => H4 L = some (.lst acc) ∧ acc.length < sizeLine ∧ Pv (i + 1) (acc ++ [y]) (upd H4 L (.lst (acc ++ [y]))) else Pv (i + 1) acc H3) ∧ ∀ acc H, Pv xs.length acc H → Q (.ref L) H
def tLcS (K : PySem.W.Frag) (tl : TE) (g : TG) (tt : TT) (te : TE) (vs : List Nat) : TE := fun σ H Q => tl σ H fun x H1 => ∃ a b xs, x = .ref a ∧ SqA K H1 a xs b ∧ ∀ L, H1 L = none → turnsS K a xs b g tt te vs σ L Q H1
/-- a for over a range -/
def loopR (lo : Int) (n : Nat) (g : TG) (tb : TS) (D : Ends) (σ : L2.St) (H : Hp) : Prop := ∃ Pv : Nat → L2.St → Hp → Prop, Pv 0 σ H ∧
  (∀ i σ H, i < n → Pv i σ H → g (.int (lo + i)) σ H fun σ2 H2 => tb { D with nx := Pv (i + 1), ct := Pv (i + 1), bk := D.nx } σ2 H2) ∧ ∀ σ H, Pv n σ H → D.nx σ H
def tForR1 (ta : TA) (g : TG) (tb : TS) : TS := fun D σ H => ta σ H fun vs H1 => match vs with
  | [.int j] => (-(2 ^ 62) ≤ j ∧ j < 2 ^ 62) ∧ loopR 0 j.toNat g tb D σ H1
  | _ => False
def tForR2 (ta : TA) (g : TG) (tb : TS) : TS := fun D σ H => ta σ H fun vs H1 => match vs with
  | [.int i, .int j] => (-(2 ^ 62) ≤ i ∧ i < 2 ^ 62 ∧ -(2 ^ 62) ≤ j ∧ j < 2 ^ 62) ∧ loopR i (j - i).toNat g tb D σ H1
  | _ => False
def turnsR (lo : Int) (n : Nat) (g : TG) (tt : TT) (te : TE) (vs : List Nat) (σ : L2.St) (L : Addr) (Q : VK) (H : Hp) : Prop := ∃ Pv : Nat → List V → Hp → Prop, Pv 0 [] (upd H L (.lst [])) ∧
  (∀ i acc H, i < n → Pv i acc H → g (.int (lo + i)) (wipe σ vs) H fun σ2 H2 => wipe σ2 vs = wipe σ vs ∧ tt σ2 H2 fun c H3 =>
      if c = true then te σ2 H3 fun y H4 => H4 L = some (.lst acc) ∧ acc.length < sizeLine ∧ Pv (i + 1) (acc ++ [y]) (upd H4 L (.lst (acc ++ [y]))) else Pv (i + 1) acc H3) ∧ ∀ acc H, Pv n acc H → Q (.ref L) H
def tLcR1 (ta : TA) (g : TG) (tt : TT) (te : TE) (vs : List Nat) : TE := fun σ H Q => ta σ H fun xs H1 => match xs with
  | [.int j] => (-(2 ^ 62) ≤ j ∧ j < 2 ^ 62) ∧ ∀ L, H1 L = none → turnsR 0 j.toNat g tt te vs σ L Q H1
  | _ => False
section
variable {X : Cx}
theorem for_S {K : PySem.W.Frag} {tl : TE} {g : TG} {tb : TS} {D : Ends} {σ : L2.St} {H : Hp} (h : tForS K tl g tb D σ H) : tFor (iSeq K tl) g tb D σ H := by
  refine ⟨_, h, ?_⟩
  rintro x H1 ⟨a, b, xs, rfl, hq, Pv, h0, hl, hs, hd⟩
  refine ⟨a, b, xs, rfl, hq, ?_⟩
  cases b with
  | true => exact for_tup (xs := xs) Pv h0 hl hs hd
  | false => exact for_list (xs := xs) Pv h0 hl hs hd
theorem ps_forS {tg iter : Expr} {body : List Stmt} {tl : TE} {g : TG} {tb : TS} {pos : Pos} (hp : PassesOwn (model X.prog X.w) X.A X.env X.xe) (hc : X.calm = true) (hi : PE X iter tl) (hg : PG X tg g) (hb : PSs X body tb)
    (hs : ∀ x, foldedSetIterable iter X.env x = pure x := by intro _; rfl) : PS X (.For tg iter body [] pos) (tForS X.K tl g tb) :=
  PS.imp (ps_for hp hc (pi_seq hi) hg hb hs) fun D σ H => for_S
/-- one turn of a comprehension, with what is made so far -/
theorem turn_up {g : TG} {tt : TT} {te : TE} {vs : List Nat} {σ : L2.St} {L : Addr} {i : Nat} {x : V} {H : Hp} {acc : List V} {Pv : Nat → List V → Hp → Prop}
    (h : g x (wipe σ vs) H fun σ2 H2 => wipe σ2 vs = wipe σ vs ∧ tt σ2 H2 fun c H3 =>
      if c = true then te σ2 H3 fun y H4 => H4 L = some (.lst acc) ∧ acc.length < sizeLine ∧ Pv (i + 1) (acc ++ [y]) (upd H4 L (.lst (acc ++ [y]))) else Pv (i + 1) acc H3) :
    upG g x (wipe σ vs) H fun σ2 H2 => wipe σ2 vs = wipe σ vs ∧ upT tt σ2 H2 fun c H3 =>
      if c = true then upE te σ2 H3 fun y H4 => ∃ acc, H4 L = some (.lst acc) ∧ acc.length < sizeLine ∧ ∃ acc', Pv (i + 1) acc' (upd H4 L (.lst (acc ++ [y]))) else ∃ acc', Pv (i + 1) acc' H3 := by
  refine ⟨_, h, fun σ2 H2 ⟨e, h⟩ => ⟨e, _, h, fun c H3 h => ?_⟩⟩
  cases c with
  | true =>
    rw [if_pos rfl] at h ⊢
    exact ⟨_, h, fun y H4 ⟨h1, h2, h3⟩ => ⟨acc, h1, h2, _, h3⟩⟩
  | false =>
    rw [if_neg Bool.false_ne_true] at h ⊢
    exact ⟨acc, h⟩
theorem lc_S {K : PySem.W.Frag} {tl : TE} {g : TG} {tt : TT} {te : TE} {vs : List Nat} {σ : L2.St} {H : Hp} {Q : VK} (h : tLcS K tl g tt te vs σ H Q) : tLc (iSeq K tl) (upG g) (upT tt) (upE te) vs σ H Q := by
  refine ⟨_, h, ?_⟩
  rintro x H1 ⟨a, b, xs, rfl, hq, q⟩
  refine ⟨a, b, xs, rfl, hq, fun L hL => ?_⟩
  obtain ⟨Pv, h0, hl, hs, hd⟩ := q L hL
  cases b with
  | true => exact lc_tup (xs := xs) (fun i H => ∃ acc, Pv i acc H) ⟨_, h0⟩ (fun i H hi ⟨acc, p⟩ => (hl i acc H hi p).1) (fun i x H hx ⟨acc, p⟩ => turn_up (hs i x acc H hx p)) fun H ⟨acc, p⟩ => hd acc H p
  | false => exact lc_list (xs := xs) (fun i H => ∃ acc, Pv i acc H) ⟨_, h0⟩ (fun i H hi ⟨acc, p⟩ => (hl i acc H hi p).1) (fun i x H hx ⟨acc, p⟩ => turn_up (hs i x acc H hx p)) fun H ⟨acc, p⟩ => hd acc H p
theorem pe_lcS {elt tg iter : Expr} {ifs : List Expr} {scope : Scope} {own : List (Str × Nat)} {pos : Pos} {tl : TE} {g : TG} {tt : TT} {te : TE} (hc : X.calm = true) (hN : X.N.Nodup) (hi : PE X iter tl) (ok : BlkOk X.N X.env.scope scope own)
    (hg : ∀ (s : Shared) (H : Hp) (C : Addr) (cl : List (Str × Addr)) (fp : List Addr), PG (X.blk s H scope (compEnvC scope cl C X.env) fp) tg g) (ht : ∀ (s : Shared) (H : Hp) (C : Addr) (cl : List (Str × Addr)) (fp : List Addr), PTs (X.blk s H scope (compEnvC scope cl C X.env) fp) ifs tt)
    (he : ∀ (s : Shared) (H : Hp) (C : Addr) (cl : List (Str × Addr)) (fp : List Addr), PE (X.blk s H scope (compEnvC scope cl C X.env) fp) elt te) (hs : ∀ x, foldedSetIterable iter X.env x = pure x := by intro _; rfl) :
    PE X (.ListComp elt [⟨tg, iter, ifs, 0⟩] scope pos) (tLcS X.K tl g tt te (own.map (·.2))) := PE.imp (pe_lc hc hN (pi_seq hi) ok (fun a b c d e => PG.up (hg a b c d e)) (fun a b c d e => PTs.up (ht a b c d e)) (fun a b c d e => PE.up (he a b c d e)) hs) fun σ H Q => lc_S
theorem ps_setLcS {i : Nat} {y : Str} {py : Pos} {elt tg iter : Expr} {ifs : List Expr} {scope : Scope} {own : List (Str × Nat)} {pos spos : Pos} {tl : TE} {g : TG} {tt : TT} {te : TE} (hc : X.calm = true) (hN : X.N.Nodup) (hy : X.N[i]? = some y) (hyl : X.env.scope.names.lookup y = some .local)
    (hsw : swapsWith (.ListComp elt [⟨tg, iter, ifs, 0⟩] scope pos) (some (.Name y py)) spos.line X.env = pure true) (hi : PE X iter tl) (ok : BlkOk X.N X.env.scope scope own)
    (hg : ∀ (s : Shared) (H : Hp) (C : Addr) (cl : List (Str × Addr)) (fp : List Addr), PG (X.blk s H scope (compEnvC scope cl C X.env) fp) tg g) (ht : ∀ (s : Shared) (H : Hp) (C : Addr) (cl : List (Str × Addr)) (fp : List Addr), PTs (X.blk s H scope (compEnvC scope cl C X.env) fp) ifs tt)
    (he : ∀ (s : Shared) (H : Hp) (C : Addr) (cl : List (Str × Addr)) (fp : List Addr), PE (X.blk s H scope (compEnvC scope cl C X.env) fp) elt te) (hs : ∀ x, foldedSetIterable iter X.env x = pure x := by intro _; rfl) :
    PS X (.Assign [.Name y py] (.ListComp elt [⟨tg, iter, ifs, 0⟩] scope pos) spos) (tAsg (tLcS X.K tl g tt te (own.map (·.2))) (gName i)) :=
  PS.imp (ps_setLc hc hN hy hyl hsw (pi_seq hi) ok (fun a b c d e => PG.up (hg a b c d e)) (fun a b c d e => PTs.up (ht a b c d e)) (fun a b c d e => PE.up (he a b c d e)) hs) fun D σ H => lc_S
theorem ps_forR1 {tg a : Expr} {body : List Stmt} {ta : TA} {g : TG} {tb : TS} {pos p pc : Pos} (hp : PassesOwn (model X.prog X.w) X.A X.env X.xe) (hc : X.calm = true) (hgl : Gl X "range") (hm : X.mg "range" = none) (ha : PA X [a] ta) (hg : PG X tg g) (hb : PSs X body tb)
    (hs : ∀ x, foldedSetIterable (.Call (.Name "range" p) [a] [] pc) X.env x = pure x := by intro _; rfl) (hst : starEach [a] X.env = [(false, eval a X.env)] := by rfl) : PS X (.For tg (.Call (.Name "range" p) [a] [] pc) body [] pos) (tForR1 ta g tb) :=
  PS.imp (ps_for hp hc (pi_range1 hgl hm (PA.up ha) hst) hg hb hs) fun D σ H h => by
    refine ⟨_, h, ?_⟩
    intro vs H1 q
    match vs, q with
    | [.int j], ⟨⟨b1, b2⟩, Pv, h0, hs, hd⟩ => exact ⟨j, rfl, b1, b2, for_range Pv h0 hs hd⟩
theorem ps_forR2 {tg a a2 : Expr} {body : List Stmt} {ta : TA} {g : TG} {tb : TS} {pos p pc : Pos} (hp : PassesOwn (model X.prog X.w) X.A X.env X.xe) (hc : X.calm = true) (hgl : Gl X "range") (hm : X.mg "range" = none) (ha : PA X [a, a2] ta) (hg : PG X tg g) (hb : PSs X body tb)
    (hs : ∀ x, foldedSetIterable (.Call (.Name "range" p) [a, a2] [] pc) X.env x = pure x := by intro _; rfl) (hst : starEach [a, a2] X.env = [(false, eval a X.env), (false, eval a2 X.env)] := by rfl) (hst2 : starEach [a2] X.env = [(false, eval a2 X.env)] := by rfl) :
    PS X (.For tg (.Call (.Name "range" p) [a, a2] [] pc) body [] pos) (tForR2 ta g tb) :=
  PS.imp (ps_for hp hc (pi_range2 hgl hm (PA.up ha) hst hst2) hg hb hs) fun D σ H h => by
    refine ⟨_, h, ?_⟩
    intro vs H1 q
    match vs, q with
    | [.int i, .int j], ⟨b, Pv, h0, hs, hd⟩ => exact ⟨i, j, rfl, b, for_range Pv h0 hs hd⟩
theorem lcR1_of {ta : TA} {g : TG} {tt : TT} {te : TE} {vs : List Nat} {σ : L2.St} {H : Hp} {Q : VK} (h : tLcR1 ta g tt te vs σ H Q) : tLc (iRng1 (upA ta)) (upG g) (upT tt) (upE te) vs σ H Q := by
  refine ⟨_, h, ?_⟩
  intro xs H1 q
  match xs, q with
  | [.int j], ⟨⟨b1, b2⟩, q⟩ =>
    refine ⟨j, rfl, b1, b2, fun L hL => ?_⟩
    obtain ⟨Pv, h0, hs, hd⟩ := q L hL
    exact lc_range (fun i H => ∃ acc, Pv i acc H) ⟨_, h0⟩ (fun i H hi ⟨acc, p⟩ => turn_up (hs i acc H hi p)) fun H ⟨acc, p⟩ => hd acc H p
theorem pe_lcR1 {elt tg a : Expr} {p pc : Pos} {ifs : List Expr} {scope : Scope} {own : List (Str × Nat)} {pos : Pos} {ta : TA} {g : TG} {tt : TT} {te : TE} (hc : X.calm = true) (hN : X.N.Nodup) (hgl : Gl X "range") (hm : X.mg "range" = none) (hi : PA X [a] ta) (ok : BlkOk X.N X.env.scope scope own)
    (hg : ∀ (s : Shared) (H : Hp) (C : Addr) (cl : List (Str × Addr)) (fp : List Addr), PG (X.blk s H scope (compEnvC scope cl C X.env) fp) tg g) (ht : ∀ (s : Shared) (H : Hp) (C : Addr) (cl : List (Str × Addr)) (fp : List Addr), PTs (X.blk s H scope (compEnvC scope cl C X.env) fp) ifs tt)
    (he : ∀ (s : Shared) (H : Hp) (C : Addr) (cl : List (Str × Addr)) (fp : List Addr), PE (X.blk s H scope (compEnvC scope cl C X.env) fp) elt te) (hst : starEach [a] X.env = [(false, eval a X.env)] := by rfl) (hs : ∀ x, foldedSetIterable (.Call (.Name "range" p) [a] [] pc) X.env x = pure x := by intro _; rfl) :
    PE X (.ListComp elt [⟨tg, .Call (.Name "range" p) [a] [] pc, ifs, 0⟩] scope pos) (tLcR1 ta g tt te (own.map (·.2))) := PE.imp (pe_lc hc hN (pi_range1 hgl hm (PA.up hi) hst) ok (fun a b c d e => PG.up (hg a b c d e)) (fun a b c d e => PTs.up (ht a b c d e)) (fun a b c d e => PE.up (he a b c d e)) hs) fun σ H Q => lcR1_of
theorem ps_setLcR1 {i : Nat} {y : Str} {py : Pos} {elt tg a : Expr} {p pc : Pos} {ifs : List Expr} {scope : Scope} {own : List (Str × Nat)} {pos spos : Pos} {ta : TA} {g : TG} {tt : TT} {te : TE} (hc : X.calm = true) (hN : X.N.Nodup) (hy : X.N[i]? = some y) (hyl : X.env.scope.names.lookup y = some .local)
    (hsw : swapsWith (.ListComp elt [⟨tg, .Call (.Name "range" p) [a] [] pc, ifs, 0⟩] scope pos) (some (.Name y py)) spos.line X.env = pure true) (hgl : Gl X "range") (hm : X.mg "range" = none) (hi : PA X [a] ta) (ok : BlkOk X.N X.env.scope scope own)
    (hg : ∀ (s : Shared) (H : Hp) (C : Addr) (cl : List (Str × Addr)) (fp : List Addr), PG (X.blk s H scope (compEnvC scope cl C X.env) fp) tg g) (ht : ∀ (s : Shared) (H : Hp) (C : Addr) (cl : List (Str × Addr)) (fp : List Addr), PTs (X.blk s H scope (compEnvC scope cl C X.env) fp) ifs tt)
    (he : ∀ (s : Shared) (H : Hp) (C : Addr) (cl : List (Str × Addr)) (fp : List Addr), PE (X.blk s H scope (compEnvC scope cl C X.env) fp) elt te) (hst : starEach [a] X.env = [(false, eval a X.env)] := by rfl) (hs : ∀ x, foldedSetIterable (.Call (.Name "range" p) [a] [] pc) X.env x = pure x := by intro _; rfl) :
    PS X (.Assign [.Name y py] (.ListComp elt [⟨tg, .Call (.Name "range" p) [a] [] pc, ifs, 0⟩] scope pos) spos) (tAsg (tLcR1 ta g tt te (own.map (·.2))) (gName i)) :=
  PS.imp (ps_setLc hc hN hy hyl hsw (pi_range1 hgl hm (PA.up hi) hst) ok (fun a b c d e => PG.up (hg a b c d e)) (fun a b c d e => PTs.up (ht a b c d e)) (fun a b c d e => PE.up (he a b c d e)) hs) fun D σ H => lcR1_of

/-! ### enumerate(list), text as a list -/
def loopE (K : PySem.W.Frag) (a : Addr) (xs : List V) (g : TG) (tb : TS) (D : Ends) (σ : L2.St) (H : Hp) : Prop := ∃ Pv : Nat → L2.St → Hp → Prop, Pv 0 σ H ∧ (∀ i σ H, i ≤ xs.length → Pv i σ H → SqL K H a xs) ∧
  (∀ (i : Nat) x σ H, xs[i]? = some x → Pv i σ H → ∀ t, H t = none → g (.ref t) σ (upd H t (.tup [.int i, x])) fun σ2 H2 => tb { D with nx := Pv (i + 1), ct := Pv (i + 1), bk := D.nx } σ2 H2) ∧ ∀ σ H, Pv xs.length σ H → D.nx σ H
theorem vals_signs : ∀ (cs : List Nat) (us : List Value), us.length = cs.length → (∀ (j : Nat) (c : Nat), cs[j]? = some c → ∃ u, us[j]? = some (Value.str ⟨#[c]⟩ u)) → Vals (cs.map fun c => V.str ⟨#[c]⟩) us
  | [], [], _, _ => .nil
  | c :: cs, v :: us, hl, h => by
    obtain ⟨u, e⟩ := h 0 c rfl
    have e' : v = Value.str ⟨#[c]⟩ u := Option.some.inj e
    subst e'
    exact .cons ⟨u, rfl⟩ (vals_signs cs us (Nat.succ.inj hl) fun j c' hj => h (j + 1) c' hj)
/-- list(text), list(list), list(tuple) -/
def rListA : List V → Hp → VK → Prop := fun vs H Q => match vs with
  | [.str z] => z.length ≤ sizeLine ∧ nw H (.lst (z.cps.toList.map fun c => V.str ⟨#[c]⟩)) Q
  | [.ref p] => (match ct H p with
    | some (.lst xs) => nw H (.lst xs) Q
    | some (.tup xs) => nw H (.lst xs) Q
    | _ => False)
  | _ => False
theorem g_listA (hc : X.calm = true) : CallR X (.type "list") rListA := by
  intro pins s σ H vs us Q I r h
  match vs, h, r with
  | [.ref p], h, r => exact g_list pins s σ H _ us Q I r h
  | [.str z], h, r =>
    obtain ⟨u, rfl, ru⟩ := r.one
    obtain ⟨t, rfl⟩ := ru
    refine call_list_str (I.ok.hd hc) z t (fun h' tk acc' c' hk hS hacc => ?_) h.1
    have e : H s.heap.objs.size = none := I.hok.fresh (Nat.le_refl _)
    have hl : acc'.size = z.cps.toList.length := by rw [hacc.1, Array.length_toList]
    have rv : Vals (z.cps.toList.map fun c => V.str ⟨#[c]⟩) acc'.toList := vals_signs z.cps.toList acc'.toList (by rw [Array.length_toList]; exact hl) fun j c hj => by
      have hj2 : j < acc'.size := by
        rw [hl]
        exact (List.getElem?_eq_some_iff.mp hj).1
      obtain ⟨c', u, hc', hv⟩ := hacc.2 j _ (Array.getElem?_eq_getElem hj2)
      rw [← Array.getElem?_toList, hj] at hc'
      cases hc'
      exact ⟨u, by rw [Array.getElem?_toList, Array.getElem?_eq_getElem hj2, hv]⟩
    refine ⟨.ref s.heap.objs.size, upd H s.heap.objs.size (.lst _), I.laid (t' := tk) hk (Nat.le_refl _) ⟨?_, acc'.toList, c', rv, ?_⟩, rfl, h.2.to _ e⟩
    · rw [List.length_map, Array.length_toList]
      exact h.1
    · rw [Array.toArray_toList]
      exact hS
/-- for i, x in enumerate(a list) -/
def tForE1 (K : PySem.W.Frag) (ta : TA) (g : TG) (tb : TS) : TS := fun D σ H => ta σ H fun vs H1 => match vs with
  | [.ref a] => ∃ xs, SqL K H1 a xs ∧ loopE K a xs g tb D σ H1
  | _ => False
theorem ps_forE1 {elts : List Expr} {kk : Nat} {tpos : Pos} {a : Expr} {body : List Stmt} {ta : TA} {g : TG} {tb : TS} {pos p pc : Pos} (hp : PassesOwn (model X.prog X.w) X.A X.env X.xe) (hc : X.calm = true) (hgl : Gl X "enumerate") (hm : X.mg "enumerate" = none) (ha : PA X [a] ta)
    (hg : PG X (.Tuple elts kk tpos) g) (hb : PSs X body tb)
    (hs : ∀ x, foldedSetIterable (.Call (.Name "enumerate" p) [a] [] pc) X.env x = pure x := by intro _; rfl) (hst : starEach [a] X.env = [(false, eval a X.env)] := by rfl) : PS X (.For (.Tuple elts kk tpos) (.Call (.Name "enumerate" p) [a] [] pc) body [] pos) (tForE1 X.K ta g tb) :=
  PS.imp (ps_for hp hc (pi_enum hgl hm (PA.up ha) hst) hg hb hs) fun D σ H h => by
    refine ⟨_, h, ?_⟩
    intro vs H1 q
    match vs, q with
    | [.ref a], ⟨xs, hq, Pv, h0, hl, hs, hd⟩ =>
      refine ⟨a, xs, rfl, hq, ?_⟩
      refine ⟨fun i m σ H => m = xs.length - i ∧ i ≤ xs.length ∧ Pv i σ H, ⟨xs.length, by simp, Nat.zero_le _, h0⟩, ?_⟩
      rintro i m σ H ⟨rfl, hi, p⟩
      have sq := hl i σ H hi p
      by_cases hlt : i < xs.length
      · refine .inr ⟨⟨xs, xs[i], sq, by simp [hlt]⟩, Pv (i + 1), fun σ' H' p' => ⟨xs.length - (i + 1), by omega, rfl, hlt, p'⟩, ?_⟩
        rintro x H' ⟨T, y, rfl, hT, rfl, hy⟩
        exact hs i y σ H (hy xs sq) p T hT
      · have e : i = xs.length := by omega
        subst e
        exact .inl ⟨⟨xs, sq, Nat.le_refl _⟩, hd σ H p⟩
end
end G3

set_option Elab.async false
set_option linter.all false
set_option maxRecDepth 100000
set_option maxHeartbeats 2000000
/-! generic slices, unpacking, methods -/
namespace G3
open PySem PySem.Spec PyProof.Rows L2
def rSlG : V → Option Int → Option Int → Hp → VK → Prop := fun x lo hi H Q => match x with
  | .str z => z.length ≤ sizeLine ∧ Q (.str (cutS z lo hi)) H
  | .ref p => (match ct H p with
    | some (.lst xs) => nw H (.lst (cutV xs lo hi)) Q
    | some (.tup xs) => (HT.sIx xs.length 0 lo = 0 ∧ HT.sIx xs.length xs.length hi = xs.length → Q (.ref p) H) ∧ (¬ (HT.sIx xs.length 0 lo = 0 ∧ HT.sIx xs.length xs.length hi = xs.length) → nw H (.tup (cutV xs lo hi)) Q)
    | _ => False)
  | _ => False
def gSeqG (n : Nat) (t : TGs) : TG := fun v σ H Q => match v with
  | .ref p => (match ct H p with
    | some (.lst xs) => xs.length = n ∧ t xs σ H Q
    | some (.tup xs) => xs.length = n ∧ t xs σ H Q
    | _ => False)
  | _ => False
/-- a list's method -/
def tMetL (r : V → List V → Hp → VK → Prop) (to : TE) (t : TA) : TE := fun σ H Q => to σ H fun x H1 => match x with
  | .ref l => (match ct H1 l with
    | some (.lst _) => t σ H1 fun vs H2 => r (.ref l) vs H2 Q
    | _ => False)
  | _ => False
/-- a text's method -/
def tMetS (r : V → List V → Hp → VK → Prop) (to : TE) (t : TA) : TE := fun σ H Q => to σ H fun x H1 => match x with
  | .str z => t σ H1 fun vs H2 => r (.str z) vs H2 Q
  | _ => False
def rAppendG : V → List V → Hp → VK → Prop := fun x vs H Q => match x, vs with
  | .ref l, [y] => (match H l with
    | some (.lst xs) => xs.length < sizeLine ∧ Q .non (upd H l (.lst (xs ++ [y])))
    | _ => False)
  | _, _ => False
def rPopG : V → List V → Hp → VK → Prop := fun x vs H Q => match x, vs with
  | .ref l, [] => (match H l with
    | some (.lst xs) => ∃ y, xs[xs.length - 1]? = some y ∧ Q y (upd H l (.lst xs.dropLast))
    | _ => False)
  | .ref l, [.int i] => (match H l with
    | some (.lst xs) => (-(2 ^ 63) ≤ i ∧ i < 2 ^ 63) ∧ ∃ k y, seqIndex? i xs.length = some k ∧ xs[k]? = some y ∧ Q y (upd H l (.lst (xs.eraseIdx k)))
    | _ => False)
  | _, _ => False
section
variable {X : Cx}
theorem g_sl : SlR X rSlG := by
  intro pins s σ H x v vl vu lo hi sl Q I rx hs pl pu h
  cases x with
  | str z => exact sl_str pins s σ H _ v vl vu lo hi sl Q I rx hs pl pu ⟨z, rfl, h.1, h.2⟩
  | ref p =>
    simp only [rSlG] at h
    split at h
    · rename_i xs h1
      exact sl_list pins s σ H _ v vl vu lo hi sl Q I rx hs pl pu ⟨p, xs, rfl, ct_lst h1, h.to⟩
    · rename_i xs h1
      exact sl_tupA pins s σ H _ v vl vu lo hi sl Q I rx hs pl pu ⟨p, xs, rfl, ct_tup h1, h.1, fun n => (h.2 n).to⟩
    · exact h.elim
  | _ => exact (show False from h).elim
theorem pg_seqG {es : List Expr} {k : Nat} {t : TGs} {n : Nat} {pos : Pos} (hc : X.calm = true) (h : PGs X es t)
    (hn : (assignEach es X.env).length = n := by rfl) (hst : (assignEach es X.env).findIdx? (·.1) = none := by rfl) : PG X (.Tuple es k pos) (gSeqG n t) := by
  refine ⟨fun pins s σ H v u Q I r hw => ?_⟩
  cases v with
  | ref p =>
    simp only [gSeqG] at hw
    split at hw
    · rename_i xs h1
      exact (pg_lst hc h hn hst).run pins s σ H _ u Q I r ⟨p, xs, rfl, ct_lst h1, hw.1, hw.2⟩
    · rename_i xs h1
      exact (pg_tup hc h hn hst).run pins s σ H _ u Q I r ⟨p, xs, rfl, ct_tup h1, hw.1, hw.2⟩
    · exact hw.elim
  | _ => exact (show False from hw).elim
theorem m_append : MtR X "list.append" rAppendG := by
  intro pins s σ H x vs v us Q I r rs h
  match x, vs, h, r, rs with
  | .ref l, [y], h, r, rs =>
    simp only [rAppendG] at h
    split at h
    · rename_i xs h1
      exact mt_append pins s σ H _ _ v us Q I r rs ⟨l, xs, y, rfl, rfl, h1, h.1, h.2⟩
    · exact h.elim
theorem m_pop : MtR X "list.pop" rPopG := by
  intro pins s σ H x vs v us Q I r rs h
  match x, vs, h, r, rs with
  | .ref l, [], h, r, rs =>
    simp only [rPopG] at h
    split at h
    · rename_i xs h1
      obtain ⟨y, h2, h3⟩ := h
      exact mt_pop pins s σ H _ _ v us Q I r rs ⟨l, xs, y, rfl, rfl, h1, h2, h3⟩
    · exact h.elim
  | .ref l, [.int i], h, r, rs =>
    simp only [rPopG] at h
    split at h
    · rename_i xs h1
      obtain ⟨⟨b1, b2⟩, k, y, h2, h3, h4⟩ := h
      exact mt_popAt pins s σ H _ _ v us Q I r rs ⟨l, xs, i, k, y, rfl, rfl, h1, b1, b2, h2, h3, h4⟩
    · exact h.elim
variable {o e : Expr} {es : List Expr} {to : TE} {t : TA} {name : Str} {apos cpos : Pos} {T id : String} {r : V → List V → Hp → VK → Prop}
theorem pe_mL0 (slot : Slot "list" name id) (hty : typeOf (.builtin id) = pure (.type "method_descriptor")) (hm : MtR X id r) (ho : PE X o to)
    (hbase : attributeBase o name X.env (eval o X.env) = eval o X.env := by rfl) (hline : (apos.endLine == cpos.line) = true := by rfl) : PE X (.Call (.Attribute o name apos) [] [] cpos) (tMetL r to tNil) :=
  PE.imp (pe_bm0 PySem.F.plainAttrs_list slot hty hm (PE.up ho) hbase hline) fun σ H Q h => ⟨_, h, fun v H1 q => by
    cases v with
    | ref l =>
      simp only at q
      split at q
      · rename_i xs h1
        exact ⟨.inl ⟨rfl, _, ct_lst h1⟩, q⟩
      · exact q.elim
    | _ => exact (show False from q).elim⟩
theorem pe_mL (slot : Slot "list" name id) (hty : typeOf (.builtin id) = pure (.type "method_descriptor")) (hm : MtR X id r) (ho : PE X o to) (ha : PA X (e :: es) t)
    (hbase : attributeBase o name X.env (eval o X.env) = eval o X.env := by rfl)
    (hfew : ((backTo cpos (starEach (e :: es) X.env)).all (fun x => !x.1) && (backToKw cpos (keywordEach [] X.env)).all (fun x => x.1.isSome)
      && decide ((e :: es).length + ([] : List Keyword).length + (if ([] : List Keyword).isEmpty then 0 else 1) < 30)) = true := by rfl)
    (hline : (apos.endLine == cpos.line) = true := by rfl) (hs : starEach (e :: es) X.env = (false, eval e X.env) :: starEach es X.env := by rfl) (hplain : (backTo cpos (starEach es X.env)).any (·.1) = false := by rfl) :
    PE X (.Call (.Attribute o name apos) (e :: es) [] cpos) (tMetL r to t) :=
  PE.imp (pe_bm PySem.F.plainAttrs_list slot hty hm (PE.up ho) ha hbase hfew hline hs hplain) fun σ H Q h => ⟨_, h, fun v H1 q => by
    cases v with
    | ref l =>
      simp only at q
      split at q
      · rename_i xs h1
        exact ⟨.inl ⟨rfl, _, ct_lst h1⟩, q⟩
      · exact q.elim
    | _ => exact (show False from q).elim⟩
theorem pe_mS0 (slot : Slot "str" name id) (hty : typeOf (.builtin id) = pure (.type "method_descriptor")) (hm : MtR X id r) (ho : PE X o to)
    (hbase : attributeBase o name X.env (eval o X.env) = eval o X.env := by rfl) (hline : (apos.endLine == cpos.line) = true := by rfl) : PE X (.Call (.Attribute o name apos) [] [] cpos) (tMetS r to tNil) :=
  PE.imp (pe_bm0 PySem.F.plainAttrs_str slot hty hm (PE.up ho) hbase hline) fun σ H Q h => ⟨_, h, fun v H1 q => by
    cases v with
    | str z => exact ⟨rfl, q⟩
    | _ => exact (show False from q).elim⟩
theorem pe_mS (slot : Slot "str" name id) (hty : typeOf (.builtin id) = pure (.type "method_descriptor")) (hm : MtR X id r) (ho : PE X o to) (ha : PA X (e :: es) t)
    (hbase : attributeBase o name X.env (eval o X.env) = eval o X.env := by rfl)
    (hfew : ((backTo cpos (starEach (e :: es) X.env)).all (fun x => !x.1) && (backToKw cpos (keywordEach [] X.env)).all (fun x => x.1.isSome)
      && decide ((e :: es).length + ([] : List Keyword).length + (if ([] : List Keyword).isEmpty then 0 else 1) < 30)) = true := by rfl)
    (hline : (apos.endLine == cpos.line) = true := by rfl) (hs : starEach (e :: es) X.env = (false, eval e X.env) :: starEach es X.env := by rfl) (hplain : (backTo cpos (starEach es X.env)).any (·.1) = false := by rfl) :
    PE X (.Call (.Attribute o name apos) (e :: es) [] cpos) (tMetS r to t) :=
  PE.imp (pe_bm PySem.F.plainAttrs_str slot hty hm (PE.up ho) ha hbase hfew hline hs hplain) fun σ H Q h => ⟨_, h, fun v H1 q => by
    cases v with
    | str z => exact ⟨rfl, q⟩
    | _ => exact (show False from q).elim⟩
end
/-- a field of an instance -/
def tFldG (C : Addr) (ta : TE) (f : Str) : TE := fun σ H Q => ta σ H fun x H1 => match x with
  | .ref a => (match H1 a with
    | some (.ins C' _ fs) => C' = C ∧ (match fs.lookup f with
      | some v => Q v H1
      | none => False)
    | _ => False)
  | _ => False
section
variable {X : Cx}
theorem pe_fldG {e : Expr} {f : Str} {te : TE} {pos : Pos} {C : Addr} (c : Cls X.K C) (n : NoAttr X.K C f) (he : PE X e te) (hb : attributeBase e f X.env (eval e X.env) = eval e X.env := by rfl) : PE X (.Attribute e f pos) (tFldG C te f) :=
  PE.imp (pe_fld (PE.up he) hb) fun σ H Q h => ⟨_, h, fun v H1 q => by
    cases v with
    | ref a =>
      simp only at q
      split at q
      · rename_i C' dx fs h1
        obtain ⟨rfl, q⟩ := q
        split at q
        · rename_i v h2
          exact ⟨a, _, dx, fs, v, rfl, h1, c, n, h2, q⟩
        · exact q.elim
      · exact q.elim
    | _ => exact (show False from q).elim⟩
end
/-- 'truth of a value, by its kind' -/
def truG (v : V) (H : Hp) : Option Bool := match v with
  | .non => some false
  | .bl b => some b
  | .int i => some (i != 0)
  | .ref p => (match ct H p with
    | some (.lst xs) => some (!xs.isEmpty)
    | some (.tup xs) => some (!xs.isEmpty)
    | _ => none)
  | _ => none
end G3

set_option Elab.async false
set_option linter.all false
set_option maxRecDepth 100000
/-! small laws for the readings -/
namespace G3
open PySem PySem.Spec PyProof.Rows L2
theorem atI_0 {α : Type} (x : α) (xs : List α) : atI (x :: xs) 0 = some x := by
  have h : ixN (xs.length + 1) 0 = some 0 := by unfold ixN; rw [if_pos (by omega), if_pos (by omega)] <;> rfl
  unfold atI; rw [List.length_cons, h] <;> rfl
theorem atI_1 {α : Type} (x y : α) (xs : List α) : atI (x :: y :: xs) 1 = some y := by
  have h : ixN (xs.length + 1 + 1) 1 = some 1 := by unfold ixN; rw [if_pos (by omega), if_pos (by omega)] <;> rfl
  unfold atI; rw [List.length_cons, List.length_cons, h] <;> rfl
theorem atI_2 {α : Type} (x y z : α) (xs : List α) : atI (x :: y :: z :: xs) 2 = some z := by
  have h : ixN (xs.length + 1 + 1 + 1) 2 = some 2 := by unfold ixN; rw [if_pos (by omega), if_pos (by omega)] <;> rfl
  unfold atI; rw [List.length_cons, List.length_cons, List.length_cons, h] <;> rfl
theorem atI_3 {α : Type} (x y z u : α) (xs : List α) : atI (x :: y :: z :: u :: xs) 3 = some u := by
  have h : ixN (xs.length + 1 + 1 + 1 + 1) 3 = some 3 := by unfold ixN; rw [if_pos (by omega), if_pos (by omega)] <;> rfl
  unfold atI; rw [List.length_cons, List.length_cons, List.length_cons, List.length_cons, h] <;> rfl
theorem ixN_0 {n : Nat} (h : 0 < n) : ixN n 0 = some 0 := by unfold ixN; rw [if_pos (by omega), if_pos (by omega)] <;> rfl
theorem ixN_1 {n : Nat} (h : 1 < n) : ixN n 1 = some 1 := by unfold ixN; rw [if_pos (by omega), if_pos (by omega)] <;> rfl
theorem ixN_nat {n i : Nat} (h : i < n) : ixN n (i : Int) = some i := by unfold ixN; rw [if_pos (by omega), if_pos (by omega)] <;> simp
theorem atI_nat' {α : Type} {xs : List α} {i : Nat} {x : α} (h : xs[i]? = some x) : atI xs (i : Int) = some x := by
  unfold atI
  rw [ixN_nat (List.getElem?_eq_some_iff.mp h).1]
  exact h
theorem seqIx {n i : Nat} (h : i < n) : seqIndex? (i : Int) n = some i := by
  have := ixN_seq (ixN_nat h)
  exact this.1
theorem nat_of {i : Int} (h : 0 ≤ i) : ∃ n : Nat, i = n := ⟨i.toNat, by omega⟩
theorem cMulL {i j : Int} (h1 : -(2 ^ 64) < i) (h2 : i < 2 ^ 64) : CMul i j := .inl ⟨h1, h2⟩
theorem cMulR {i j : Int} (h1 : -(2 ^ 64) < j) (h2 : j < 2 ^ 64) : CMul i j := .inr ⟨h1, h2⟩
/-- a tuple, a list that is read -/
theorem ct_l {H : Hp} {p : Addr} {xs : List V} (h : H p = some (.lst xs)) : ct H p = some (.lst xs) := by unfold ct; rw [h]
theorem ct_t {H : Hp} {p : Addr} {xs : List V} (h : H p = some (.tup xs)) : ct H p = some (.tup xs) := by unfold ct; rw [h]
theorem ite_dec {p : Prop} [Decidable p] {A B : Prop} (h1 : p → A) (h2 : ¬ p → B) : if p then A else B := by
  by_cases h : p
  · rw [if_pos h]; exact h1 h
  · rw [if_neg h]; exact h2 h
theorem sl_small {n : Nat} (h : n ≤ 1000) : n ≤ sizeLine := by rw [sizeLine_eq]; omega
theorem sl_lt {n : Nat} (h : n < 1000) : n < sizeLine := by rw [sizeLine_eq]; omega
theorem Ex.put {L : List Addr} {H H1 : Hp} {p : Addr} {o : HO} (a : Ex L H H1) (h : H p = none) : Ex L H (upd H1 p o) :=
  ⟨fun q n e => by rw [upd_ne fun z => e (by rw [z]; exact h)]; exact a.keep q n e, fun q xs e => by rw [upd_ne (ne_of_none e h)]; exact a.tup q xs e, fun q x u e => by rw [upd_ne (ne_of_none e h)]; exact a.frz q x u e⟩
theorem Ex.at1 {H H' : Hp} {q : Addr} (a : Ex [q] H H') {p : Addr} {o : HO} (h : H p = some o) (n : p ≠ q) : H' p = some o := a.at h (by simp [n])
theorem Ex.free1 {H H' : Hp} {q : Addr} (a : Ex [q] H H') {p : Addr} (h : H' p = none) (n : p ≠ q) : H p = none := a.free h (by simp [n])
theorem Ex.up1 {L : List Addr} {H H' : Hp} (a : Ex [] H H') : Ex L H H' := a.sub fun p h => nomatch h
theorem str_len (a b : Str) : (a ++ b).cps.toList = a.cps.toList ++ b.cps.toList := by
  show (a.cps ++ b.cps).toList = _
  exact Array.toList_append
/-- a statement's ways out joined: what holds behind it is said once -/
def upS (t : TS) : TS := fun D σ H => ∃ Post : L2.St → Hp → Prop, t { D with nx := Post } σ H ∧ ∀ σ' H', Post σ' H' → D.nx σ' H'
theorem PS.up {X : Cx} {st : Stmt} {t : TS} (h : PS X st t) : PS X st (upS t) := ⟨fun pins s σ H D I ⟨Post, hw, i⟩ => wpAny_mono (h.run pins s σ H _ I hw) (fun f s' q => by
  cases f with
  | next => obtain ⟨σ', H', I', q⟩ := q; exact ⟨σ', H', I', i _ _ q⟩
  | ret v => exact q
  | brk => exact q
  | cont => exact q) fun _ _ z => z⟩
section
variable {CX : CXT} {P : Program} {w : World} {K : PySem.W.Frag} {mg : Str → Option Value} {base : Heap} {N : List Str} {qual : Str} {scope : Scope} {f : Addr} {cd : Value} {A : Around} {outer : List Env} {s : Shared} {H : Hp} {E : XK}
theorem cxK : (cxOf CX P w K mg base N qual scope f cd A outer s H E).K = K := rfl
theorem cxP : (cxOf CX P w K mg base N qual scope f cd A outer s H E).prog = P := rfl
theorem cxW : (cxOf CX P w K mg base N qual scope f cd A outer s H E).w = w := rfl
end
section
variable {P : Program} {w : World} {K : PySem.W.Frag} {mg : Str → Option Value} {base : Heap} {x qual : Str} {params : Arguments} {body : List Stmt} {scope : Scope} {kws : List (Str × V)} {f : Addr}
/-- def f(a, .., *v) -/
theorem fnr_star {N ps : List Str} {pv : Str} {k : Nat} {sp : Sp} (F : ∃ fd, FunD K x qual params body scope [] kws f fd) (S : FnScope N (ps ++ [pv]) scope)
    (hb : ∀ (kV doc pm : Value) (an : Option Addr) (cdv ct : Value) (us rest : List Value), us.length = ps.length → bindArgs (PySem.W.fnOf x qual params body scope .none kV doc pm an cdv ct) ⟨us ++ rest, []⟩ = (newTuple rest >>= fun t => pure (ps.zip us ++ [(pv, t)])))
    (hbody : ∀ (cdv : Value) (A : Around) (outer : List Env) (s : Shared) (H : Hp) (vs : List V) (Q : VK) (E : XK), Room k (A.deeper (envOfC qual scope s.heap.objs.size f cdv)) → sp vs H Q E →
      ∃ t, PSs (cxOf (L2.CX P w) P w K mg base N qual scope f cdv A outer s H E) body t ∧ t { nx := fun _ H' => Q .non H', rt := Q } (start N vs) H) : FnR P w K mg base (L2.CX P w) (k + 1) f (fun vs H Q E => ∃ ws rest, vs = ws ++ rest ∧ ws.length = ps.length ∧ rest.length ≤ sizeLine ∧ ∀ p, H p = Option.none → sp (ws ++ [V.ref p]) (upd H p (.tup rest)) Q E) := by
  obtain ⟨fd, F⟩ := F
  obtain ⟨oc, od, dV, kV, doc, pm, an, cdv, ct, osl, rfl, lk, hcd, hdv, _⟩ := F.ex
  obtain rfl : dV = .none := by
    rcases hdv with ⟨_, e⟩ | ⟨e, _⟩
    · exact e
    · exact absurd rfl e
  exact StX.fn_star lk hcd S StX.cxUp (hb kV doc pm an cdv ct) fun A outer s H vs Q E hr h => hbody cdv A outer s H vs Q E hr h
end
/-- what follows a statement -/
structure Nx (u : TS) (D : Ends) (N : L2.St → Hp → Prop) : Prop where
  go : ∀ σ H, u D σ H → N σ H
theorem tsq {t u : TS} {D : Ends} {σ : L2.St} {H : Hp} (h : ∀ N, Nx u D N → t { D with nx := N } σ H) : tSeq t u D σ H := h _ ⟨fun _ _ h => h⟩
theorem tseq {t u : TS} {D : Ends} {σ : L2.St} {H : Hp} (h : t { D with nx := u D } σ H) : tSeq t u D σ H := h
theorem eqSelf {α : Type} (a : α) : (a = a) = True := eq_self a
end G3

set_option Elab.async false
set_option linter.all false
set_option maxRecDepth 100000
set_option maxHeartbeats 2000000
/-! rules of the layer for own classes with special methods -/
namespace GOp
open PySem PySem.Spec PyProof.Rows L2

section
variable {prog : Program} {w : World} {A : Around} {E : Value → Shared → Prop} {s : Shared} {K : PySem.W.Frag} {x C f : Addr} {ox : Obj} {od : Option Obj} {m : Str → Option Value} {h₀ : Heap} {L : Addr} {b tb : Value}
open PySem.W
/-- a special method that is a slot of object -/
theorem ifBound_B {M : Model} {args : List Value} {name : Str} {id : String} {Q : Option Value → Shared → Prop} (X : K.In s.heap) (I : InstAt s.heap x ox C od) (hs : findIn K (.ref C) name = some (some (.builtin id)))
    (hb : ∀ self, bindSpecial (.builtin id) self = pure (.builtin id, [self])) (h : wpAny M A (call (.builtin id) (.ref x :: args)) (fun v => Q (some v)) E s) : wpAny M A (callSpecialIfBound? (.ref x) name args) Q E s := by
  simp only [callSpecialIfBound?, bindSpecialIfBound?]
  refine wpAny_holding (wpAny_bind (wpAny_bind (wpAny_bind (I.type.here ((looks_findIn X hs).here ?_)))))
  refine wpAny_bind (wpAny_askSetting (wpAny_ite ?_))
  have fin : wpAny M A (call (.builtin id) ([.ref x] ++ args) >>= fun v => pure (some v)) Q E s := wpAny_bind (wpAny_mono h (fun v s' h' => wpAny_pure h') fun _ _ h' => h')
  split
  · exact wpAny_bind ((Looks.of_pure (hb _)).here (wpAny_pure (by exact fin)))
  · exact wpAny_tryCatch (wpAny_bind ((Looks.of_pure (hb _)).here (wpAny_pure (by exact fin))))
/-- x != b by an own __eq__ and object's __ne__ -/
theorem ne_K {Q : Value → Shared → Prop} (hu : A.units + 1 < cLine) (F : Fr h₀ L s.heap m) (X₀ : K.In h₀) (I : InstAt s.heap x ox C od) (hb : Looks (model prog w) s.heap (typeOf b) tb) (hn : notFirst K C tb = true)
    (hne : findIn K (.ref C) "__ne__" = some (some (.builtin "object.__ne__"))) (hm : mroIn K C (.type "object") = some true)
    (hs : findIn K (.ref C) "__eq__" = some (some (.ref f))) (hf : isFn K (.ref f) = true)
    (h : wpAny (model prog w) A.in1 (call (.ref f) [.ref x, b]) (W.BoolBack fun c => Q (.bool (!c))) E s) : wpAny (model prog w) A (richCompare .NotEq (.ref x) b) Q E s := by
  have X := X₀.keeps F.keep
  have hu1 : A.in1.units < cLine := hu
  have one : wpAny (model prog w) A (tryCompare (.ref x) "__ne__" b) (fun r s' => ∃ v, r = some v ∧ Q v s') E s := by
    unfold tryCompare
    refine wpAny_bind (ifBound_B X I hne PySem.F.slot_object_ne.bind (wpAny_call (codeAny_call_builtin PySem.F.slot_object_ne.plain PySem.F.cmpEntry_ne (check_slot (i := "object.__ne__") (owner := "object") (n := "__ne__") (by decide +kernel) (by decide +kernel) (I.type.andThen (looks_mroIn X hm)) (PySem.F.cmpArgs_ne _ _) ?_))))
    unfold Builtin.«object.__ne__»
    refine wpAny_bind (m := slotArgs "__ne__" 1 _) (wpAny_pure ?_)
    refine wpAny_bind (m := cRoomFor _ _) (wpAny_cRoomFor hu1 ?_)
    refine wpAny_bind (m := callSpecialIfBound? (.ref x) (Str.ofString "__eq__") _) (ifBound_K X I hs hf (wpAny_mono h (fun r s' hr => ?_) fun _ _ e => e))
    obtain ⟨c, rfl, hr⟩ : ∃ c, r = .bool c ∧ Q (.bool (!c)) s' := by
      cases r <;> first | exact hr.elim | exact ⟨_, rfl, hr⟩
    refine wpAny_bind (wpAny_truthy_bool ?_)
    refine wpAny_pure ?_
    exact wpAny_pure ⟨_, rfl, hr⟩
  unfold richCompare
  simp only [oneThing_ref]
  refine wpAny_holding (wpAny_bind (wpAny_cRoomFor (Nat.lt_of_succ_lt hu) ?_))
  refine wpAny_bind (I.type.here (wpAny_bind (hb.here ?_)))
  rw [cmpInfo_NotEq]
  dsimp only
  split
  · rename_i q
    have e : subIn K tb (.ref C) = some false := by
      rcases Bool.or_eq_true_iff.mp hn with e | e
      · rw [beq_iff_eq.mp e] at q; simp at q
      · exact beq_iff_eq.mp e
    refine wpAny_bind ((looks_subIn X e).here ?_)
    simp only [Bool.false_eq_true, if_false]
    refine wpAny_bind (wpAny_mono one (fun r s' z => ?_) fun _ _ e => e)
    obtain ⟨v, rfl, hq⟩ := z
    exact wpAny_pure hq
  · refine wpAny_bind (wpAny_pure ?_)
    simp only [Bool.false_eq_true, if_false]
    refine wpAny_bind (wpAny_mono one (fun r s' z => ?_) fun _ _ e => e)
    obtain ⟨v, rfl, hq⟩ := z
    exact wpAny_pure hq
/-- bool(x) by an own __bool__ -/
theorem bool_K {Q : Value → Shared → Prop} (F : Fr h₀ L s.heap m) (X₀ : K.In h₀) (I : InstAt s.heap x ox C od) (hs : findIn K (.ref C) "__bool__" = some (some (.ref f))) (hf : isFn K (.ref f) = true)
    (h : wpAny (model prog w) A.in1.in1 (call (.ref f) [.ref x]) (W.BoolBack fun c => Q (.bool c)) E s) : wpAny (model prog w) A (call (.type "bool") [.ref x]) Q E s := by
  refine callType_codes (T := "bool") (Bi := Builtin.«object.__init__») (Q₁ := fun r s₁ => ∃ c, r = .bool c ∧ Q r s₁) PySem.F.called_bool (PySem.F.typeCall_bool_1 _) PySem.F.entry_object_init ?_ ?_
  · refine codeAny_of_tree ?_
    show wpAny _ A.in1.in1 (do checkBuiltinCall "bool.__new__" ⟨[.type "bool", .ref x], []⟩; again (.builtin "bool.__new__" ⟨[.type "bool", .ref x], []⟩)) _ _ s
    refine wpAny_bind (wpAny_of_eq (PySem.F.newCall_bool_1 _) (wpAny_pure ⟨plainId_quiet (by decide +kernel) _, codeAny_builtin PySem.F.entry_bool_new ?_⟩))
    rw [Around.under_plainId (by decide +kernel) _]
    unfold Builtin.«bool.__new__»
    dsimp only
    refine wpAny_bind (wpAny_pure ?_)
    simp only [Bool.not_true, Bool.false_eq_true, if_false]
    refine wpAny_bind (wpAny_of_eq PySem.F.conv_sub_bool ?_)
    simp only [Bool.not_true, Bool.false_eq_true, if_false]
    refine wpAny_bind (wpAny_pure ?_)
    refine wpAny_bind (truthy_K F X₀ I hs hf (wpAny_mono h (fun r s' hr => ?_) fun _ _ e => e))
    cases r <;> first | exact hr.elim | skip
    exact wpAny_pure ⟨_, rfl, hr⟩
  · rintro obj s₁ ⟨c, rfl, hq⟩
    exact ⟨(rfl : s₁.TypeIs (.bool c) "bool"), PySem.F.args_object_init_2 _ _, object_init_meets PySem.F.called_bool.init.lookup PySem.F.called_bool.made (by decide) prog w A.in1 _ s₁ ⟨(rfl : s₁.TypeIs (.bool c) "bool"), rfl, hq⟩⟩
end

/-! ### as rules of the layer -/
section
variable {X : Cx}
/-- the type of a value, as it is looked up -/
theorem looks_ty {pins : List (Addr × Obj)} {σ : L2.St} {H : Hp} {s : Shared} {x : V} {u t : Value} (I : Inv X pins σ H s) (rx : RelV x u) (ty : TyX X.K H x t) {M : Model} : PySem.W.Looks M s.heap (typeOf u) t := by
  have at_ : ∀ {a : Addr} {o : Obj}, s.heap.get? a = some o → PySem.W.Looks M s.heap (typeOf (.ref a)) o.cls := fun {a o} e => (PySem.W.Looks.ld (part := none) e).andThen .now
  cases ty with
  | base b =>
    cases b with
    | non => cases (show u = Value.none from rx); exact .now
    | bl y => cases (show u = Value.bool y from rx); exact .now
    | int i => obtain ⟨t, q⟩ := (show ∃ t, u = Value.int i t from rx); cases q; exact .now
    | str y => obtain ⟨t, q⟩ := (show ∃ t, u = Value.str y t from rx); cases q; exact .now
    | flt y => obtain ⟨t, q⟩ := (show ∃ t, u = Value.float y t from rx); cases q; exact .now
    | @lst a xs ea =>
      cases (show u = Value.ref a from rx)
      obtain ⟨_, _, n, _, h1⟩ := (show ObjOk X.prog X.w H s.heap a (.lst xs) from I.hok a _ ea)
      exact at_ h1
    | @frz a ob xs ea =>
      cases (show u = Value.ref a from rx)
      obtain ⟨_, _, _, n, _, h1⟩ := (show ObjOk X.prog X.w H s.heap a (.frz ob (.lst xs)) from I.hok a _ ea)
      exact at_ h1
    | @tup a xs ea =>
      cases (show u = Value.ref a from rx)
      obtain ⟨_, _, _, o, h1, h2, _⟩ := (show ObjOk X.prog X.w H s.heap a (.tup xs) from I.hok a _ ea)
      exact h2 ▸ at_ h1
    | @dK a kvs ea =>
      cases (show u = Value.ref a from rx)
      obtain ⟨_, _, vs, _, o, es, ep, h1, h2, _⟩ := (show ObjOk X.prog X.w H s.heap a (.dK kvs) from I.hok a _ ea)
      exact h2.1 ▸ at_ h1
    | @dT a kvs ea =>
      cases (show u = Value.ref a from rx)
      obtain ⟨_, _, xs, _, o, es, ep, h1, h2, _⟩ := (show ObjOk X.prog X.w H s.heap a (.dT kvs) from I.hok a _ ea)
      exact h2.1 ▸ at_ h1
    | @ins a C dx fs ea cl ha hn htk hm =>
      cases (show u = Value.ref a from rx)
      obtain ⟨mA, O, _⟩ := ins_get I.hok ea
      obtain ⟨od, J, _⟩ := O.look
      exact J.type
  | byt y => obtain ⟨t, q⟩ := (show ∃ t, u = Value.bytes y t from rx); cases q; exact .now
  | @set a S n ea =>
    cases (show u = Value.ref a from rx)
    obtain ⟨o, _, _, _, e, ex, _⟩ := I.hok a _ ea
    exact ex.1 ▸ at_ e
  | @kList a o e c => cases (show u = Value.ref a from rx); exact c ▸ at_ (I.kIn a o e)
  | @kTuple a o e c => cases (show u = Value.ref a from rx); exact c ▸ at_ (I.kIn a o e)
  | @kDict a o e c => cases (show u = Value.ref a from rx); exact c ▸ at_ (I.kIn a o e)
  | @fTuple a ob xs ea =>
    cases (show u = Value.ref a from rx)
    obtain ⟨_, _, _, _, o, h1, h2, _⟩ := (show ObjOk X.prog X.w H s.heap a (.frz ob (.tup xs)) from I.hok a _ ea)
    exact h2 ▸ at_ h1
  | @fDict a ob kvs ea =>
    cases (show u = Value.ref a from rx)
    obtain ⟨_, _, _, vs, _, o, es, ep, h1, h2, _⟩ := (show ObjOk X.prog X.w H s.heap a (.frz ob (.dK kvs)) from I.hok a _ ea)
    exact h2.1 ▸ at_ h1
end
section
variable {X : Cx} {CX : CXT} {pins : List (Addr × Obj)} {σ : L2.St} {H : Hp} {s : Shared} {a C dx g : Addr} {n : Nat} {sp : Sp} {E : XK}
theorem ins_at (I : Inv X pins σ H s) {fs : List (Str × V)} (h : H a = some (.ins C dx fs)) : ∃ od, PySem.W.InstAt s.heap a (PySem.W.instObj C dx) C (some od) := by
  obtain ⟨mA, O, _⟩ := ins_get I.hok h
  obtain ⟨od, J, _⟩ := O.look
  exact ⟨od, J⟩
/-- x == y (or another comparison), x an instance of C whose def for it stands at g; y of any type t -/
def rCmpO (K : PySem.W.Frag) (C : Addr) (sp : Sp) (E : XK) : R2 := fun x y H Q => ∃ a dx fs t, x = .ref a ∧ H a = some (.ins C dx fs) ∧ TyX K H y t ∧ PySem.W.notFirst K C t = true ∧ sp [x, y] H Q E
theorem op_cmpO {op : CmpOp} (hop : ∀ a b, compareOp op a b = richCompare op a b) (hs : PySem.W.findIn X.K (.ref C) (cmpInfo op).2.1 = some (some (.ref g))) (hf : PySem.W.isFn X.K (.ref g) = true) (F : FnR X.prog X.w X.K X.mg X.base CX n g sp)
    (hr : Room n X.A) (hx : Passes CX X E) : OpR X (compareOp op) (rCmpO X.K C sp E) := by
  intro pins s σ H x y v u Q I rx ry h
  obtain ⟨a, dx, fs, t, rfl, ha, ty, hn, q⟩ := h
  cases (show v = Value.ref a from rx)
  obtain ⟨od, J⟩ := ins_at I ha
  obtain ⟨m, hF⟩ := I.fr
  rw [hop]
  refine PySem.W.cmp_K (op := op) (tb := t) hr.units0 hF I.ok.mod.kin J (looks_ty I ry ty) hn hs hf ?_
  refine wpAny_mono (wpAny_call (run_fnR (us := [.ref a, u]) (vs := [.ref a, y]) F hr hx I (.cons rfl (.cons ry .nil)) q)) (fun w s' z => ?_) fun _ _ x => x
  obtain ⟨z', H', I', rz, qz⟩ := z
  exact SlX.cmpback rz ⟨z', H', I', rz, qz⟩
/-- x != y by an own __eq__ -/
def rNeO (K : PySem.W.Frag) (C : Addr) (sp : Sp) (E : XK) : R2 := fun x y H Q => ∃ a dx fs t, x = .ref a ∧ H a = some (.ins C dx fs) ∧ TyX K H y t ∧ PySem.W.notFirst K C t = true ∧ sp [x, y] H (fun z H' => ∃ c, z = .bl c ∧ Q (.bl (!c)) H') E
theorem op_neO (hne : PySem.W.findIn X.K (.ref C) "__ne__" = some (some (.builtin "object.__ne__"))) (hm : PySem.W.mroIn X.K C (.type "object") = some true) (hs : PySem.W.findIn X.K (.ref C) "__eq__" = some (some (.ref g)))
    (hf : PySem.W.isFn X.K (.ref g) = true) (F : FnR X.prog X.w X.K X.mg X.base CX n g sp) (hr : Room (n + 1) X.A) (hx : Passes CX X E) : OpR X (compareOp .NotEq) (rNeO X.K C sp E) := by
  intro pins s σ H x y v u Q I rx ry h
  obtain ⟨a, dx, fs, t, rfl, ha, ty, hn, q⟩ := h
  cases (show v = Value.ref a from rx)
  obtain ⟨od, J⟩ := ins_at I ha
  obtain ⟨m, hF⟩ := I.fr
  show wpAny _ _ (richCompare .NotEq _ _) _ _ _
  have hu : X.A.units + 1 < cLine := hu_of hr
  refine ne_K (tb := t) hu hF I.ok.mod.kin J (looks_ty I ry ty) hn hne hm hs hf ?_
  refine wpAny_mono (wpAny_call (SlX.run_at (us := [.ref a, u]) (ws := [.ref a, y]) F hr.in1 I.env0.in1 hx I (.cons rfl (.cons ry .nil)) q)) (fun w s' z => ?_) fun _ _ x => x
  obtain ⟨z', H', I', rz, c, ez, qz⟩ := z
  subst ez
  cases (show w = Value.bool c from rz)
  exact ⟨.bl (!c), H', I', rfl, qz⟩
/-- y in x, y not in x by an own __contains__ -/
def rInO (C : Addr) (sp : Sp) (E : XK) (neg : Bool) : R2 := fun y x H Q => ∃ a dx fs, x = .ref a ∧ H a = some (.ins C dx fs) ∧ sp [x, y] H (fun z H' => ∃ c, z = .bl c ∧ Q (.bl (if neg then !c else c)) H') E
theorem op_inO (hs : PySem.W.findIn X.K (.ref C) "__contains__" = some (some (.ref g))) (hf : PySem.W.isFn X.K (.ref g) = true) (F : FnR X.prog X.w X.K X.mg X.base CX n g sp) (hr : Room n X.A) (hx : Passes CX X E) :
    OpR X (compareOp .In) (rInO C sp E false) := by
  intro pins s σ H y x v u Q I ry rx h
  obtain ⟨a, dx, fs, rfl, ha, q⟩ := h
  cases (show u = Value.ref a from rx)
  obtain ⟨od, J⟩ := ins_at I ha
  obtain ⟨m, hF⟩ := I.fr
  refine PySem.W.in_K hF I.ok.mod.kin J hs hf ?_
  refine wpAny_mono (wpAny_call (run_fnR (us := [.ref a, v]) (vs := [.ref a, y]) F hr hx I (.cons rfl (.cons ry .nil)) q)) (fun w s' z => ?_) fun _ _ x => x
  obtain ⟨z', H', I', rz, c, ez, qz⟩ := z
  subst ez
  cases (show w = Value.bool c from rz)
  exact wpAny_truthy_bool ⟨.bl c, H', I', rfl, qz⟩
theorem op_notInO (hs : PySem.W.findIn X.K (.ref C) "__contains__" = some (some (.ref g))) (hf : PySem.W.isFn X.K (.ref g) = true) (F : FnR X.prog X.w X.K X.mg X.base CX n g sp) (hr : Room n X.A) (hx : Passes CX X E) :
    OpR X (compareOp .NotIn) (rInO C sp E true) := by
  intro pins s σ H y x v u Q I ry rx h
  obtain ⟨a, dx, fs, rfl, ha, q⟩ := h
  cases (show u = Value.ref a from rx)
  obtain ⟨od, J⟩ := ins_at I ha
  obtain ⟨m, hF⟩ := I.fr
  refine PySem.W.notIn_K hF I.ok.mod.kin J hs hf ?_
  refine wpAny_mono (wpAny_call (run_fnR (us := [.ref a, v]) (vs := [.ref a, y]) F hr hx I (.cons rfl (.cons ry .nil)) q)) (fun w s' z => ?_) fun _ _ x => x
  obtain ⟨z', H', I', rz, c, ez, qz⟩ := z
  subst ez
  cases (show w = Value.bool c from rz)
  exact wpAny_truthy_bool ⟨.bl (!c), H', I', rfl, qz⟩
/-- len(x) by an own __len__ -/
def rLenO (C : Addr) (sp : Sp) (E : XK) : List V → Hp → VK → Prop := fun xs H Q => ∃ a dx fs, xs = [V.ref a] ∧ H a = some (.ins C dx fs) ∧ sp [.ref a] H (fun z H' => ∃ i : Int, z = .int i ∧ 0 ≤ i ∧ i < 2 ^ 63 ∧ Q (.int i) H') E
theorem call_lenO (hs : PySem.W.findIn X.K (.ref C) "__len__" = some (some (.ref g))) (hf : PySem.W.isFn X.K (.ref g) = true) (F : FnR X.prog X.w X.K X.mg X.base CX n g sp) (hr : Room (n + 1) X.A) (hx : Passes CX X E) : CallR X (.builtin "len") (rLenO C sp E) := by
  intro pins s σ H xs us Q I r h
  obtain ⟨a, dx, fs, rfl, ha, q⟩ := h
  obtain ⟨u, rfl, ru⟩ := r.one
  cases (show u = Value.ref a from ru)
  obtain ⟨od, J⟩ := ins_at I ha
  obtain ⟨m, hF⟩ := I.fr
  refine PySem.W.len_K hF I.ok.mod.kin J hs hf (wpAny_mono (wpAny_call (SlX.run_at (us := [.ref a]) (ws := [.ref a]) F hr.in1 I.env0.in1 hx I (.cons rfl .nil) q)) (fun w s' z => ?_) fun _ _ x => x)
  obtain ⟨z', H', I', rz, i, ez, h0, h1, qz⟩ := z
  subst ez
  obtain ⟨t, e⟩ := (show ∃ t, w = Value.int i t from rz)
  cases e
  exact ⟨⟨h0, h1⟩, .int i, H', I'.tok _, ⟨_, rfl⟩, qz⟩
/-- bool(x) by an own __bool__ -/
def rBoolO (C : Addr) (sp : Sp) (E : XK) : List V → Hp → VK → Prop := fun xs H Q => ∃ a dx fs, xs = [V.ref a] ∧ H a = some (.ins C dx fs) ∧ sp [.ref a] H (fun z H' => ∃ c, z = .bl c ∧ Q (.bl c) H') E
theorem call_boolO (hs : PySem.W.findIn X.K (.ref C) "__bool__" = some (some (.ref g))) (hf : PySem.W.isFn X.K (.ref g) = true) (F : FnR X.prog X.w X.K X.mg X.base CX n g sp) (hr : Room (n + 2) X.A) (hx : Passes CX X E) : CallR X (.type "bool") (rBoolO C sp E) := by
  intro pins s σ H xs us Q I r h
  obtain ⟨a, dx, fs, rfl, ha, q⟩ := h
  obtain ⟨u, rfl, ru⟩ := r.one
  cases (show u = Value.ref a from ru)
  obtain ⟨od, J⟩ := ins_at I ha
  obtain ⟨m, hF⟩ := I.fr
  have hr2 : Room n X.A.in1.in1 := (show Room (n + 1) X.A.in1 from Room.in1 hr).in1
  refine bool_K hF I.ok.mod.kin J hs hf (wpAny_mono (wpAny_call (SlX.run_at (us := [.ref a]) (ws := [.ref a]) F hr2 I.env0.in1.in1 hx I (.cons rfl .nil) q)) (fun w s' z => ?_) fun _ _ x => x)
  obtain ⟨z', H', I', rz, c, ez, qz⟩ := z
  subst ez
  cases (show w = Value.bool c from rz)
  exact ⟨.bl c, H', I', rfl, qz⟩
/-- x | y and the like, both instances of C -/
def rBinO (C : Addr) (sp : Sp) (E : XK) : R2 := fun x y H Q => ∃ a dx fs b dy gs, x = .ref a ∧ y = .ref b ∧ H a = some (.ins C dx fs) ∧ H b = some (.ins C dy gs) ∧ sp [x, y] H Q E
theorem op_binO {op : Operator} (hc : PySem.W.selfFirst X.K C = true) (hs : PySem.W.findIn X.K (.ref C) (PySem.dunder op.info.2) = some (some (.ref g))) (hf : PySem.W.isFn X.K (.ref g) = true) (F : FnR X.prog X.w X.K X.mg X.base CX n g sp)
    (hr : Room n X.A) (hx : Passes CX X E) : OpR X (binaryOp op) (rBinO C sp E) := by
  intro pins s σ H x y v u Q I rx ry h
  obtain ⟨a, dx, fs, b, dy, gs, rfl, rfl, ha, hb, q⟩ := h
  cases (show v = Value.ref a from rx)
  cases (show u = Value.ref b from ry)
  obtain ⟨od, J⟩ := ins_at I ha
  obtain ⟨od', J'⟩ := ins_at I hb
  obtain ⟨m, hF⟩ := I.fr
  refine PySem.W.binop_K hF I.ok.mod.kin J J'.type hc hs hf ?_
  refine wpAny_mono (wpAny_call (run_fnR (us := [.ref a, .ref b]) (vs := [.ref a, .ref b]) F hr hx I (.cons rfl (.cons rfl .nil)) q)) (fun w s' z => ?_) fun _ _ x => x
  obtain ⟨z', H', I', rz, qz⟩ := z
  exact SlX.cmpback rz ⟨z', H', I', rz, qz⟩
end

/-! ### x in t, t a tuple of data -/
section
variable {X : Cx}
def rInT (K : PySem.W.Frag) (neg : Bool) : R2 := fun x y H Q => ∃ d ds, Dp K H x d ∧ Dp K H y (.tuple ds) ∧ SeqAt.shaped d = true ∧ SeqAt.shaped (.tuple ds) = true ∧ Q (.bl (if neg then !(ds.any fun z => PyData.eqv z d) else ds.any fun z => PyData.eqv z d)) H
theorem in_tup_core {pins : List (Addr × Obj)} {σ : L2.St} {H : Hp} {s : Shared} (hu : X.A.units + 65 < cLine) {x : V} {v : Value} {a : Addr} {d : PyData} {ds : List PyData} (I : Inv X pins σ H s) (rx : RelV x v) (hd : Dp X.K H x d) (he : Dp X.K H (.ref a) (.tuple ds))
    (sd : SeqAt.shaped d = true) (se : SeqAt.shaped (.tuple ds) = true) : ∃ items : Array Value, s.heap.IsTuple a items ∧ (∀ y, y ∈ items → SeqAt.EqAt X.A.in1 s y v (PyData.eqv (SeqAt.readOf s.heap y) d)) ∧ (items.any fun y => PyData.eqv (SeqAt.readOf s.heap y) d) = ds.any fun z => PyData.eqv z d := by
  obtain ⟨bs, r1⟩ := Dp.reads I d x v hd rx
  have hxs : PyData.canLayAll0 ds = true := SeqAt.canLay_of_shaped se
  have hroom : X.A.units + 1 + min (PyData.depthAll ds) d.depth < cLine := room_in_shaped sd hu
  cases he with
  | tup hs ha =>
    obtain ⟨its, rv, ht, hlen⟩ := I.tuple hs
    obtain ⟨as, h4⟩ := Dp.readsAll I ds _ its ha rv
    have hmap : its.map (SeqAt.readOf s.heap) = ds := SeqAt.readsAll_map ds its as hxs h4
    refine ⟨its.toArray, ht, SeqAt.items_eqAt (vs := its.toArray) (show ReadsAll s.heap its.toArray.toList ds as from h4) r1 hxs (SeqAt.canLay_of_shaped sd) hroom, ?_⟩
    rw [← hmap, List.any_map, List.any_toArray] <;> rfl
theorem op_inT (hu : X.A.units + 65 < cLine) : OpR X (compareOp .In) (rInT X.K false) := by
  intro pins s σ H x y v u Q I rx ry h
  obtain ⟨d, ds, hd, he, sd, se, q⟩ := h
  have he' := he
  cases he with
  | @tup a xs _ hs ha =>
    cases (show u = Value.ref a from ry)
    obtain ⟨items, h1, h2, h3⟩ := in_tup_core hu I rx hd he' sd se
    exact SeqAt.in_tupleAt _ h1 h2 ⟨.bl _, H, I, congrArg Value.bool h3, q⟩
theorem op_notInT (hu : X.A.units + 65 < cLine) : OpR X (compareOp .NotIn) (rInT X.K true) := by
  intro pins s σ H x y v u Q I rx ry h
  obtain ⟨d, ds, hd, he, sd, se, q⟩ := h
  have he' := he
  cases he with
  | @tup a xs _ hs ha =>
    cases (show u = Value.ref a from ry)
    obtain ⟨items, h1, h2, h3⟩ := in_tup_core hu I rx hd he' sd se
    exact SeqAt.notIn_tupleAt _ h1 h2 ⟨.bl _, H, I, congrArg (fun c => Value.bool (!c)) h3, q⟩
end

/-! ### making instances -/
section
variable {X : Cx} {CX : CXT} {k : Nat} {f C p g : Addr} {sp : Sp} {E : XK} {x m : Str} {e o : Expr} {es : List Expr} {te ta : TE} {t : TA} {pp pos apos sp_ : Pos} {mc : Value} {pl : Sem Bool}
theorem pe_makeR0 (M : Mk X.K C f) (F : FnR X.prog X.w X.K X.mg X.base CX k f sp) (hr : Room (k + 1) X.A) (hg : Gl X x) (hm : X.mg x = some (.ref C)) (hx : Passes CX X E) (hdb : (x == ("__debug__" : Str)) = false := by decide) :
    PE X (.Call (.Name x pp) [] [] pos) (StX.tMakeR C sp E tNil) := by
  refine ⟨fun pins s σ H Q I h => ?_⟩
  refine wpAny_Call_Name_kw (ld_glob I hg hm ?_ hdb)
  exact PySem.W.callWith_K0 I.kIn M.kp (StX.run_makeR (us := []) M F hr hx I .nil h)
/-- C(*y) -/
theorem pe_makeS1 (M : Mk X.K C f) (F : FnR X.prog X.w X.K X.mg X.base CX k f sp) (hr : Room (k + 1) X.A) (hg : Gl X x) (hm : X.mg x = some (.ref C)) (hx : Passes CX X E) (he : PE X e te) (hdb : (x == ("__debug__" : Str)) = false := by decide)
    (hst : starEach [.Starred e sp_] X.env = [(true, eval e X.env)] := by rfl) :
    PE X (.Call (.Name x pp) [.Starred e sp_] [] pos) (StX.tMakeR C sp E (StX.tStar X.K te tNil)) := by
  refine ⟨fun pins s σ H Q I h => ?_⟩
  refine wpAny_Call_Name_kw (ld_glob I hg hm ?_ hdb)
  refine PySem.W.callWith_S (h₀ := X.base) I.ok.mod.kin M.kp (thn (he.run pins s σ H _ I h) fun v s1 ⟨y, H1, I1, ry, a, xs, ey, hxs, q⟩ => ?_) hst
  subst ey
  obtain rfl : v = Value.ref a := ry
  refine StX.star_any I1 hxs fun us s2 I2 rv => ⟨I2.kIn, ?_⟩
  have q' : ∀ x dx, H1 x = Option.none → H1 dx = Option.none → dx ≠ x → sp (V.ref x :: xs) (upd (upd H1 dx (.own x)) x (.ins C dx [])) (fun v H2 => v = .non ∧ Q (.ref x) H2) E := by
    have z : ∀ x dx, H1 x = Option.none → H1 dx = Option.none → dx ≠ x → sp (V.ref x :: (xs ++ [])) (upd (upd H1 dx (.own x)) x (.ins C dx [])) (fun v H2 => v = .non ∧ Q (.ref x) H2) E := q
    rw [List.append_nil] at z
    exact z
  exact StX.run_makeR M F hr hx I2 rv q'

open PySem.W PySem.Calls in
theorem evalArgs_star2 {M : Model} {A : Around} {E : Value → Shared → Prop} {s : Shared} {f : Value} {x : Sem Value} {b2 : Bool × Sem Value} {rest : List (Bool × Sem Value)} {Q : Args → Shared → Prop}
    (h : wpAny M A (spliced ((true, x) :: b2 :: rest)) (fun vs s₁ => Q ⟨vs, []⟩ s₁) E s) :
    wpAny M A (evalArgs f true ((true, x) :: b2 :: rest) []) Q E s := by
  unfold evalArgs
  show wpAny M A (spliced ((true, x) :: b2 :: rest) >>= _) Q E s
  refine wpAny_bind (wpAny_mono h (fun vs s' h' => ?_) fun _ _ x => x)
  refine wpAny_holding ?_
  exact wpAny_bind (wpAny_pure (wpAny_bind (wpAny_pure (wpAny_pure h'))))
/-- C(*y, *z) -/
theorem pe_makeS2 {e2 : Expr} {sp2 : Pos} (M : Mk X.K C f) (F : FnR X.prog X.w X.K X.mg X.base CX k f sp) (hr : Room (k + 1) X.A) (hg : Gl X x) (hm : X.mg x = some (.ref C)) (hx : Passes CX X E) (ha : PA X [.Starred e sp_, .Starred e2 sp2] t) (hdb : (x == ("__debug__" : Str)) = false := by decide)
    (hst : starEach [.Starred e sp_, .Starred e2 sp2] X.env = [(true, eval e X.env), (true, eval e2 X.env)] := by rfl) :
    PE X (.Call (.Name x pp) [.Starred e sp_, .Starred e2 sp2] [] pos) (StX.tMakeR C sp E t) := by
  refine ⟨fun pins s σ H Q I h => ?_⟩
  refine wpAny_Call_Name_kw (ld_glob I hg hm ?_ hdb)
  have hA := ha.run pos pins s σ H _ I h
  rw [hst] at hA ⊢
  refine PySem.W.ks_call (P := fun h => X.K.In h) rfl (PySem.W.keeps_K M.kp) (evalArgs_star2 (thn hA fun us s1 ⟨vs, H1, I1, r, q⟩ => ⟨I1.kIn, ?_⟩))
  exact StX.run_makeR M F hr hx I1 r q
/-- C.m is a staticmethod: its record at p, its def at g -/
structure SMet (K : PySem.W.Frag) (C : Addr) (mc : Value) (m : Str) (p g : Addr) : Prop where
  at_ : PySem.W.findCls K (.ref C) mc m = some (.get (.builtin "staticmethod.__get__") (.ref p) .none (.ref C))
  rc : ∃ rest, PySem.W.recIn K p "staticmethod" = some (.ref g :: rest)
  kp : PySem.W.keepIn K (.ref g) = true
/-- e.m(), e the class at C, m a staticmethod -/
def tSMeth (C : Addr) (sp : Sp) (E : XK) (ta : TE) (t : TA) : TE := fun σ H Q => ta σ H fun x H1 => x = .ref C ∧ t σ H1 fun vs H2 => sp vs H2 Q E
theorem pe_smeth0 (he : PE X o ta) (r : ClX.CRead X.K C mc) (c : SMet X.K C mc m p g) (F : FnR X.prog X.w X.K X.mg X.base CX k g sp) (hr : Room k X.A) (hx : Passes CX X E)
    (ht : eval (.Call (.Attribute o m apos) [] [] pos) X.env = (do
      let ov ← eval o X.env
      standAt apos.atName
      let (f, first) ← holding [ov] (getMethod ov m pl)
      callWith pos f first (backTo pos (starEach [] X.env)) (backToKw pos (keywordEach [] X.env))) := by rfl) :
    PE X (.Call (.Attribute o m apos) [] [] pos) (tSMeth C sp E ta tNil) := by
  refine ⟨fun pins s σ H Q I h => ?_⟩
  refine PySem.W.methodCall_KW (pl := pl) (thn (he.run pins s σ H _ I h) fun u s1 ⟨x, H1, I1, rx, ex, q⟩ => ?_) ht
  subst ex
  obtain rfl : u = Value.ref C := rx
  obtain ⟨rest, hp⟩ := c.rc
  refine PySem.W.method_cls I1.kIn r.ga (PySem.W.cls_bind I1.kIn r.rd c.at_ ?_)
  refine wpAny_call (PySem.W.sm_get (s := { s1 with toks := s1.toks + 1 }) I1.kIn hp (PySem.W.handed_on rfl ?_))
  exact PySem.W.callWith_K0 (first := []) I1.kIn c.kp (G3.run_at (us := []) F hr hx (I1.tok _) .nil q)
end
end GOp

set_option Elab.async false
set_option linter.all false
set_option maxRecDepth 100000
set_option maxHeartbeats 2000000
namespace G3
open PySem PySem.Spec PyProof.Rows L2
section
variable {prog : Program} {w : World} {A : Around} {E : Value → Shared → Prop} {s : Shared}
/-- bool(v) by v's truth -/
theorem bool_by {v : Value} {Q : Value → Shared → Prop} (h : wpAny (model prog w) A.in1.in1 (truthy v) (fun c s' => Q (.bool c) s') E s) : wpAny (model prog w) A (call (.type "bool") [v]) Q E s := by
  refine callType_codes (T := "bool") (Bi := Builtin.«object.__init__») (Q₁ := fun r s₁ => ∃ c, r = .bool c ∧ Q r s₁) PySem.F.called_bool (PySem.F.typeCall_bool_1 _) PySem.F.entry_object_init ?_ ?_
  · refine codeAny_of_tree ?_
    show wpAny _ A.in1.in1 (do checkBuiltinCall "bool.__new__" ⟨[.type "bool", v], []⟩; again (.builtin "bool.__new__" ⟨[.type "bool", v], []⟩)) _ _ s
    refine wpAny_bind (wpAny_of_eq (PySem.F.newCall_bool_1 _) (wpAny_pure ⟨plainId_quiet (by decide +kernel) _, codeAny_builtin PySem.F.entry_bool_new ?_⟩))
    rw [Around.under_plainId (by decide +kernel) _]
    unfold Builtin.«bool.__new__»
    dsimp only
    refine wpAny_bind (wpAny_pure ?_)
    simp only [Bool.not_true, Bool.false_eq_true, if_false]
    refine wpAny_bind (wpAny_of_eq PySem.F.conv_sub_bool ?_)
    simp only [Bool.not_true, Bool.false_eq_true, if_false]
    refine wpAny_bind (wpAny_pure ?_)
    exact wpAny_bind (wpAny_mono h (fun c s' hr => wpAny_pure ⟨_, rfl, hr⟩) fun _ _ e => e)
  · rintro obj s₁ ⟨c, rfl, hq⟩
    exact ⟨(rfl : s₁.TypeIs (.bool c) "bool"), PySem.F.args_object_init_2 _ _, object_init_meets PySem.F.called_bool.init.lookup PySem.F.called_bool.made (by decide) prog w A.in1 _ s₁ ⟨(rfl : s₁.TypeIs (.bool c) "bool"), rfl, hq⟩⟩
end
section
variable {X : Cx}
def rBoolG : List V → Hp → VK → Prop := fun vs H Q => match vs with
  | [.int i] => Q (.bl (i != 0)) H
  | [.bl k] => Q (.bl k) H
  | [.non] => Q (.bl false) H
  | [.ref p] => (match ct H p with
    | some (.lst xs) => Q (.bl (!xs.isEmpty)) H
    | some (.tup xs) => Q (.bl (!xs.isEmpty)) H
    | _ => False)
  | _ => False
theorem g_bool : CallR X (.type "bool") rBoolG := by
  intro pins s σ H vs us Q I r h
  have hl := line63
  match vs, h, r with
  | [.int i], h, r => exact call_bool1 pins s σ H _ us Q I r (.inl ⟨i, rfl, h⟩)
  | [.bl k], h, r => exact call_bool1 pins s σ H _ us Q I r (.inr ⟨k, rfl, h⟩)
  | [.non], h, r =>
    obtain ⟨u, rfl, ru⟩ := r.one
    cases (show u = Value.none from ru)
    exact call_bool_none ⟨.bl false, H, I, rfl, h⟩
  | [.ref p], h, r =>
    rw [Vals.ref1 r]
    simp only [rBoolG] at h
    split at h
    · rename_i xs h1
      obtain ⟨its, rv, pl, hz⟩ := I.list (ct_lst (K := X.K) h1)
      have hlen := rv.length
      exact bool_by (wpAny_truthy_list pl.isList (by simp only [List.size_toArray]; omega) ⟨.bl (!xs.isEmpty), H, I.tok _, by rw [isEmpty_of rv] <;> rfl, h⟩)
    · rename_i xs h1
      obtain ⟨its, rv, pl, hz⟩ := I.tuple (ct_tup (K := X.K) h1)
      have hlen := rv.length
      exact bool_by (truthy_tuple pl (by simp only [List.size_toArray]; omega) ⟨.bl (!xs.isEmpty), H, I.tok _, by rw [isEmpty_of rv] <;> rfl, h⟩)
    · exact h.elim
/-- rules whose readings name the written part -/
theorem k_inT {K : PySem.W.Frag} (hK : X.K = K) (hu : X.A.units + 65 < cLine) : OpR X (compareOp .In) (GOp.rInT K false) := by subst hK; exact GOp.op_inT hu
theorem k_notInT {K : PySem.W.Frag} (hK : X.K = K) (hu : X.A.units + 65 < cLine) : OpR X (compareOp .NotIn) (GOp.rInT K true) := by subst hK; exact GOp.op_notInT hu
theorem k_inD {K : PySem.W.Frag} (hK : X.K = K) (hu : X.A.units + 65 < cLine) : OpR X (compareOp .In) (rInD K) := by subst hK; exact op_inD hu
theorem k_notInD {K : PySem.W.Frag} (hK : X.K = K) (hu : X.A.units + 65 < cLine) : OpR X (compareOp .NotIn) (rNotInD K) := by subst hK; exact op_notInD hu
theorem k_eqD {K : PySem.W.Frag} (hK : X.K = K) (hu : X.A.units + 64 < cLine) : OpR X (compareOp .Eq) (rEqD K) := by subst hK; exact op_eqD hu
theorem k_neD {K : PySem.W.Frag} (hK : X.K = K) (hu : X.A.units + 64 < cLine) : OpR X (compareOp .NotEq) (rNeD K) := by subst hK; exact op_neD hu
/-- all(a list of bools), any(..) -/
def rAllG : List V → Hp → VK → Prop := fun vs H Q => match vs with
  | [.ref p] => (match ct H p with
    | some (.lst xs) => ∃ bs : List Bool, xs = bs.map V.bl ∧ Q (.bl (bs.all id)) H
    | _ => False)
  | _ => False
def rAnyG : List V → Hp → VK → Prop := fun vs H Q => match vs with
  | [.ref p] => (match ct H p with
    | some (.lst xs) => ∃ bs : List Bool, xs = bs.map V.bl ∧ Q (.bl (bs.any id)) H
    | _ => False)
  | _ => False
theorem g_all (hc : X.calm = true) : CallR X (.builtin "all") rAllG := by
  intro pins s σ H vs us Q I r h
  match vs, h, r with
  | [.ref p], h, r =>
    simp only [rAllG] at h
    split at h
    · rename_i xs h1
      obtain ⟨bs, rfl, h⟩ := h
      exact cr_all hc pins s σ H _ us Q I r ⟨p, bs, rfl, ct_lst h1, h⟩
    · exact h.elim
theorem g_any (hc : X.calm = true) : CallR X (.builtin "any") rAnyG := by
  intro pins s σ H vs us Q I r h
  match vs, h, r with
  | [.ref p], h, r =>
    simp only [rAnyG] at h
    split at h
    · rename_i xs h1
      obtain ⟨bs, rfl, h⟩ := h
      exact cr_any hc pins s σ H _ us Q I r ⟨p, bs, rfl, ct_lst h1, h⟩
    · exact h.elim
end
end G3

set_option Elab.async false
set_option linter.all false
set_option maxRecDepth 100000
set_option maxHeartbeats 2000000
/-! the facts of a law's top: any tests of the written part -/
namespace GH
open PySem PySem.W PySem.Calls PyProof.Rows He He5
abbrev Fb : Type := Frag → Bool
def obsX (fb : List Fb) (fn : List DefA) (K : Frag) : AlD := ((fb.all fun f => f K) && fn.all fun d => d.ok K, fn.map fun d => fnA K (d.at_ K))
def valX (fn : List DefA) : AlD := (true, fn.map DefA.val)
def SaysX (fb : List Fb) (fn : List DefA) (K : Frag) : Prop := obsX fb fn K = valX fn
def obsXG (n : Nat) (fb : List Fb) (fn : List DefA) (g : Addr → Option Obj) : AlD := obsX fb fn (frG g (asA g n))
def hookX (n : Nat) (fb : List Fb) (fn : List DefA) : Hook where
  α := AlD
  obs s := obsXG n fb fn s.heap.get?
  val _ := valX fn
  says _ h := ∃ K : Frag, K.In h ∧ SaysX fb fn K
  of _ _ e := ⟨_, frG_in, e⟩
  keeps := fun _ _ _ ⟨K, hK, c⟩ k => ⟨K, Frag.In.keeps hK k, c⟩
theorem obsXG_eq {n : Nat} {fb : List Fb} {fn : List DefA} {g : Addr → Option Obj} {s : Shared} (h : ∀ a, g a = s.heap.get? a) : obsXG n fb fn g = (hookX n fb fn).obs s := by
  obtain rfl : g = s.heap.get? := funext h
  rfl
section
variable {fb : List Fb} {fn : List DefA} {K : Frag} {mg : PySem.Str → Option Value}
theorem SaysX.fact (c : SaysX fb fn K) (i : Nat) {f : Fb} (h : fb[i]? = some f := by rfl) : f K = true := by
  have c1 : ((fb.all fun f => f K) && fn.all fun d => d.ok K) = true := congrArg (fun z : AlD => z.1) c
  exact List.all_eq_true.mp (ba c1).1 f (List.mem_of_getElem? h)
theorem SaysX.def_ (c : SaysX fb fn K) (i : Nat) {d : DefA} (h : fn[i]? = some d := by rfl) : ∃ fd, L2.FunD K d.name d.qual d.params d.body d.scope (d.dvs K) (d.kws K) (d.at_ K) fd := by
  have c1 : ((fb.all fun f => f K) && fn.all fun d => d.ok K) = true := congrArg (fun z : AlD => z.1) c
  have e : fn.map (fun d => fnA K (d.at_ K)) = fn.map DefA.val := congrArg (fun z : AlD => z.2) c
  have hi : i < fn.length := (List.getElem?_eq_some_iff.mp h).1
  have e2 := congrArg (fun l : List He.FnW => l[i]?) e
  simp only [List.getElem?_map, h, Option.map_some] at e2
  exact DefA.funD (Option.some.inj e2) (List.all_eq_true.mp (ba c1).2 d (List.mem_of_getElem? h))
/-- what a law's walk leans on -/
structure Tx (fb : List Fb) (fn : List DefA) (K : Frag) (mg : PySem.Str → Option Value) : Prop where
  says : SaysX fb fn K
  val : ∀ x v, nsIn K mainGlobals x = some (some v) → mg x = some v
  free : ∀ x, nsIn K mainGlobals x = some none → mg x = none
theorem Tx.of {h : Heap} (X : K.In h) (G : h.Ns mainGlobals mg) (c : SaysX fb fn K) : Tx fb fn K mg := ⟨c, fun _ _ e => mg_of X G e, fun _ e => mg_none_of X G e⟩
variable (T : Tx fb fn K mg)
include T
theorem Tx.gl (i : Nat) {x : PySem.Str} (h : fb[i]? = some (Fa.glo x).ok := by rfl) : mg x = some (.ref (ga K x)) := T.val _ _ (eqO_ok (T.says.fact i h))
theorem Tx.fr (i : Nat) {x : PySem.Str} (h : fb[i]? = some (Fa.free x).ok := by rfl) : mg x = none := T.free _ (eqO_ok (T.says.fact i h))
theorem Tx.cl (i : Nat) {x : PySem.Str} (h : fb[i]? = some (Fa.cls x).ok := by rfl) : L2.Cls K (ga K x) := cls_ok (T.says.fact i h)
theorem Tx.na (i : Nat) {x f : PySem.Str} (h : fb[i]? = some (Fa.noat x f).ok := by rfl) : L2.NoAttr K (ga K x) f := noat_ok (T.says.fact i h)
theorem Tx.mt (i : Nat) {x m : PySem.Str} (h : fb[i]? = some (Fa.meth x m).ok := by rfl) : L2.Meth K (ga K x) m (ma K (ga K x) m) := meth_ok (T.says.fact i h)
theorem Tx.mk_ (i : Nat) {x : PySem.Str} (h : fb[i]? = some (Fa.mkr x).ok := by rfl) : L2.Mk K (ga K x) (ma K (ga K x) "__init__") := mkr_ok (T.says.fact i h)
end
/-- a class whose instances are compared with anything -/
def cmpB (x : PySem.Str) : Fb := fun K => eqO (findIn K (.ref (ga K x)) "__ne__") (some (some (.builtin "object.__ne__"))) && (decide (mroIn K (ga K x) (.type "object") = some true) && (selfFirst K (ga K x) &&
  (eqO (findIn K (.ref (ga K x)) "__class__") (some (some (.builtin "object.__class__"))) && (eqO (specialIn K (.builtin "object.__class__") "__get__") (some (some (.builtin "getset_descriptor.__get__"))) &&
  (decide (takesIn K (.builtin "object.__class__") = some true) && ["NoneType", "bool", "int", "str", "list", "tuple", "dict", "float"].all fun n => notFirst K (ga K x) (.type n) && decide (kitOne K (.type n) (.ref (ga K x)) = some false))))))
structure Cmps (K : Frag) (C : Addr) : Prop where
  ne : findIn K (.ref C) "__ne__" = some (some (.builtin "object.__ne__"))
  ob : mroIn K C (.type "object") = some true
  sf : selfFirst K C = true
  ca : findIn K (.ref C) "__class__" = some (some (.builtin "object.__class__"))
  cg : specialIn K (.builtin "object.__class__") "__get__" = some (some (.builtin "getset_descriptor.__get__"))
  ct : takesIn K (.builtin "object.__class__") = some true
  nf : ∀ n ∈ (["NoneType", "bool", "int", "str", "list", "tuple", "dict", "float"] : List String), notFirst K C (.type n) = true ∧ kitOne K (.type n) (.ref C) = some false
theorem cmpB_ok {K : Frag} {x : PySem.Str} (h : cmpB x K = true) : Cmps K (ga K x) := by
  obtain ⟨h1, h⟩ := ba h
  obtain ⟨h2, h⟩ := ba h
  obtain ⟨h3, h⟩ := ba h
  obtain ⟨h4, h⟩ := ba h
  obtain ⟨h5, h⟩ := ba h
  obtain ⟨h6, h7⟩ := ba h
  refine ⟨eqO_ok h1, of_decide_eq_true h2, h3, eqO_ok h4, eqO_ok h5, of_decide_eq_true h6, fun n hn => ?_⟩
  obtain ⟨k1, k2⟩ := ba (List.all_eq_true.mp h7 n hn)
  exact ⟨k1, of_decide_eq_true k2⟩
/-- a staticmethod -/
def smB (x m : PySem.Str) : Fb := fun K => wrapB K (ga K x) "staticmethod" "staticmethod.__get__" m && (readsIn K (ga K x) (.type "type") && (eqO (specialIn K (.ref (ga K x)) "__getattribute__") (some (some (.builtin "type.__getattribute__"))) && keepIn K (.ref (wf K (ga K x) "staticmethod" m))))
theorem smB_ok {K : Frag} {x m : PySem.Str} (h : smB x m K = true) : ClX.CRead K (ga K x) (.type "type") ∧ GOp.SMet K (ga K x) (.type "type") m (ma K (ga K x) m) (wf K (ga K x) "staticmethod" m) := by
  obtain ⟨h1, h⟩ := ba h
  obtain ⟨h2, h⟩ := ba h
  obtain ⟨h3, h4⟩ := ba h
  obtain ⟨k1, k2⟩ := wrapB_ok h1
  exact ⟨⟨h2, eqO_ok h3⟩, ⟨k1, k2, h4⟩⟩
def smAd (x m : PySem.Str) (K : Frag) : Addr := wf K (ga K x) "staticmethod" m
end GH

set_option Elab.async false
set_option linter.all false
set_option maxRecDepth 100000
set_option maxHeartbeats 2000000
namespace K84
open PySem PySem.Spec PyProof.Rows L2 G3 GSet
def top (i : Nat) : Stmt := PySem.Challenge.pw_ownsignals_k84_grants_as_sets.main.body.getD i (.Pass ⟨0, 0, 0, 0⟩)
abbrev s_law_bag : Stmt := top 3
abbrev s_law_take : Stmt := top 4
abbrev s_law_of : Stmt := top 5
abbrev s_law_names : Stmt := top 6
abbrev s_law_grant : Stmt := top 7
abbrev s_law_is_grant : Stmt := top 8
abbrev s_law_pairs : Stmt := top 9
abbrev s_law : Stmt := top 10
abbrev s_Grant___init : Stmt := inClass (top 1) 0
abbrev s_Grant_none : Stmt := inClass (top 1) 2
abbrev s_Grant___len : Stmt := inClass (top 1) 3
abbrev s_Grant___bool : Stmt := inClass (top 1) 4
abbrev s_Grant___contains : Stmt := inClass (top 1) 6
abbrev s_Grant___eq : Stmt := inClass (top 1) 7
abbrev s_Grant___or : Stmt := inClass (top 1) 8
abbrev s_Grant___and : Stmt := inClass (top 1) 9
abbrev s_Grant___sub : Stmt := inClass (top 1) 10
abbrev s_Grant_within : Stmt := inClass (top 1) 11
theorem sc_law_bag : FnScope ["_law_script", "_law_at", "_law_cell", "_law_mixed", "_law_k", "_law_each"] ["_law_script", "_law_at"] (defScope s_law_bag) := ⟨rfl, rfl, rfl, by decide +kernel, rfl, by decide +kernel, by decide +kernel⟩
theorem sc_law_take : FnScope ["_law_bag_here", "_law_many", "_law_digit"] ["_law_bag_here", "_law_many"] (defScope s_law_take) := ⟨rfl, rfl, rfl, by decide +kernel, rfl, by decide +kernel, by decide +kernel⟩
theorem sc_law_of : FnScope ["_law_bag_here", "_law_some"] ["_law_bag_here", "_law_some"] (defScope s_law_of) := ⟨rfl, rfl, rfl, by decide +kernel, rfl, by decide +kernel, by decide +kernel⟩
theorem sc_law_names : FnScope ["_law_bag_here", "_law_many", "_law_letters", "_law_turn", "_law_is_last", "_law_stem", "_law_tail", "_law_left", "_law_found", "_law_sign"] ["_law_bag_here", "_law_many", "_law_letters"] (defScope s_law_names) := ⟨rfl, rfl, rfl, by decide +kernel, rfl, by decide +kernel, by decide +kernel⟩
theorem sc_law_grant : FnScope ["_law_pairs_here"] ["_law_pairs_here"] (defScope s_law_grant) := ⟨rfl, rfl, rfl, by decide +kernel, rfl, by decide +kernel, by decide +kernel⟩
theorem sc_law_is_grant : FnScope ["_law_one", "_law_due"] ["_law_one", "_law_due"] (defScope s_law_is_grant) := ⟨rfl, rfl, rfl, by decide +kernel, rfl, by decide +kernel, by decide +kernel⟩
theorem sc_law_pairs : FnScope ["_law_bag_here", "_law_pool", "_law_turn"] ["_law_bag_here", "_law_pool"] (defScope s_law_pairs) := ⟨rfl, rfl, rfl, by decide +kernel, rfl, by decide +kernel, by decide +kernel⟩
theorem sc_law : FnScope ["_law_script", "_law_bag_here", "_law_callbacks", "_law_kinds", "_law_pool", "_law_name", "_law_both", "_law_less", "_law_odd", "_law_thing", "_law_some", "_law_others", "_law_first", "_law_second", "_law_ours", "_law_theirs", "_law_kind", "_law_pair", "_law_turn"] ["_law_script"] (defScope s_law) := ⟨rfl, rfl, rfl, by decide +kernel, rfl, by decide +kernel, by decide +kernel⟩
theorem sc_Grant___init : FnScope ["self", "pairs"] ["self", "pairs"] (defScope s_Grant___init) := ⟨rfl, rfl, rfl, by decide +kernel, rfl, by decide +kernel, by decide +kernel⟩
theorem sc_Grant_none : FnScope [] [] (defScope s_Grant_none) := ⟨rfl, rfl, rfl, by decide +kernel, rfl, by decide +kernel, by decide +kernel⟩
theorem sc_Grant___len : FnScope ["self"] ["self"] (defScope s_Grant___len) := ⟨rfl, rfl, rfl, by decide +kernel, rfl, by decide +kernel, by decide +kernel⟩
theorem sc_Grant___bool : FnScope ["self"] ["self"] (defScope s_Grant___bool) := ⟨rfl, rfl, rfl, by decide +kernel, rfl, by decide +kernel, by decide +kernel⟩
theorem sc_Grant___contains : FnScope ["self", "pair"] ["self", "pair"] (defScope s_Grant___contains) := ⟨rfl, rfl, rfl, by decide +kernel, rfl, by decide +kernel, by decide +kernel⟩
theorem sc_Grant___eq : FnScope ["self", "other"] ["self", "other"] (defScope s_Grant___eq) := ⟨rfl, rfl, rfl, by decide +kernel, rfl, by decide +kernel, by decide +kernel⟩
theorem sc_Grant___or : FnScope ["self", "other"] ["self", "other"] (defScope s_Grant___or) := ⟨rfl, rfl, rfl, by decide +kernel, rfl, by decide +kernel, by decide +kernel⟩
theorem sc_Grant___and : FnScope ["self", "other", "found", "pair"] ["self", "other"] (defScope s_Grant___and) := ⟨rfl, rfl, rfl, by decide +kernel, rfl, by decide +kernel, by decide +kernel⟩
theorem sc_Grant___sub : FnScope ["self", "other", "found", "pair"] ["self", "other"] (defScope s_Grant___sub) := ⟨rfl, rfl, rfl, by decide +kernel, rfl, by decide +kernel, by decide +kernel⟩
theorem sc_Grant_within : FnScope ["self", "other", "pair"] ["self", "other"] (defScope s_Grant_within) := ⟨rfl, rfl, rfl, by decide +kernel, rfl, by decide +kernel, by decide +kernel⟩
def d_law_bag : He5.DefA := ⟨fun K => He.ga K "_law_bag", "_law_bag", "_law_bag", defArgs s_law_bag, defBody s_law_bag, defScope s_law_bag, [], []⟩
def d_law_take : He5.DefA := ⟨fun K => He.ga K "_law_take", "_law_take", "_law_take", defArgs s_law_take, defBody s_law_take, defScope s_law_take, [], []⟩
def d_law_of : He5.DefA := ⟨fun K => He.ga K "_law_of", "_law_of", "_law_of", defArgs s_law_of, defBody s_law_of, defScope s_law_of, [], []⟩
def d_law_names : He5.DefA := ⟨fun K => He.ga K "_law_names", "_law_names", "_law_names", defArgs s_law_names, defBody s_law_names, defScope s_law_names, [], []⟩
def d_law_grant : He5.DefA := ⟨fun K => He.ga K "_law_grant", "_law_grant", "_law_grant", defArgs s_law_grant, defBody s_law_grant, defScope s_law_grant, [], []⟩
def d_law_is_grant : He5.DefA := ⟨fun K => He.ga K "_law_is_grant", "_law_is_grant", "_law_is_grant", defArgs s_law_is_grant, defBody s_law_is_grant, defScope s_law_is_grant, [], []⟩
def d_law_pairs : He5.DefA := ⟨fun K => He.ga K "_law_pairs", "_law_pairs", "_law_pairs", defArgs s_law_pairs, defBody s_law_pairs, defScope s_law_pairs, [], []⟩
def d_law : He5.DefA := ⟨fun K => He.ga K "law", "law", "law", defArgs s_law, defBody s_law, defScope s_law, [], []⟩
def d_Grant___init : He5.DefA := ⟨fun K => He.ma K (He.ga K "Grant") "__init__", "__init__", "Grant.__init__", defArgs s_Grant___init, defBody s_Grant___init, defScope s_Grant___init, [], []⟩
def d_Grant_none : He5.DefA := ⟨GH.smAd "Grant" "none", "none", "Grant.none", defArgs s_Grant_none, defBody s_Grant_none, defScope s_Grant_none, [], []⟩
def d_Grant___len : He5.DefA := ⟨fun K => He.ma K (He.ga K "Grant") "__len__", "__len__", "Grant.__len__", defArgs s_Grant___len, defBody s_Grant___len, defScope s_Grant___len, [], []⟩
def d_Grant___bool : He5.DefA := ⟨fun K => He.ma K (He.ga K "Grant") "__bool__", "__bool__", "Grant.__bool__", defArgs s_Grant___bool, defBody s_Grant___bool, defScope s_Grant___bool, [], []⟩
def d_Grant___contains : He5.DefA := ⟨fun K => He.ma K (He.ga K "Grant") "__contains__", "__contains__", "Grant.__contains__", defArgs s_Grant___contains, defBody s_Grant___contains, defScope s_Grant___contains, [], []⟩
def d_Grant___eq : He5.DefA := ⟨fun K => He.ma K (He.ga K "Grant") "__eq__", "__eq__", "Grant.__eq__", defArgs s_Grant___eq, defBody s_Grant___eq, defScope s_Grant___eq, [], []⟩
def d_Grant___or : He5.DefA := ⟨fun K => He.ma K (He.ga K "Grant") "__or__", "__or__", "Grant.__or__", defArgs s_Grant___or, defBody s_Grant___or, defScope s_Grant___or, [], []⟩
def d_Grant___and : He5.DefA := ⟨fun K => He.ma K (He.ga K "Grant") "__and__", "__and__", "Grant.__and__", defArgs s_Grant___and, defBody s_Grant___and, defScope s_Grant___and, [], []⟩
def d_Grant___sub : He5.DefA := ⟨fun K => He.ma K (He.ga K "Grant") "__sub__", "__sub__", "Grant.__sub__", defArgs s_Grant___sub, defBody s_Grant___sub, defScope s_Grant___sub, [], []⟩
def d_Grant_within : He5.DefA := ⟨fun K => He.ma K (He.ga K "Grant") "within", "within", "Grant.within", defArgs s_Grant_within, defBody s_Grant_within, defScope s_Grant_within, [], []⟩
def facts : List GH.Fb := [(He.Fa.free "len").ok, (He.Fa.free "int").ok, (He.Fa.free "abs").ok, (He.Fa.free "enumerate").ok, (He.Fa.free "range").ok, (He.Fa.free "list").ok, (He.Fa.free "tuple").ok, (He.Fa.free "set").ok, (He.Fa.free "sorted").ok, (He.Fa.free "bool").ok, (He.Fa.free "isinstance").ok, (He.Fa.free "all").ok, (He.Fa.glo "_law_bag").ok, (He.Fa.glo "_law_take").ok, (He.Fa.glo "_law_of").ok, (He.Fa.glo "_law_names").ok, (He.Fa.glo "_law_grant").ok, (He.Fa.glo "_law_is_grant").ok, (He.Fa.glo "_law_pairs").ok, (He.Fa.glo "law").ok, (He.Fa.glo "Grant").ok, (He.Fa.keep "_law_bag").ok, (He.Fa.keep "_law_take").ok, (He.Fa.keep "_law_of").ok, (He.Fa.keep "_law_names").ok, (He.Fa.keep "_law_grant").ok, (He.Fa.keep "_law_is_grant").ok, (He.Fa.keep "_law_pairs").ok, (He.Fa.keep "law").ok, (He.Fa.cls "Grant").ok, (He.Fa.noat "Grant" "pairs").ok, (He.Fa.meth "Grant" "within").ok, (He.Fa.meth "Grant" "__len__").ok, (He.Fa.meth "Grant" "__bool__").ok, (He.Fa.meth "Grant" "__contains__").ok, (He.Fa.meth "Grant" "__eq__").ok, (He.Fa.meth "Grant" "__or__").ok, (He.Fa.meth "Grant" "__and__").ok, (He.Fa.meth "Grant" "__sub__").ok, (He.Fa.mkr "Grant").ok, GH.cmpB "Grant", GH.smB "Grant" "none", (fun K => decide (PySem.W.kitOne K (.ref (He.ga K "Grant")) (.ref (He.ga K "Grant")) = some true))]
def fns : List He5.DefA := [d_law_bag, d_law_take, d_law_of, d_law_names, d_law_grant, d_law_is_grant, d_law_pairs, d_law, d_Grant___init, d_Grant_none, d_Grant___len, d_Grant___bool, d_Grant___contains, d_Grant___eq, d_Grant___or, d_Grant___and, d_Grant___sub, d_Grant_within]
abbrev TX (K : PySem.W.Frag) (mg : Str → Option Value) : Prop := GH.Tx facts fns K mg
section
variable {K : PySem.W.Frag} {mg : Str → Option Value} (T : TX K mg)
include T
theorem b_len : mg "len" = none := T.fr 0
theorem b_int : mg "int" = none := T.fr 1
theorem b_abs : mg "abs" = none := T.fr 2
theorem b_enumerate : mg "enumerate" = none := T.fr 3
theorem b_range : mg "range" = none := T.fr 4
theorem b_list : mg "list" = none := T.fr 5
theorem b_tuple : mg "tuple" = none := T.fr 6
theorem b_set : mg "set" = none := T.fr 7
theorem b_sorted : mg "sorted" = none := T.fr 8
theorem b_bool : mg "bool" = none := T.fr 9
theorem b_isinstance : mg "isinstance" = none := T.fr 10
theorem b_all : mg "all" = none := T.fr 11
theorem g_law_bag : mg "_law_bag" = some (.ref (He.ga K "_law_bag")) := T.gl 12
theorem g_law_take : mg "_law_take" = some (.ref (He.ga K "_law_take")) := T.gl 13
theorem g_law_of : mg "_law_of" = some (.ref (He.ga K "_law_of")) := T.gl 14
theorem g_law_names : mg "_law_names" = some (.ref (He.ga K "_law_names")) := T.gl 15
theorem g_law_grant : mg "_law_grant" = some (.ref (He.ga K "_law_grant")) := T.gl 16
theorem g_law_is_grant : mg "_law_is_grant" = some (.ref (He.ga K "_law_is_grant")) := T.gl 17
theorem g_law_pairs : mg "_law_pairs" = some (.ref (He.ga K "_law_pairs")) := T.gl 18
theorem g_law : mg "law" = some (.ref (He.ga K "law")) := T.gl 19
theorem g_Grant : mg "Grant" = some (.ref (He.ga K "Grant")) := T.gl 20
theorem k_law_bag : PySem.W.keepIn K (.ref (He.ga K "_law_bag")) = true := T.says.fact 21
theorem k_law_take : PySem.W.keepIn K (.ref (He.ga K "_law_take")) = true := T.says.fact 22
theorem k_law_of : PySem.W.keepIn K (.ref (He.ga K "_law_of")) = true := T.says.fact 23
theorem k_law_names : PySem.W.keepIn K (.ref (He.ga K "_law_names")) = true := T.says.fact 24
theorem k_law_grant : PySem.W.keepIn K (.ref (He.ga K "_law_grant")) = true := T.says.fact 25
theorem k_law_is_grant : PySem.W.keepIn K (.ref (He.ga K "_law_is_grant")) = true := T.says.fact 26
theorem k_law_pairs : PySem.W.keepIn K (.ref (He.ga K "_law_pairs")) = true := T.says.fact 27
theorem k_law : PySem.W.keepIn K (.ref (He.ga K "law")) = true := T.says.fact 28
theorem cl_Grant : L2.Cls K (He.ga K "Grant") := T.cl 29
theorem na_Grant_pairs : L2.NoAttr K (He.ga K "Grant") "pairs" := T.na 30
theorem mt_Grant_within : L2.Meth K (He.ga K "Grant") "within" (He.ma K (He.ga K "Grant") "within") := T.mt 31
theorem mt_Grant___len__ : L2.Meth K (He.ga K "Grant") "__len__" (He.ma K (He.ga K "Grant") "__len__") := T.mt 32
theorem mt_Grant___bool__ : L2.Meth K (He.ga K "Grant") "__bool__" (He.ma K (He.ga K "Grant") "__bool__") := T.mt 33
theorem mt_Grant___contains__ : L2.Meth K (He.ga K "Grant") "__contains__" (He.ma K (He.ga K "Grant") "__contains__") := T.mt 34
theorem mt_Grant___eq__ : L2.Meth K (He.ga K "Grant") "__eq__" (He.ma K (He.ga K "Grant") "__eq__") := T.mt 35
theorem mt_Grant___or__ : L2.Meth K (He.ga K "Grant") "__or__" (He.ma K (He.ga K "Grant") "__or__") := T.mt 36
theorem mt_Grant___and__ : L2.Meth K (He.ga K "Grant") "__and__" (He.ma K (He.ga K "Grant") "__and__") := T.mt 37
theorem mt_Grant___sub__ : L2.Meth K (He.ga K "Grant") "__sub__" (He.ma K (He.ga K "Grant") "__sub__") := T.mt 38
theorem mk_Grant : L2.Mk K (He.ga K "Grant") (He.ma K (He.ga K "Grant") "__init__") := T.mk_ 39
theorem cmp_Grant : (GH.cmpB "Grant") K = true := T.says.fact 40
theorem sm_none : (GH.smB "Grant" "none") K = true := T.says.fact 41
theorem kit_Grant : ((fun K => decide (PySem.W.kitOne K (.ref (He.ga K "Grant")) (.ref (He.ga K "Grant")) = some true))) K = true := T.says.fact 42
theorem fd_law_bag : ∃ fd, FunD K "_law_bag" "_law_bag" (defArgs s_law_bag) (defBody s_law_bag) (defScope s_law_bag) [] [] (d_law_bag.at_ K) fd := T.says.def_ 0
theorem fd_law_take : ∃ fd, FunD K "_law_take" "_law_take" (defArgs s_law_take) (defBody s_law_take) (defScope s_law_take) [] [] (d_law_take.at_ K) fd := T.says.def_ 1
theorem fd_law_of : ∃ fd, FunD K "_law_of" "_law_of" (defArgs s_law_of) (defBody s_law_of) (defScope s_law_of) [] [] (d_law_of.at_ K) fd := T.says.def_ 2
theorem fd_law_names : ∃ fd, FunD K "_law_names" "_law_names" (defArgs s_law_names) (defBody s_law_names) (defScope s_law_names) [] [] (d_law_names.at_ K) fd := T.says.def_ 3
theorem fd_law_grant : ∃ fd, FunD K "_law_grant" "_law_grant" (defArgs s_law_grant) (defBody s_law_grant) (defScope s_law_grant) [] [] (d_law_grant.at_ K) fd := T.says.def_ 4
theorem fd_law_is_grant : ∃ fd, FunD K "_law_is_grant" "_law_is_grant" (defArgs s_law_is_grant) (defBody s_law_is_grant) (defScope s_law_is_grant) [] [] (d_law_is_grant.at_ K) fd := T.says.def_ 5
theorem fd_law_pairs : ∃ fd, FunD K "_law_pairs" "_law_pairs" (defArgs s_law_pairs) (defBody s_law_pairs) (defScope s_law_pairs) [] [] (d_law_pairs.at_ K) fd := T.says.def_ 6
theorem fd_law : ∃ fd, FunD K "law" "law" (defArgs s_law) (defBody s_law) (defScope s_law) [] [] (d_law.at_ K) fd := T.says.def_ 7
theorem fd_Grant___init : ∃ fd, FunD K "__init__" "Grant.__init__" (defArgs s_Grant___init) (defBody s_Grant___init) (defScope s_Grant___init) [] [] (d_Grant___init.at_ K) fd := T.says.def_ 8
theorem fd_Grant_none : ∃ fd, FunD K "none" "Grant.none" (defArgs s_Grant_none) (defBody s_Grant_none) (defScope s_Grant_none) [] [] (d_Grant_none.at_ K) fd := T.says.def_ 9
theorem fd_Grant___len : ∃ fd, FunD K "__len__" "Grant.__len__" (defArgs s_Grant___len) (defBody s_Grant___len) (defScope s_Grant___len) [] [] (d_Grant___len.at_ K) fd := T.says.def_ 10
theorem fd_Grant___bool : ∃ fd, FunD K "__bool__" "Grant.__bool__" (defArgs s_Grant___bool) (defBody s_Grant___bool) (defScope s_Grant___bool) [] [] (d_Grant___bool.at_ K) fd := T.says.def_ 11
theorem fd_Grant___contains : ∃ fd, FunD K "__contains__" "Grant.__contains__" (defArgs s_Grant___contains) (defBody s_Grant___contains) (defScope s_Grant___contains) [] [] (d_Grant___contains.at_ K) fd := T.says.def_ 12
theorem fd_Grant___eq : ∃ fd, FunD K "__eq__" "Grant.__eq__" (defArgs s_Grant___eq) (defBody s_Grant___eq) (defScope s_Grant___eq) [] [] (d_Grant___eq.at_ K) fd := T.says.def_ 13
theorem fd_Grant___or : ∃ fd, FunD K "__or__" "Grant.__or__" (defArgs s_Grant___or) (defBody s_Grant___or) (defScope s_Grant___or) [] [] (d_Grant___or.at_ K) fd := T.says.def_ 14
theorem fd_Grant___and : ∃ fd, FunD K "__and__" "Grant.__and__" (defArgs s_Grant___and) (defBody s_Grant___and) (defScope s_Grant___and) [] [] (d_Grant___and.at_ K) fd := T.says.def_ 15
theorem fd_Grant___sub : ∃ fd, FunD K "__sub__" "Grant.__sub__" (defArgs s_Grant___sub) (defBody s_Grant___sub) (defScope s_Grant___sub) [] [] (d_Grant___sub.at_ K) fd := T.says.def_ 16
theorem fd_Grant_within : ∃ fd, FunD K "within" "Grant.within" (defArgs s_Grant_within) (defBody s_Grant_within) (defScope s_Grant_within) [] [] (d_Grant_within.at_ K) fd := T.says.def_ 17
end
local macro_rules
  | `(tactic| walk_at "rd") => `(tactic| simp only [tVar, tC, tOp, tUn, tCons, tNil, tSeq, tAsg, gName, tIfS, tIf, tTest, tB, tAnd, tOr, tNot, tAndV, tOrV, tNotV, tRet, tRetN, tDrop, tNext, tBreak, tCont, tCB, tTupG, tLstG, tCR, tPar, tSl, tPart, tNoPart,
      gSub, gNil, gCons, gSeqG, tMetL, tMetS, tFldG, tForS, tForR1, tForR2, tForE1, tLcS, tLcR1, StX.tStar,
      rAddG, rSubG, rModG, rDivG, rMulG, rPowG, rCmpG, rEqG, rIxG, rLenG, rSetG, rListG, rListA, rTupG, rIntG, rAbsG, rSlG, rAppendG, rPopG, rIxL,
      L2.start, List.map_cons, List.map_nil, List.length_cons, List.length_nil, List.getElem?_cons_zero, List.getElem?_cons_succ, List.set_cons_zero, List.set_cons_succ, List.replicate_succ, List.replicate_zero, List.cons_append, List.nil_append, List.drop_succ_cons, List.drop_zero, List.drop_nil,
      Option.some.injEq, exists_eq_left', exists_eq_left, and_true, true_and, V.bl.injEq, V.int.injEq, V.str.injEq, V.ref.injEq, List.cons.injEq, Bool.not_true, Bool.not_false, if_true, if_false, Bool.false_eq_true, decide_eq_true_eq, upd_same, wipe, atI_0, atI_1, atI_2, atI_3, ixN_0, ixN_1,
      Nat.reduceLT, Nat.reduceAdd, Nat.zero_add, scal, eqS, ct, eqSelf, and_assoc, Int.toNat_natCast, sFld, StX.tMakeR, rBoolG, rAllG, rAnyG, Nat.reduceSub, Nat.sub_self, rSet2, rSorted2, exists_and_left, cxK, cxP, cxW, *])
local macro_rules
  | `(tactic| walk_at "rs") => `(tactic| simp only [tVar, tC, tOp, tUn, tCons, tNil, tAsg, gName, tIfS, tIf, tTest, tB, tAnd, tOr, tNot, tAndV, tOrV, tNotV, tRet, tRetN, tDrop, tNext, tBreak, tCont, tCB, tTupG, tLstG, tCR, tPar, tSl, tPart, tNoPart,
      gSub, gNil, gCons, gSeqG, tMetL, tMetS, tFldG, tForS, tForR1, tForR2, tForE1, tLcS, tLcR1, StX.tStar,
      rAddG, rSubG, rModG, rDivG, rMulG, rPowG, rCmpG, rEqG, rIxG, rLenG, rSetG, rListG, rListA, rTupG, rIntG, rAbsG, rSlG, rAppendG, rPopG, rIxL,
      L2.start, List.map_cons, List.map_nil, List.length_cons, List.length_nil, List.getElem?_cons_zero, List.getElem?_cons_succ, List.set_cons_zero, List.set_cons_succ, List.replicate_succ, List.replicate_zero, List.cons_append, List.nil_append, List.drop_succ_cons, List.drop_zero, List.drop_nil,
      Option.some.injEq, exists_eq_left', exists_eq_left, and_true, true_and, V.bl.injEq, V.int.injEq, V.str.injEq, V.ref.injEq, List.cons.injEq, Bool.not_true, Bool.not_false, if_true, if_false, Bool.false_eq_true, decide_eq_true_eq, upd_same, wipe, atI_0, atI_1, atI_2, atI_3, ixN_0, ixN_1,
      Nat.reduceLT, Nat.reduceAdd, Nat.zero_add, scal, eqS, ct, eqSelf, and_assoc, Int.toNat_natCast, sFld, StX.tMakeR, rBoolG, rAllG, rAnyG, Nat.reduceSub, Nat.sub_self, rSet2, rSorted2, exists_and_left, cxK, cxP, cxW, *])
section
variable {P : Program} {w : World} {K : PySem.W.Frag} {mg : Str → Option Value} {base : Heap}
/-- the bag of digits -/
def BagAt (H : Hp) (p : Addr) : Prop := ∃ x y : Int, H p = some (.lst [.int x, .int y]) ∧ 0 ≤ x ∧ 0 ≤ y ∧ y < 2147483648
def spTake : Sp := sp2 fun b m H Q _ => ∃ (p : Addr) (n : Nat), b = .ref p ∧ m = .int n ∧ 0 < n ∧ n < 1073741824 ∧ BagAt H p ∧ ∀ (d : Nat) H', d < n → BagAt H' p → Ex [p] H H' → Q (.int d) H'
theorem fn_law_take (T : TX K mg) : FnR P w K mg base (L2.CX P w) 1 (He.ga K "_law_take") spTake := by
  refine fnr (fd_law_take T) sc_law_take (fun _ _ _ _ _ _ us hl => match us, hl with | [_, _], _ => rfl) len2 fun cdv A outer s H vs Q E hr h => ⟨_, (pss_cons (ps_if (pt_cmpR g_gt (pe_ix g_ix (pv 0) pe_int (fun _ _ => rfl)) pe_int (nomark _)) (pss_cons (ps_set (i := 2) sc_law_take.nd rfl (.inl rfl) (pe_op g_mod (pe_callTy g_int (by rfl) (b_int T) (by decide +kernel) (pa_cons (pe_ix g_ix (pv 0) pe_int (fun _ _ => rfl)) pa_nil)) (pv 1))) (pss_cons (ps_asg (pe_op g_div (pe_ix g_ix (pv 0) pe_int (fun _ _ => rfl)) (pv 1)) (pg_sub (pv 0) pe_int g_set)) (pss_one (ps_ret (pv 2))))) pss_nil) (pss_cons (ps_asg (pe_op g_mod (pe_callTy g_int (by rfl) (b_int T) (by decide +kernel) (pa_cons (pe_op g_add (pe_op g_mul (pe_ix g_ix (pv 0) pe_int (fun _ _ => rfl)) pe_int) pe_int) pa_nil)) pe_int) (pg_sub (pv 0) pe_int g_set)) (pss_one (ps_ret (pe_op g_mod (pe_op g_div (pe_op g_mod (pe_callTy g_int (by rfl) (b_int T) (by decide +kernel) (pa_cons (pe_op g_mul (pe_op g_div (pe_ix g_ix (pv 0) pe_int (fun _ _ => rfl)) pe_int) pe_int) pa_nil)) pe_int) pe_int) (pv 1)))))), ?_⟩
  obtain ⟨b, m, rfl, p, n, rfl, rfl, n0, n1, ⟨x, y, hp, x0, y0, y1⟩, hQ⟩ := un2 h
  have hn : ¬ ∃ xs, H p = some (.tup xs) := by rw [hp]; rintro ⟨xs, h⟩; cases h
  have hf : ¬ ∃ x u, H p = some (.frz x u) := by rw [hp]; rintro ⟨x, u, h⟩; cases h
  have st : ∀ o, Ex [p] H (upd H p o) := fun o => Ex.set List.mem_cons_self (fun xs h => hn ⟨xs, h⟩) fun x u h => hf ⟨x, u, h⟩
  walk_at "rd"
  clear h
  refine ite_dec (fun hx => ?_) (fun hx => ?_)
  · obtain ⟨d, hd⟩ := nat_of (Int.emod_nonneg x (show (n : Int) ≠ 0 by omega))
    have hl := Int.emod_lt_of_pos x (show (0 : Int) < n by omega)
    refine ⟨by omega, by omega, by omega, ?_⟩
    rw [hd]
    exact hQ d _ (by omega) ⟨_, _, upd_same, Int.ediv_nonneg x0 (by omega), y0, y1⟩ (st _)
  · have a1 := Int.emod_nonneg (y * 48271 + 70001) (show (2147483587 : Int) ≠ 0 by decide)
    have a2 := Int.emod_lt_of_pos (y * 48271 + 70001) (show (0 : Int) < 2147483587 by decide)
    generalize (y * 48271 + 70001) % 2147483587 = z at a1 a2
    have b1 := Int.emod_nonneg (z / 13 * 39119) (show (2147483629 : Int) ≠ 0 by decide)
    generalize z / 13 * 39119 % 2147483629 = u at b1
    obtain ⟨d, hd⟩ := nat_of (Int.emod_nonneg (u / 32) (show (n : Int) ≠ 0 by omega))
    have hl := Int.emod_lt_of_pos (u / 32) (show (0 : Int) < n by omega)
    refine ⟨cMulL (by omega) (by omega), by omega, by omega, by omega, cMulL (by omega) (by omega), by omega, by omega, by omega, by omega, ?_⟩
    rw [hd]
    exact hQ d _ (by omega) ⟨_, _, upd_same, x0, a1, by omega⟩ (st _)
/-- one of a list's items -/
def spOf : Sp := sp2 fun b s H Q _ => ∃ (p q : Addr) (xs : List V), b = .ref p ∧ s = .ref q ∧ H q = some (.lst xs) ∧ q ≠ p ∧ 0 < xs.length ∧ xs.length < 1073741824 ∧ BagAt H p ∧ ∀ x H', x ∈ xs → BagAt H' p → Ex [p] H H' → Q x H'
theorem fn_law_of (T : TX K mg) : FnR P w K mg base (L2.CX P w) 2 (He.ga K "_law_of") spOf := by
  refine fnr (fd_law_of T) sc_law_of (fun _ _ _ _ _ _ us hl => match us, hl with | [_, _], _ => rfl) len2 fun cdv A outer s H vs Q E hr h => ⟨_, (pss_one (ps_ret (pe_ix g_ix (pv 1) (pe_cr (fn_law_take T) (hr.mono (by omega)) (by rfl) (g_law_take T) (k_law_take T) px (pa_cons (pv 0) (pa_cons (pe_callB g_len (by rfl) (b_len T) (by decide +kernel) (pa_cons (pv 1) pa_nil)) pa_nil))) (fun _ _ => rfl)))), ?_⟩
  obtain ⟨b, m, rfl, p, q, xs, rfl, rfl, hq, ne, n0, n1, hb, hQ⟩ := un2 h
  walk_at "rd"
  refine ⟨p, xs.length, rfl, rfl, n0, n1, hb, fun d H' hd hb' ex => ?_⟩
  have hq' := ex.at hq (by simp [ne])
  have hx : xs[d]? = some xs[d] := List.getElem?_eq_getElem hd
  have ha := atI_nat' hx
  walk_at "rd"
  exact hQ _ _ (List.getElem_mem hd) hb' ex
def spBag (K : PySem.W.Frag) : Sp := sp2 fun a t H Q _ => ∃ (q : Addr) (ns : List Int) (i : Nat), a = .ref q ∧ t = .int i ∧ SqL K H q (ns.map V.int) ∧ ns.length ≤ 63 ∧ i < 1000 ∧ ∀ p H', H p = none → BagAt H' p → Ex [] H H' → Q (.ref p) H'
theorem fn_law_bag (T : TX K mg) : FnR P w K mg base (L2.CX P w) 1 (He.ga K "_law_bag") (spBag K) := by
  refine fnr (fd_law_bag T) sc_law_bag (fun _ _ _ _ _ _ us hl => match us, hl with | [_, _], _ => rfl) len2 fun cdv A outer s H vs Q E hr h => ⟨_, (pss_cons (ps_set (i := 2) sc_law_bag.nd rfl (.inl rfl) (PE.up (pe_ifExp (pt_cmpR g_lt (pv 1) (pe_callB call_len_seq (by rfl) (b_len T) (by decide +kernel) (pa_cons (pv 0) pa_nil)) (nomark _)) (pe_ix ix_list (pv 0) (pv 1) (fun _ _ => rfl)) pe_int))) (pss_cons (ps_set (i := 3) sc_law_bag.nd rfl (.inl rfl) (pe_op g_add (pe_op g_mul pe_int (pv 1)) pe_int)) (pss_cons (ps_forE1 (passes_of rfl) (by rfl) (by rfl) (b_enumerate T) (pa_cons (pe_slice sl_list (pv 0) po_none (po_some pe_int)) pa_nil) (pg_seqG (n := 2) (by rfl) (pgs_cons (pg_name (i := 4) sc_law_bag.nd rfl (.inl rfl)) (pgs_cons (pg_name (i := 5) sc_law_bag.nd rfl (.inl rfl)) pgs_nil))) (pss_one (ps_set (i := 3) sc_law_bag.nd rfl (.inl rfl) (pe_op g_mod (pe_callTy g_int (by rfl) (b_int T) (by decide +kernel) (pa_cons (pe_op g_add (pe_op g_add (pe_op g_add (pe_op g_mul (pv 3) pe_int) (pe_op g_mod (pe_callTy g_int (by rfl) (b_int T) (by decide +kernel) (pa_cons (pv 5) pa_nil)) pe_int)) (pe_op g_mul pe_int (pv 4))) pe_int) pa_nil)) pe_int)))) (pss_one (ps_ret (pg_lstD (pa_cons (PE.up (pe_ifExp (pt_cmpR g_ge (pe_callB g_abs (by rfl) (b_abs T) (by decide +kernel) (pa_cons (pv 2) pa_nil)) (pe_op g_pow pe_int pe_int) (nomark _)) (pe_callB g_abs (by rfl) (b_abs T) (by decide +kernel) (pa_cons (pv 2) pa_nil)) pe_int)) (pa_cons (pv 3) pa_nil)))))))), ?_⟩
  obtain ⟨b, m, rfl, q, ns, i, rfl, rfl, hq, hl, hi, hQ⟩ := un2 h
  clear h
  walk_at "rd"
  refine ⟨fun v H1 => (∃ c, v = .int c) ∧ H1 = H, ?_, ?_⟩
  · walk_at "rd"
    refine ⟨_, .inl hq, ?_⟩
    refine ite_dec (fun hx => ?_) (fun hx => ⟨0, rfl⟩)
    have hx' : i < ns.length := by rw [List.length_map] at hx; omega
    exact ⟨_, hq, .int ns[i], atI_nat' (by rw [List.getElem?_map, List.getElem?_eq_getElem hx'] <;> rfl), _, rfl⟩
  · rintro v H1 ⟨⟨c, rfl⟩, rfl⟩
    refine ⟨cMulL (by omega) (by omega), q, _, rfl, hq, fun u hu => ?_⟩
    obtain ⟨ms, hms⟩ : ∃ ms : List Int, cutV (ns.map V.int) none (some 60) = ms.map V.int := ⟨(ns.drop _).take _, by unfold cutV; rw [← List.map_drop, ← List.map_take]⟩
    have hml : ms.length ≤ 63 := by
      have z := cutV_length (ns.map V.int) none (some 60)
      rw [hms, List.length_map, List.length_map] at z
      omega
    rw [hms]
    refine ⟨_, SqL.of upd_same, ?_⟩
    refine ⟨fun i' σ H2 => (∃ (m : Int) (x y : Option V), σ = [some (.ref q), some (.int i), some (.int c), some (.int m), x, y] ∧ 0 ≤ m ∧ m < 2147483648) ∧ Ex [] H1 H2 ∧ H2 u = some (.lst (ms.map V.int)), ⟨⟨_, _, _, rfl, by omega, by omega⟩, Ex.new hu, upd_same⟩, fun i' σ H2 _ p => SqL.of p.2.2, ?_, ?_⟩
    · rintro i' x σ H2 hx ⟨⟨m, y1, y2, rfl, m0, m1⟩, ex, hu2⟩ t ht
      rw [List.getElem?_map] at hx
      obtain ⟨n, hn, rfl⟩ := Option.map_eq_some_iff.mp hx
      have hi' : i' < 64 := by
        have := (List.getElem?_eq_some_iff.mp hn).1
        omega
      walk_at "rd"
      have a1 := Int.emod_nonneg n (show (2147483549 : Int) ≠ 0 by decide)
      have a2 := Int.emod_lt_of_pos n (show (0 : Int) < 2147483549 by decide)
      have b1 := Int.emod_nonneg (m * 41011 + n % 2147483549 + 89 * ↑i' + 3) (show (2147483563 : Int) ≠ 0 by decide)
      have b2 := Int.emod_lt_of_pos (m * 41011 + n % 2147483549 + 89 * ↑i' + 3) (show (0 : Int) < 2147483563 by decide)
      refine ⟨cMulL (by omega) (by omega), by omega, cMulL (by omega) (by omega), by omega, b1, by omega, ex.trans (Ex.new ht), ?_⟩
      rw [upd_ne (ne_of_none hu2 ht)]
      exact hu2
    · rintro σ H2 ⟨⟨m, y1, y2, rfl, m0, m1⟩, ex, hu2⟩
      walk_at "rd"
      refine ⟨fun v H3 => (∃ c : Int, v = .int c ∧ 0 ≤ c) ∧ H3 = H2, ?_, ?_⟩
      · walk_at "rd"
        refine ⟨⟨by decide, by decide, by decide⟩, ?_⟩
        refine ite_dec (fun hx => ?_) (fun hx => by omega)
        split <;> omega
      · rintro v H3 ⟨⟨c', rfl, c0⟩, rfl⟩
        refine ⟨sl_small (by decide), fun p H4 hp hp4 ex4 => ?_⟩
        exact hQ p H4 (ex.free hp (by simp)) ⟨_, _, hp4, c0, m0, m1⟩ (ex.trans ex4)
end
end K84

set_option Elab.async false
set_option linter.all false
set_option maxRecDepth 100000
set_option maxHeartbeats 2000000
namespace K84
open PySem PySem.Spec PyProof.Rows L2 G3 GSet
local macro_rules
  | `(tactic| walk_at "rd") => `(tactic| simp only [tVar, tC, tOp, tUn, tCons, tNil, tSeq, tAsg, gName, tIfS, tIf, tTest, tB, tAnd, tOr, tNot, tAndV, tOrV, tNotV, tRet, tRetN, tDrop, tNext, tBreak, tCont, tCB, tTupG, tLstG, tCR, tPar, tSl, tPart, tNoPart,
      gSub, gNil, gCons, gSeqG, tMetL, tMetS, tFldG, tForS, tForR1, tForR2, tForE1, tLcS, tLcR1, StX.tStar,
      rAddG, rSubG, rModG, rDivG, rMulG, rPowG, rCmpG, rEqG, rIxG, rLenG, rSetG, rListG, rListA, rTupG, rIntG, rAbsG, rSlG, rAppendG, rPopG, rIxL,
      L2.start, List.map_cons, List.map_nil, List.length_cons, List.length_nil, List.getElem?_cons_zero, List.getElem?_cons_succ, List.set_cons_zero, List.set_cons_succ, List.replicate_succ, List.replicate_zero, List.cons_append, List.nil_append, List.drop_succ_cons, List.drop_zero, List.drop_nil,
      Option.some.injEq, exists_eq_left', exists_eq_left, and_true, true_and, V.bl.injEq, V.int.injEq, V.str.injEq, V.ref.injEq, List.cons.injEq, Bool.not_true, Bool.not_false, if_true, if_false, Bool.false_eq_true, decide_eq_true_eq, upd_same, wipe, atI_0, atI_1, atI_2, atI_3, ixN_0, ixN_1,
      Nat.reduceLT, Nat.reduceAdd, Nat.zero_add, scal, eqS, ct, eqSelf, and_assoc, Int.toNat_natCast, sFld, StX.tMakeR, rBoolG, rAllG, rAnyG, Nat.reduceSub, Nat.sub_self, rSet2, rSorted2, exists_and_left, cxK, cxP, cxW, *])
local macro_rules
  | `(tactic| walk_at "rs") => `(tactic| simp only [tVar, tC, tOp, tUn, tCons, tNil, tAsg, gName, tIfS, tIf, tTest, tB, tAnd, tOr, tNot, tAndV, tOrV, tNotV, tRet, tRetN, tDrop, tNext, tBreak, tCont, tCB, tTupG, tLstG, tCR, tPar, tSl, tPart, tNoPart,
      gSub, gNil, gCons, gSeqG, tMetL, tMetS, tFldG, tForS, tForR1, tForR2, tForE1, tLcS, tLcR1, StX.tStar,
      rAddG, rSubG, rModG, rDivG, rMulG, rPowG, rCmpG, rEqG, rIxG, rLenG, rSetG, rListG, rListA, rTupG, rIntG, rAbsG, rSlG, rAppendG, rPopG, rIxL,
      L2.start, List.map_cons, List.map_nil, List.length_cons, List.length_nil, List.getElem?_cons_zero, List.getElem?_cons_succ, List.set_cons_zero, List.set_cons_succ, List.replicate_succ, List.replicate_zero, List.cons_append, List.nil_append, List.drop_succ_cons, List.drop_zero, List.drop_nil,
      Option.some.injEq, exists_eq_left', exists_eq_left, and_true, true_and, V.bl.injEq, V.int.injEq, V.str.injEq, V.ref.injEq, List.cons.injEq, Bool.not_true, Bool.not_false, if_true, if_false, Bool.false_eq_true, decide_eq_true_eq, upd_same, wipe, atI_0, atI_1, atI_2, atI_3, ixN_0, ixN_1,
      Nat.reduceLT, Nat.reduceAdd, Nat.zero_add, scal, eqS, ct, eqSelf, and_assoc, Int.toNat_natCast, sFld, StX.tMakeR, rBoolG, rAllG, rAnyG, Nat.reduceSub, Nat.sub_self, rSet2, rSorted2, exists_and_left, cxK, cxP, cxW, *])
section
variable {P : Program} {w : World} {K : PySem.W.Frag} {mg : Str → Option Value} {base : Heap}
abbrev sg (c : Nat) : V := .str ⟨#[c]⟩
/-- a name of length l that begins with c -/
def Nm (c l : Nat) (y : Str) : Prop := y.cps.toList.length = l ∧ y.cps.toList.head? = some c ∧ ∀ k ∈ y.cps.toList, k < 1114112
theorem strOk_of {y : Str} (h : ∀ k ∈ y.cps.toList, k < 1114112) : PyData.strOk y = true := by
  show y.cps.all _ = true
  rw [← Array.all_toList, List.all_eq_true]
  exact fun k m => decide_eq_true (h k m)
theorem BagAt.ref {H : Hp} {p : Addr} (h : BagAt H p) : ∃ o, H p = some o := let ⟨_, _, h, _⟩ := h; ⟨_, h⟩
theorem BagAt.put {H : Hp} {p q : Addr} {o : HO} (h : BagAt H p) (n : p ≠ q) : BagAt (upd H q o) p := by
  obtain ⟨x, y, hp, r⟩ := h
  exact ⟨x, y, by rw [upd_ne n]; exact hp, r⟩
theorem BagAt.ex {H H' : Hp} {p : Addr} {L : List Addr} (h : BagAt H p) (e : Ex L H H') (n : p ∉ L) : BagAt H' p := by
  obtain ⟨x, y, hp, r⟩ := h
  exact ⟨x, y, e.at hp n, r⟩
theorem BagAt.ne {H : Hp} {p q : Addr} (h : BagAt H p) (n : H q = none) : q ≠ p := fun z => by
  obtain ⟨x, y, hp, r⟩ := h
  rw [z, hp] at n
  cases n
theorem erase_map {α β : Type} (f : α → β) : ∀ (l : List α) (i : Nat), (l.map f).eraseIdx i = (l.eraseIdx i).map f
  | [], _ => rfl
  | _ :: _, 0 => rfl
  | x :: l, i + 1 => by rw [List.map_cons, List.eraseIdx_cons_succ, erase_map f l i] <;> rfl
def spNames : Sp := sp3 fun b m l H Q _ => ∃ (p q : Addr) (n : Nat) (cs : List Nat), b = .ref p ∧ m = .int n ∧ l = .ref q ∧ n ≤ 10 ∧ H q = some (.lst (cs.map sg)) ∧ q ≠ p ∧ 0 < cs.length ∧ cs.length < 100 ∧ (∀ k ∈ cs, k < 1114112) ∧ BagAt H p ∧
  ∀ (f : Addr) (H' : Hp) (ys : List Str) (c l : Nat), H f = none → H' f = some (.lst (ys.map V.str)) → ys.length = n → c ∈ cs → (∀ y ∈ ys, Nm c l y) → l ≤ 9 → BagAt H' p → Ex [p] H H' → Q (.ref f) H'
theorem fn_law_names (T : TX K mg) : FnR P w K mg base (L2.CX P w) 3 (He.ga K "_law_names") spNames := by
  refine fnr (fd_law_names T) sc_law_names (fun _ _ _ _ _ _ us hl => match us, hl with | [_, _, _], _ => rfl) len3 fun cdv A outer s H vs Q E hr h => ⟨_, (pss_cons (ps_asg (pg_tupD (pa_cons (pe_cr (fn_law_of T) (hr.mono (by omega)) (by rfl) (g_law_of T) (k_law_of T) px (pa_cons (pv 0) (pa_cons (pv 2) pa_nil))) (pa_cons pe_str (pa_cons (pe_callTy (g_listA (by rfl)) (by rfl) (b_list T) (by decide +kernel) (pa_cons pe_str pa_nil)) (pa_cons (pg_lstD pa_nil) pa_nil))))) (pg_seqG (n := 4) (by rfl) (pgs_cons (pg_name (i := 5) sc_law_names.nd rfl (.inl rfl)) (pgs_cons (pg_name (i := 6) sc_law_names.nd rfl (.inl rfl)) (pgs_cons (pg_name (i := 7) sc_law_names.nd rfl (.inl rfl)) (pgs_cons (pg_name (i := 8) sc_law_names.nd rfl (.inl rfl)) pgs_nil)))))) (pss_cons (ps_forR1 (passes_of rfl) (by rfl) (by rfl) (b_range T) (pa_cons (pe_cr (fn_law_take T) (hr.mono (by omega)) (by rfl) (g_law_take T) (k_law_take T) px (pa_cons (pv 0) (pa_cons pe_int pa_nil))) pa_nil) (pg_name (i := 3) sc_law_names.nd rfl (.inl rfl)) (pss_one (ps_set (i := 6) sc_law_names.nd rfl (.inl rfl) (pe_op g_add (pv 6) (pe_cr (fn_law_of T) (hr.mono (by omega)) (by rfl) (g_law_of T) (k_law_of T) px (pa_cons (pv 0) (pa_cons (pe_callTy (g_listA (by rfl)) (by rfl) (b_list T) (by decide +kernel) (pa_cons pe_str pa_nil)) pa_nil))))))) (pss_cons (ps_set (i := 4) sc_law_names.nd rfl (.inl rfl) (pe_cmpR g_eq (pe_cr (fn_law_take T) (hr.mono (by omega)) (by rfl) (g_law_take T) (k_law_take T) px (pa_cons (pv 0) (pa_cons pe_int pa_nil))) pe_int (nomark _))) (pss_cons (ps_forR1 (passes_of rfl) (by rfl) (by rfl) (b_range T) (pa_cons (pv 1) pa_nil) (pg_name (i := 3) sc_law_names.nd rfl (.inl rfl)) (pss_cons (ps_set (i := 9) sc_law_names.nd rfl (.inl rfl) (pe_mL PySem.F.slot_list_pop PySem.F.type_list_pop m_pop (pv 7) (pa_cons (pe_cr (fn_law_take T) (hr.mono (by omega)) (by rfl) (g_law_take T) (k_law_take T) px (pa_cons (pv 0) (pa_cons (pe_callB g_len (by rfl) (b_len T) (by decide +kernel) (pa_cons (pv 7) pa_nil)) pa_nil))) pa_nil))) (pss_one (ps_expr (pe_mL PySem.F.slot_list_append PySem.F.type_list_append m_append (pv 8) (pa_cons (PE.up (pe_ifExp (pt_truth (pv 4) (by intro _; rfl)) (pe_op g_add (pe_op g_add (pv 5) (pv 6)) (pv 9)) (pe_op g_add (pe_op g_add (pv 5) (pv 9)) (pv 6)))) pa_nil)))))) (pss_one (ps_ret (pv 8))))))), ?_⟩
  obtain ⟨_, _, _, rfl, p, q, n, cs, rfl, rfl, rfl, hn, hq, ne, c0, c1, cok, hb, hQ⟩ := un3 h
  clear h
  walk_at "rd"
  refine ⟨p, q, cs.map sg, rfl, rfl, hq, ne, by rw [List.length_map]; exact c0, by rw [List.length_map]; omega, hb, fun x H1 hx hb1 ex1 => ?_⟩
  obtain ⟨c, hc, rfl⟩ := List.mem_map.mp hx
  refine ⟨by decide +kernel, fun lf H2 nlf hlf ex2 => ⟨by decide, fun fd H3 nfd hfd ex3 => ⟨by decide, fun tp H4 ntp htp ex4 => ?_⟩⟩⟩
  have hlf4 := ex4.at0 (ex3.at0 hlf)
  have hfd4 := ex4.at0 hfd
  have nlp : lf ≠ p := hb1.ne nlf
  have nfp : fd ≠ p := (hb1.ex ex2 (by simp)).ne nfd
  have nlfd : fd ≠ lf := Ex.ne nfd hlf
  have hb4 : BagAt H4 p := ((hb1.ex ex2 (by simp)).ex ex3 (by simp)).ex ex4 (by simp)
  have e4 : Ex [p] H H4 := ((ex1.trans ex2.up1).trans ex3.up1).trans ex4.up1
  have zlf : H lf = none := ex1.free1 nlf nlp
  have zfd : H fd = none := ex1.free1 (ex2.free nfd (by simp)) nfp
  obtain ⟨ds, hds, hdl, dok⟩ : ∃ ds : List Nat, (List.map (fun c => V.str { cps := #[c] }) (Str.ofString "0123456789").cps.toList) = ds.map sg ∧ ds.length = 10 ∧ ∀ k ∈ ds, k < 1114112 := ⟨_, rfl, by decide +kernel, by decide +kernel⟩
  rw [hds] at hlf4
  walk_at "rd"
  refine ⟨p, 4, rfl, rfl, by decide, by decide, hb4, fun d H5 hd hb5 ex5 => ?_⟩
  have hlf5 := ex5.at1 hlf4 nlp
  have hfd5 := ex5.at1 hfd4 nfp
  have e5 := e4.trans ex5
  walk_at "rd"
  refine ⟨by omega, by omega, ?_⟩
  refine ⟨fun i σ H6 => (∃ (t : Str) (tv : Option V), σ = [some (.ref p), some (.int n), some (.ref q), tv, none, some (sg c), some (.str t), some (.ref lf), some (.ref fd), none] ∧ t.cps.toList.length ≤ i ∧ ∀ k ∈ t.cps.toList, k < 1114112) ∧ BagAt H6 p ∧ Ex [p] H H6 ∧ H6 lf = some (.lst (ds.map sg)) ∧ H6 fd = some (.lst []), ⟨⟨_, _, rfl, by decide, fun k m => nomatch m⟩, hb5, e5, hlf5, hfd5⟩, ?_, ?_⟩
  · rintro i σ H6 hi ⟨⟨t, tv, rfl, ht, tok⟩, hb6, e6, hlf6, hfd6⟩
    walk_at "rd"
    refine ⟨by decide +kernel, fun a H7 na ha ex7 => ?_⟩
    have hb7 := hb6.ex ex7 (by simp)
    obtain ⟨es, hes, hel, eok⟩ : ∃ es : List Nat, (List.map (fun c => V.str { cps := #[c] }) (Str.ofString "abkrxyz059").cps.toList) = es.map sg ∧ es.length = 10 ∧ ∀ k ∈ es, k < 1114112 := ⟨_, rfl, by decide +kernel, by decide +kernel⟩
    rw [hes] at ha
    refine ⟨p, a, es.map sg, rfl, rfl, ha, hb6.ne na, by rw [List.length_map, hel]; decide, by rw [List.length_map, hel]; decide, hb7, fun x H8 hx hb8 ex8 => ?_⟩
    obtain ⟨c', hc', rfl⟩ := List.mem_map.mp hx
    walk_at "rd"
    have hl1 : t.length = t.cps.toList.length := by rw [Array.length_toList] <;> rfl
    refine ⟨?_, ?_, ?_, (e6.trans ex7.up1).trans ex8, ex8.at1 (ex7.at0 hlf6) nlp, ex8.at1 (ex7.at0 hfd6) nfp⟩
    · have : t.length + 1 ≤ 1000 := by omega
      exact sl_small this
    · rw [str_len, List.length_append]
      show _ + 1 ≤ _
      omega
    · intro k m
      rw [str_len] at m
      rcases List.mem_append.mp m with m | m
      · exact tok k m
      · rw [List.mem_singleton.mp m]; exact eok _ hc'
  · rintro σ H6 ⟨⟨t, tv, rfl, ht, tok⟩, hb6, e6, hlf6, hfd6⟩
    walk_at "rd"
    refine ⟨p, 2, rfl, rfl, by decide, by decide, hb6, fun d2 H7 hd2 hb7 ex7 => ?_⟩
    walk_at "rd"
    refine ⟨by omega, by omega, ?_⟩
    refine ⟨fun i σ H8 => (∃ (tv sv : Option V), σ = [some (.ref p), some (.int n), some (.ref q), tv, some (.bl (decide ((d2 : Int) = 0))), some (sg c), some (.str t), some (.ref lf), some (.ref fd), sv]) ∧ BagAt H8 p ∧ Ex [p] H H8 ∧
      (∃ ds : List Nat, H8 lf = some (.lst (ds.map sg)) ∧ ds.length = 10 - i ∧ ∀ k ∈ ds, k < 1114112) ∧ ∃ ys : List Str, H8 fd = some (.lst (ys.map V.str)) ∧ ys.length = i ∧ ∀ y ∈ ys, Nm c (t.cps.toList.length + 2) y,
      ⟨⟨_, _, rfl⟩, hb7, e6.trans ex7, ⟨ds, ex7.at1 hlf6 nlp, hdl, dok⟩, [], ex7.at1 hfd6 nfp, rfl, fun y h => nomatch h⟩, ?_, ?_⟩
    · rintro i σ H8 hi ⟨⟨tv, sv, rfl⟩, hb8, e8, ⟨us, hus, hul, uok⟩, ys, hys, hyl, hym⟩
      walk_at "rd"
      refine ⟨p, us.length, rfl, by rw [List.length_map], by omega, by omega, hb8, fun d3 H9 hd3 hb9 ex9 => ?_⟩
      have hus9 := ex9.at1 hus nlp
      have hys9 := ex9.at1 hys nfp
      have hsq : seqIndex? (d3 : Int) (us.map sg).length = some d3 := seqIx (by rw [List.length_map]; exact hd3)
      have hit : (us.map sg)[d3]? = some (sg us[d3]) := by rw [List.getElem?_map, List.getElem?_eq_getElem hd3] <;> rfl
      have hu9 : ∀ o, upd H9 lf o fd = some (.lst (ys.map V.str)) := fun o => (upd_ne nlfd).trans hys9
      walk_at "rd"
      refine ⟨by omega, by omega, ?_⟩
      refine ⟨fun v H1 => H1 = upd H9 lf (.lst ((us.map sg).eraseIdx d3)) ∧ ∃ y, v = .str y ∧ Nm c (t.cps.toList.length + 2) y, ?_, ?_⟩
      · walk_at "rd"
        have hl1 : t.length = t.cps.toList.length := by rw [Array.length_toList] <;> rfl
        have l1 : ∀ c : Nat, (⟨#[c]⟩ : Str).length = 1 := fun _ => rfl
        have l2 : ∀ a b : Str, (a ++ b).length = a.length + b.length := fun a b => by
          have z := congrArg List.length (str_len a b)
          rw [List.length_append, Array.length_toList, Array.length_toList, Array.length_toList] at z
          exact z
        have cc := cok c hc
        have uu : us[d3] < 1114112 := uok _ (List.getElem_mem hd3)
        refine ⟨_, rfl, ite_dec (fun hx => ?_) (fun hx => ?_)⟩
        · refine ⟨sl_small (by rw [l1]; omega), sl_small (by rw [l2, l1, l1]; omega), ?_, ?_, ?_⟩
          · rw [str_len, str_len, List.length_append, List.length_append]
            show 1 + _ + 1 = _
            omega
          · rw [str_len, str_len] <;> rfl
          · intro k m
            rw [str_len, str_len] at m
            rcases List.mem_append.mp m with m | m
            · rcases List.mem_append.mp m with m | m
              · rw [List.mem_singleton.mp m]; exact cc
              · exact tok k m
            · rw [List.mem_singleton.mp m]; exact uu
        · refine ⟨sl_small (by rw [l1, l1]; omega), sl_small (by rw [l2, l1, l1]; omega), ?_, ?_, ?_⟩
          · rw [str_len, str_len, List.length_append, List.length_append]
            show 1 + 1 + _ = _
            omega
          · rw [str_len, str_len] <;> rfl
          · intro k m
            rw [str_len, str_len] at m
            rcases List.mem_append.mp m with m | m
            · rcases List.mem_append.mp m with m | m
              · rw [List.mem_singleton.mp m]; exact cc
              · rw [List.mem_singleton.mp m]; exact uu
            · exact tok k m
      · rintro v _ ⟨rfl, y, rfl, hy⟩
        walk_at "rd"
        refine ⟨sl_lt (by rw [List.length_map]; omega), ⟨_, rfl⟩, (hb9.put (Ne.symm nlp)).put (Ne.symm nfp), ((e8.trans ex9).put zlf).put zfd, ⟨us.eraseIdx d3, ?_, ?_, fun k m => uok k (List.mem_of_mem_eraseIdx m)⟩, ys ++ [y], by rw [List.map_append] <;> rfl, by rw [List.length_append, hyl] <;> rfl, ?_⟩
        · rw [upd_ne (Ne.symm nlfd), upd_same, erase_map]
        · rw [List.length_eraseIdx, if_pos hd3]
          omega
        · intro z hz
          rcases List.mem_append.mp hz with hz | hz
          · exact hym z hz
          · rw [List.mem_singleton.mp hz]; exact hy
    · rintro σ H8 ⟨⟨tv, sv, rfl⟩, hb8, e8, ⟨us, hus, hul, uok⟩, ys, hys, hyl, hym⟩
      walk_at "rd"
      exact hQ fd H8 ys c _ zfd hys hyl hc hym (by omega) hb8 e8
end
end K84

set_option Elab.async false
set_option linter.all false
set_option maxRecDepth 100000
set_option maxHeartbeats 2000000
namespace K84
open PySem PySem.Spec PyProof.Rows L2 G3 GSet
local macro_rules
  | `(tactic| walk_at "rd") => `(tactic| simp only [tVar, tC, tOp, tUn, tCons, tNil, tSeq, tAsg, gName, tIfS, tIf, tTest, tB, tAnd, tOr, tNot, tAndV, tOrV, tNotV, tRet, tRetN, tDrop, tNext, tBreak, tCont, tCB, tTupG, tLstG, tCR, tPar, tSl, tPart, tNoPart,
      gSub, gNil, gCons, gSeqG, tMetL, tMetS, tFldG, tForS, tForR1, tForR2, tForE1, tLcS, tLcR1, StX.tStar,
      rAddG, rSubG, rModG, rDivG, rMulG, rPowG, rCmpG, rEqG, rIxG, rLenG, rSetG, rListG, rListA, rTupG, rIntG, rAbsG, rSlG, rAppendG, rPopG, rIxL,
      L2.start, List.map_cons, List.map_nil, List.length_cons, List.length_nil, List.getElem?_cons_zero, List.getElem?_cons_succ, List.set_cons_zero, List.set_cons_succ, List.replicate_succ, List.replicate_zero, List.cons_append, List.nil_append, List.drop_succ_cons, List.drop_zero, List.drop_nil,
      Option.some.injEq, exists_eq_left', exists_eq_left, and_true, true_and, V.bl.injEq, V.int.injEq, V.str.injEq, V.ref.injEq, List.cons.injEq, Bool.not_true, Bool.not_false, if_true, if_false, Bool.false_eq_true, decide_eq_true_eq, upd_same, wipe, atI_0, atI_1, atI_2, atI_3, ixN_0, ixN_1,
      Nat.reduceLT, Nat.reduceAdd, Nat.zero_add, scal, eqS, ct, eqSelf, and_assoc, Int.toNat_natCast, sFld, StX.tMakeR, rBoolG, rAllG, rAnyG, Nat.reduceSub, Nat.sub_self, rSet2, rSorted2, exists_and_left, cxK, cxP, cxW, *])
local macro_rules
  | `(tactic| walk_at "rs") => `(tactic| simp only [tVar, tC, tOp, tUn, tCons, tNil, tAsg, gName, tIfS, tIf, tTest, tB, tAnd, tOr, tNot, tAndV, tOrV, tNotV, tRet, tRetN, tDrop, tNext, tBreak, tCont, tCB, tTupG, tLstG, tCR, tPar, tSl, tPart, tNoPart,
      gSub, gNil, gCons, gSeqG, tMetL, tMetS, tFldG, tForS, tForR1, tForR2, tForE1, tLcS, tLcR1, StX.tStar,
      rAddG, rSubG, rModG, rDivG, rMulG, rPowG, rCmpG, rEqG, rIxG, rLenG, rSetG, rListG, rListA, rTupG, rIntG, rAbsG, rSlG, rAppendG, rPopG, rIxL,
      L2.start, List.map_cons, List.map_nil, List.length_cons, List.length_nil, List.getElem?_cons_zero, List.getElem?_cons_succ, List.set_cons_zero, List.set_cons_succ, List.replicate_succ, List.replicate_zero, List.cons_append, List.nil_append, List.drop_succ_cons, List.drop_zero, List.drop_nil,
      Option.some.injEq, exists_eq_left', exists_eq_left, and_true, true_and, V.bl.injEq, V.int.injEq, V.str.injEq, V.ref.injEq, List.cons.injEq, Bool.not_true, Bool.not_false, if_true, if_false, Bool.false_eq_true, decide_eq_true_eq, upd_same, wipe, atI_0, atI_1, atI_2, atI_3, ixN_0, ixN_1,
      Nat.reduceLT, Nat.reduceAdd, Nat.zero_add, scal, eqS, ct, eqSelf, and_assoc, Int.toNat_natCast, sFld, StX.tMakeR, rBoolG, rAllG, rAnyG, Nat.reduceSub, Nat.sub_self, rSet2, rSorted2, exists_and_left, cxK, cxP, cxW, *])
section
variable {P : Program} {w : World} {K : PySem.W.Frag} {mg : Str → Option Value} {base : Heap}
theorem room65 {k : Nat} {A : Around} (r : Room k A) : A.units + 65 < cLine := by have := r.un; omega
/-! ### pairs, grants -/
def POk (p : PT2) : Prop := PyData.strOk p.1 = true ∧ PyData.strOk p.2 = true
def PL (H : Hp) (as : List PR) : Prop := ∀ r ∈ as, H r.1 = some (.tup [.str r.2.1, .str r.2.2]) ∧ POk r.2
abbrev refs (as : List PR) : List V := as.map fun r => V.ref r.1
abbrev Srt (ps : List PT2) : Prop := ps.Pairwise LtS
abbrev GC (K : PySem.W.Frag) : Addr := He.ga K "Grant"
def GrantAt (K : PySem.W.Frag) (H : Hp) (g : Addr) (ps : List PT2) : Prop := ∃ dx t as, H g = some (.ins (GC K) dx [("pairs", .ref t)]) ∧ H t = some (.tup (refs as)) ∧ PL H as ∧ as.map (·.2) = ps ∧ Srt ps ∧ ps.length < 64
theorem PL.ex {H H' : Hp} {L : List Addr} {as : List PR} (h : PL H as) (e : Ex L H H') : PL H' as := fun r m => ⟨e.tup _ _ (h r m).1, (h r m).2⟩
theorem GrantAt.ex {H H' : Hp} {L : List Addr} {g : Addr} {ps : List PT2} (h : GrantAt K H g ps) (e : Ex L H H') (n : g ∉ L) : GrantAt K H' g ps := by
  obtain ⟨dx, t, as, h1, h2, h3, r⟩ := h
  exact ⟨dx, t, as, e.at h1 n, e.tup _ _ h2, h3.ex e, r⟩
theorem GrantAt.ne {H : Hp} {g q : Addr} {ps : List PT2} (h : GrantAt K H g ps) (n : H q = none) : g ≠ q := fun z => by
  obtain ⟨dx, t, as, h1, _⟩ := h
  rw [← z, h1] at n
  cases n
/-- sorted lists with the same members are one -/
theorem srt_ext : ∀ {ps qs : List PT2}, Srt ps → Srt qs → (∀ r, r ∈ ps ↔ r ∈ qs) → ps = qs
  | [], [], _, _, _ => rfl
  | [], q :: qs, _, _, h => nomatch (h q).mpr List.mem_cons_self
  | p :: ps, [], _, _, h => nomatch (h p).mp List.mem_cons_self
  | p :: ps, q :: qs, hp, hq, h => by
    obtain ⟨p1, p2⟩ := List.pairwise_cons.mp hp
    obtain ⟨q1, q2⟩ := List.pairwise_cons.mp hq
    have e : p = q := by
      rcases List.mem_cons.mp ((h p).mp List.mem_cons_self) with z | z
      · exact z
      · rcases List.mem_cons.mp ((h q).mpr List.mem_cons_self) with y | y
        · exact y.symm
        · exact absurd (p1 q y) (LtS.asym (q1 p z))
    subst e
    have := srt_ext p2 q2 fun r => by
      have z := h r
      simp only [List.mem_cons] at z
      constructor
      · intro m
        rcases z.mp (.inr m) with y | y
        · exact absurd (p1 r m) (by rw [y]; exact LtS.irrefl _)
        · exact y
      · intro m
        rcases z.mpr (.inr m) with y | y
        · exact absurd (q1 r m) (by rw [y]; exact LtS.irrefl _)
        · exact y
    rw [this]
/-! ### Grant.__init__ -/
def spInit (K : PySem.W.Frag) : Sp := sp2 fun s t H Q _ => ∃ (x dx q : Addr) (as : List PR), s = .ref x ∧ H x = some (.ins (GC K) dx []) ∧ t = .ref q ∧ H q = some (.tup (refs as)) ∧ PL H as ∧ as.length < 64 ∧
  ∀ (H' : Hp) (t' : Addr) (bs : List PR), Ex [x] H H' → H' x = some (.ins (GC K) dx [("pairs", .ref t')]) → H' t' = some (.tup (refs bs)) → PL H' bs → Srt (bs.map (·.2)) → (∀ r, r ∈ bs.map (·.2) ↔ r ∈ as.map (·.2)) → bs.length < 64 → Q .non H'
def spInitS (K : PySem.W.Frag) : Sp := fun vs H Q E => ∃ ws rest, vs = ws ++ rest ∧ ws.length = (["self"] : List Str).length ∧ rest.length ≤ sizeLine ∧ ∀ p, H p = Option.none → spInit K (ws ++ [V.ref p]) (upd H p (.tup rest)) Q E
theorem fn_Grant___init (T : TX K mg) : FnR P w K mg base (L2.CX P w) 1 (He.ma K (He.ga K "Grant") "__init__") (spInitS K) := by
  refine fnr_star (ps := ["self"]) (pv := "pairs") (fd_Grant___init T) sc_Grant___init (fun kV doc pm an cdv ct => StX.bind_star1 (B := fun us => bindArgs (PySem.W.fnOf "__init__" "Grant.__init__" (defArgs s_Grant___init) (defBody s_Grant___init) (defScope s_Grant___init) .none kV doc pm an cdv ct) ⟨us, []⟩) (p1 := "self") (pv := "pairs") (fun a => by rfl) fun a r rs => by rfl) fun cdv A outer s H vs Q E hr h => ?_
  have hu64 : A.units + 3 + 64 < cLine := hr.units
  refine ⟨_, (pss_one (ps_fld (pv 0) (pe_callTy g_tuple (by rfl) (b_tuple T) (by decide +kernel) (pa_cons (pe_callB (cr_sorted2 (by rfl)) (by rfl) (b_sorted T) (by decide +kernel) (pa_cons (pe_callTy (cr_set2 (by rfl) hu64) (by rfl) (b_set T) (by decide +kernel) (pa_cons (pv 1) pa_nil)) pa_nil)) pa_nil)) rfl)), ?_⟩
  obtain ⟨_, _, rfl, x, dx, q, as, rfl, hx, rfl, hq, hp, hl, hQ⟩ := un2 h
  clear h
  walk_at "rd"
  refine ⟨as, .inr (SqT.of hq), fun p m => SqT.of (hp p m).1, hl, fun a L na hL1 hL2 => ⟨L, rfl, fun p m => ?_, fun L' l pm ll st nl => ?_⟩⟩
  · have z := (hp p (hL1 p m)).1
    exact SqT.of (by rw [upd_ne (ne_of_none z na)]; exact z)
  · intro t H4 nt ht ex4
    have nl' : H l = none := by
      by_cases e : l = a
      · rw [e]; exact na
      · rw [upd_ne e] at nl; exact nl
    have ex3 : Ex [] H (upd (upd H a (SetO P w a (L.map row2))) l (.lst (L'.map fun p => V.ref p.1))) := (Ex.new na).put nl'
    have e4 := ex3.trans ex4
    have hx4 := e4.at0 hx
    have ntx : x ≠ t := by
      intro z
      rw [← z] at nt
      rw [ex3.at0 hx] at nt
      cases nt
    refine ⟨_, dx, _, hx4, cl_Grant T, na_Grant_pairs T, by decide, ?_⟩
    have hp4 : PL H4 L' := fun r m => ⟨e4.tup _ _ (hp r (hL1 r (pm.mem_iff.mp m))).1, (hp r (hL1 r (pm.mem_iff.mp m))).2⟩
    have st5 : Ex [x] H4 (upd H4 x (.ins (GC K) dx [("pairs", .ref t)])) := Ex.set List.mem_cons_self (fun xs z => by rw [hx4] at z; cases z) fun y u z => by rw [hx4] at z; cases z
    refine hQ _ t L' (e4.up1.trans st5) upd_same (by rw [upd_ne (Ne.symm ntx)]; exact ht) (hp4.ex st5) (List.pairwise_map.mpr st) (fun r => ⟨fun m => ?_, fun m => ?_⟩) ll
    · obtain ⟨p, hm, rfl⟩ := List.mem_map.mp m
      exact List.mem_map.mpr ⟨p, hL1 p (pm.mem_iff.mp hm), rfl⟩
    · obtain ⟨p, hm, rfl⟩ := List.mem_map.mp m
      obtain ⟨p2, h2, e2⟩ := List.mem_map.mp (hL2 p hm)
      exact List.mem_map.mpr ⟨p2, pm.mem_iff.mpr h2, e2⟩
/-- a new grant -/
theorem mk_grant {H : Hp} {Q : VK} {E : XK} {as : List PR} (hp : PL H as) (hl : as.length < 64)
    (hQ : ∀ (g : Addr) (H' : Hp) (ps : List PT2), H g = none → Ex [] H H' → GrantAt K H' g ps → (∀ r, r ∈ ps ↔ r ∈ as.map (·.2)) → Q (.ref g) H') :
    ∀ x dx, H x = Option.none → H dx = Option.none → dx ≠ x → spInitS K (V.ref x :: refs as) (upd (upd H dx (.own x)) x (.ins (GC K) dx [])) (fun v H2 => v = .non ∧ Q (.ref x) H2) E := by
  intro x dx nx ndx ne
  refine ⟨[.ref x], refs as, rfl, rfl, by rw [List.length_map]; exact sl_small (by omega), fun p np => ?_⟩
  have nx1 : upd H dx (.own x) x = none := by rw [upd_ne (Ne.symm ne)]; exact nx
  have e1 : Ex [] H (upd (upd H dx (.own x)) x (.ins (GC K) dx [])) := (Ex.new ndx).put nx
  have npx : p ≠ x := fun z => by rw [z, upd_same] at np; cases np
  have e2 : Ex [] H (upd (upd (upd H dx (.own x)) x (.ins (GC K) dx [])) p (.tup (refs as))) := e1.put (e1.free np (by simp))
  refine ⟨x, dx, p, as, rfl, by rw [upd_ne (Ne.symm npx), upd_same], rfl, upd_same, hp.ex e2, hl, fun H' t' bs ex h1 h2 h3 h4 h5 h6 => ⟨rfl, ?_⟩⟩
  have e3 : Ex [x] H H' := e2.up1.trans ex
  have e4 : Ex [] H H' := Ex.drop (L := []) (M := [x]) e3 fun q m => by rw [List.mem_singleton.mp m]; exact nx
  exact hQ x H' _ nx e4 ⟨dx, t', bs, h1, h2, h3, rfl, h4, by rw [List.length_map]; exact h6⟩ h5
/-! ### data -/
def pD (p : PT2) : PyData := .tuple [.str p.1, .str p.2]
theorem eqv_str (x y : Str) : PyData.eqv (.str x) (.str y) = decide (x = y) := by
  simp only [PyData.eqv]
  by_cases h : x = y
  · subst h; simp
  · rw [decide_eq_false h]; exact beq_eq_false_iff_ne.mpr h
theorem pD_eqv (p q : PT2) : PyData.eqv (pD p) (pD q) = decide (p = q) := by
  obtain ⟨a, b⟩ := p
  obtain ⟨c, d⟩ := q
  simp only [pD, PyData.eqv, PyData.eqvAll]
  by_cases h1 : a = c
  · by_cases h2 : b = d
    · subst h1 h2; simp
    · rw [decide_eq_false (fun z => h2 (congrArg Prod.snd z)), show (b == d) = false from beq_eq_false_iff_ne.mpr h2]; simp
  · rw [decide_eq_false (fun z => h1 (congrArg Prod.fst z)), show (a == c) = false from beq_eq_false_iff_ne.mpr h1]; simp
theorem pDs_eqv : ∀ ps qs : List PT2, PyData.eqvAll (ps.map pD) (qs.map pD) = decide (ps = qs)
  | [], [] => rfl
  | [], q :: qs => rfl
  | p :: ps, [] => rfl
  | p :: ps, q :: qs => by
    rw [List.map_cons, List.map_cons, PyData.eqvAll, pD_eqv, pDs_eqv ps qs]
    by_cases h1 : p = q
    · by_cases h2 : ps = qs
      · subst h1 h2; simp
      · rw [decide_eq_false h2, decide_eq_false (fun z => h2 (List.cons.inj z).2)]; simp
    · rw [decide_eq_false h1, decide_eq_false (fun z => h1 (List.cons.inj z).1)]; simp
theorem pD_lay {p : PT2} (h : POk p) : (pD p).canLay0 = true := by simp [pD, PyData.canLay0, PyData.canLayAll0, h.1, h.2]
theorem pD_depth (p : PT2) : (pD p).depth = 1 := by simp [pD, PyData.depth, PyData.depthAll]
theorem pDs_lay : ∀ {ps : List PT2}, (∀ p ∈ ps, POk p) → PyData.canLayAll0 (ps.map pD) = true
  | [], _ => by simp [PyData.canLayAll0]
  | p :: ps, h => by
    have h2 := pDs_lay (ps := ps) fun q m => h q (List.mem_cons_of_mem _ m)
    simp only [List.map_cons, PyData.canLayAll0, pD_lay (h p List.mem_cons_self), h2, Bool.and_self]
theorem pDs_depth : ∀ ps : List PT2, PyData.depthAll (ps.map pD) ≤ 1
  | [] => by simp [PyData.depthAll]
  | p :: ps => by
    have h1 := pDs_depth ps
    have h2 := pD_depth p
    simp only [List.map_cons, PyData.depthAll]
    omega
theorem pD_shaped {p : PT2} (h : POk p) : SeqAt.shaped (pD p) = true := by
  unfold SeqAt.shaped
  rw [pD_lay h, pD_depth] <;> rfl
theorem pDs_shapedT {ps : List PT2} (ok : ∀ p ∈ ps, POk p) : SeqAt.shaped (.tuple (ps.map pD)) = true := by
  have h := pDs_depth ps
  unfold SeqAt.shaped
  rw [Bool.and_eq_true, decide_eq_true_eq]
  exact ⟨by simp only [PyData.canLay0]; exact pDs_lay ok, by simp only [PyData.depth]; omega⟩
theorem pDs_shapedL {ps : List PT2} (ok : ∀ p ∈ ps, POk p) : SeqAt.shaped (.list (ps.map pD)) = true := by
  have h := pDs_depth ps
  unfold SeqAt.shaped
  rw [Bool.and_eq_true, decide_eq_true_eq]
  exact ⟨by simp only [PyData.canLay0]; exact pDs_lay ok, by simp only [PyData.depth]; omega⟩
theorem PL.ok {H : Hp} {as : List PR} (h : PL H as) : ∀ p ∈ as.map (·.2), POk p := fun p m => by
  obtain ⟨r, hr, rfl⟩ := List.mem_map.mp m
  exact (h r hr).2
theorem dp_pair {H : Hp} {r : PR} (h : H r.1 = some (.tup [.str r.2.1, .str r.2.2])) : Dp K H (.ref r.1) (pD r.2) := .tup (SqT.of h) (.cons (.str _) (.cons (.str _) .nil))
theorem dp_pairs {H : Hp} : ∀ {as : List PR}, PL H as → DpAll K H (refs as) ((as.map (·.2)).map pD)
  | [], _ => .nil
  | r :: as, h =>   .cons (dp_pair (h r List.mem_cons_self).1) (dp_pairs fun x m => h x (List.mem_cons_of_mem _ m))
theorem any_pD (ps : List PT2) (q : PT2) : ((ps.map pD).any fun z => PyData.eqv z (pD q)) = decide (q ∈ ps) := by
  induction ps with
  | nil => rfl
  | cons p ps rec =>
    rw [List.map_cons, List.any_cons, rec, pD_eqv]
    by_cases h : p = q
    · subst h; simp
    · by_cases h2 : q ∈ ps
      · simp [h2]
      · rw [decide_eq_false h, decide_eq_false h2, decide_eq_false]
        · rfl
        · intro z
          rcases List.mem_cons.mp z with y | y
          · exact h y.symm
          · exact h2 y
end
end K84

set_option Elab.async false
set_option linter.all false
set_option maxRecDepth 100000
set_option maxHeartbeats 2000000
namespace K84
open PySem PySem.Spec PyProof.Rows L2 G3 GSet
local macro_rules
  | `(tactic| walk_at "rd") => `(tactic| simp only [tVar, tC, tOp, tUn, tCons, tNil, tSeq, tAsg, gName, tIfS, tIf, tTest, tB, tAnd, tOr, tNot, tAndV, tOrV, tNotV, tRet, tRetN, tDrop, tNext, tBreak, tCont, tCB, tTupG, tLstG, tCR, tPar, tSl, tPart, tNoPart,
      gSub, gNil, gCons, gSeqG, tMetL, tMetS, tFldG, tForS, tForR1, tForR2, tForE1, tLcS, tLcR1, StX.tStar,
      rAddG, rSubG, rModG, rDivG, rMulG, rPowG, rCmpG, rEqG, rIxG, rLenG, rSetG, rListG, rListA, rTupG, rIntG, rAbsG, rSlG, rAppendG, rPopG, rIxL,
      L2.start, List.map_cons, List.map_nil, List.length_cons, List.length_nil, List.getElem?_cons_zero, List.getElem?_cons_succ, List.set_cons_zero, List.set_cons_succ, List.replicate_succ, List.replicate_zero, List.cons_append, List.nil_append, List.drop_succ_cons, List.drop_zero, List.drop_nil,
      Option.some.injEq, exists_eq_left', exists_eq_left, and_true, true_and, V.bl.injEq, V.int.injEq, V.str.injEq, V.ref.injEq, List.cons.injEq, Bool.not_true, Bool.not_false, if_true, if_false, Bool.false_eq_true, decide_eq_true_eq, upd_same, wipe, atI_0, atI_1, atI_2, atI_3, ixN_0, ixN_1,
      Nat.reduceLT, Nat.reduceAdd, Nat.zero_add, scal, eqS, ct, eqSelf, and_assoc, Int.toNat_natCast, sFld, StX.tMakeR, rBoolG, rAllG, rAnyG, Nat.reduceSub, Nat.sub_self, rSet2, rSorted2, exists_and_left, cxK, cxP, cxW, *])
local macro_rules
  | `(tactic| walk_at "rs") => `(tactic| simp only [tVar, tC, tOp, tUn, tCons, tNil, tAsg, gName, tIfS, tIf, tTest, tB, tAnd, tOr, tNot, tAndV, tOrV, tNotV, tRet, tRetN, tDrop, tNext, tBreak, tCont, tCB, tTupG, tLstG, tCR, tPar, tSl, tPart, tNoPart,
      gSub, gNil, gCons, gSeqG, tMetL, tMetS, tFldG, tForS, tForR1, tForR2, tForE1, tLcS, tLcR1, StX.tStar,
      rAddG, rSubG, rModG, rDivG, rMulG, rPowG, rCmpG, rEqG, rIxG, rLenG, rSetG, rListG, rListA, rTupG, rIntG, rAbsG, rSlG, rAppendG, rPopG, rIxL,
      L2.start, List.map_cons, List.map_nil, List.length_cons, List.length_nil, List.getElem?_cons_zero, List.getElem?_cons_succ, List.set_cons_zero, List.set_cons_succ, List.replicate_succ, List.replicate_zero, List.cons_append, List.nil_append, List.drop_succ_cons, List.drop_zero, List.drop_nil,
      Option.some.injEq, exists_eq_left', exists_eq_left, and_true, true_and, V.bl.injEq, V.int.injEq, V.str.injEq, V.ref.injEq, List.cons.injEq, Bool.not_true, Bool.not_false, if_true, if_false, Bool.false_eq_true, decide_eq_true_eq, upd_same, wipe, atI_0, atI_1, atI_2, atI_3, ixN_0, ixN_1,
      Nat.reduceLT, Nat.reduceAdd, Nat.zero_add, scal, eqS, ct, eqSelf, and_assoc, Int.toNat_natCast, sFld, StX.tMakeR, rBoolG, rAllG, rAnyG, Nat.reduceSub, Nat.sub_self, rSet2, rSorted2, exists_and_left, cxK, cxP, cxW, *])
section
variable {P : Program} {w : World} {K : PySem.W.Frag} {mg : Str → Option Value} {base : Heap}
theorem lkp {v : V} : List.lookup (Str.ofString "pairs") [(Str.ofString "pairs", v)] = some v := by rfl
def spNew (K : PySem.W.Frag) (ok : List PT2 → Prop) : Hp → VK → Prop := fun H Q => ∀ (g : Addr) (H' : Hp) (ps : List PT2), H g = none → Ex [] H H' → GrantAt K H' g ps → ok ps → Q (.ref g) H'
def spNone (K : PySem.W.Frag) : Sp := sp0 fun H Q _ => spNew K (fun ps => ps = []) H Q
theorem fn_Grant_none (T : TX K mg) : FnR P w K mg base (L2.CX P w) 3 (GH.smAd "Grant" "none" K) (spNone K) := by
  refine fnr (fd_Grant_none T) sc_Grant_none (fun _ _ _ _ _ _ us hl => match us, hl with | [], _ => rfl) len0 fun cdv A outer s H vs Q E hr h => ⟨_, (pss_one (ps_ret (GOp.pe_makeR0 (mk_Grant T) (fn_Grant___init T) (hr.mono (by omega)) (by rfl) (g_Grant T) px))), ?_⟩
  obtain ⟨rfl, hQ⟩ := un0 h
  walk_at "rd"
  refine mk_grant (as := []) (fun r m => nomatch m) (by decide) fun g H' ps hg ex hG hm => hQ g H' ps hg ex hG ?_
  cases ps with
  | nil => rfl
  | cons p ps => exact nomatch (hm p).mp List.mem_cons_self
def spLen (K : PySem.W.Frag) : Sp := sp1 fun s H Q _ => ∃ (g : Addr) (ps : List PT2), s = .ref g ∧ GrantAt K H g ps ∧ Q (.int ps.length) H
theorem fn_Grant___len (T : TX K mg) : FnR P w K mg base (L2.CX P w) 1 (He.ma K (He.ga K "Grant") "__len__") (spLen K) := by
  refine fnr (fd_Grant___len T) sc_Grant___len (fun _ _ _ _ _ _ us hl => match us, hl with | [_], _ => rfl) len1 fun cdv A outer s H vs Q E hr h => ⟨_, (pss_one (ps_ret (pe_callB g_len (by rfl) (b_len T) (by decide +kernel) (pa_cons (pe_fldG (cl_Grant T) (na_Grant_pairs T) (pv 0)) pa_nil)))), ?_⟩
  obtain ⟨_, rfl, g, ps, rfl, ⟨dx, t, as, h1, h2, h3, rfl, h5, h6⟩, hQ⟩ := un1 h
  clear h
  have hf := lkp (v := V.ref t)
  rw [List.length_map] at hQ
  have hl : (refs as).length = as.length := List.length_map ..
  walk_at "rd"
def spBool (K : PySem.W.Frag) : Sp := sp1 fun s H Q _ => ∃ (g : Addr) (ps : List PT2), s = .ref g ∧ GrantAt K H g ps ∧ Q (.bl (!ps.isEmpty)) H
theorem fn_Grant___bool (T : TX K mg) : FnR P w K mg base (L2.CX P w) 1 (He.ma K (He.ga K "Grant") "__bool__") (spBool K) := by
  refine fnr (fd_Grant___bool T) sc_Grant___bool (fun _ _ _ _ _ _ us hl => match us, hl with | [_], _ => rfl) len1 fun cdv A outer s H vs Q E hr h => ⟨_, (pss_one (ps_ret (pe_callTy g_bool (by rfl) (b_bool T) (by decide +kernel) (pa_cons (pe_fldG (cl_Grant T) (na_Grant_pairs T) (pv 0)) pa_nil)))), ?_⟩
  obtain ⟨_, rfl, g, ps, rfl, ⟨dx, t, as, h1, h2, h3, rfl, h5, h6⟩, hQ⟩ := un1 h
  clear h
  have hf := lkp (v := V.ref t)
  have hl : (refs as).isEmpty = (as.map (·.2)).isEmpty := by cases as <;> rfl
  walk_at "rd"
def spContains (K : PySem.W.Frag) : Sp := sp2 fun s p H Q _ => ∃ (g : Addr) (ps : List PT2) (d : PyData), s = .ref g ∧ GrantAt K H g ps ∧ Dp K H p d ∧ SeqAt.shaped d = true ∧ Q (.bl ((ps.map pD).any fun z => PyData.eqv z d)) H
theorem fn_Grant___contains (T : TX K mg) : FnR P w K mg base (L2.CX P w) 1 (He.ma K (He.ga K "Grant") "__contains__") (spContains K) := by
  refine fnr (fd_Grant___contains T) sc_Grant___contains (fun _ _ _ _ _ _ us hl => match us, hl with | [_, _], _ => rfl) len2 fun cdv A outer s H vs Q E hr h => ?_
  have hu65 := room65 hr
  refine ⟨_, (pss_one (ps_ret (pe_cmpR (k_inT (K := K) rfl hu65) (pv 1) (pe_fldG (cl_Grant T) (na_Grant_pairs T) (pv 0)) (by rfl)))), ?_⟩
  obtain ⟨_, p, rfl, g, ps, d, rfl, ⟨dx, t, as, h1, h2, h3, rfl, h5, h6⟩, hd, sd, hQ⟩ := un2 h
  clear h
  have hf := lkp (v := V.ref t)
  walk_at "rd"
  exact ⟨d, _, hd, .tup (SqT.of h2) (dp_pairs h3), sd, pDs_shapedT h3.ok, hQ⟩
def spEq (K : PySem.W.Frag) : Sp := sp2 fun a b H Q _ => ∃ (g : Addr) (ps : List PT2), a = .ref g ∧ GrantAt K H g ps ∧ ((∃ (h : Addr) (qs : List PT2), b = .ref h ∧ GrantAt K H h qs ∧ Q (.bl (decide (ps = qs))) H) ∨
  (∃ t, TyX K H b t ∧ PySem.W.kitOne K t (.ref (GC K)) = some false ∧ Q (.bl false) H))
theorem grant_ty (T : TX K mg) {H : Hp} {g : Addr} {ps : List PT2} (h : GrantAt K H g ps) : TyX K H (.ref g) (.ref (GC K)) := by
  obtain ⟨dx, t, as, h1, _⟩ := h
  have c := GH.cmpB_ok (cmp_Grant T)
  exact .base (.ins h1 (cl_Grant T) c.ca c.cg c.ct c.ob)
theorem fn_Grant___eq (T : TX K mg) : FnR P w K mg base (L2.CX P w) 1 (He.ma K (He.ga K "Grant") "__eq__") (spEq K) := by
  refine fnr (fd_Grant___eq T) sc_Grant___eq (fun _ _ _ _ _ _ us hl => match us, hl with | [_, _], _ => rfl) len2 fun cdv A outer s H vs Q E hr h => ⟨_, (pss_one (ps_ret (pe_and (pe_callB call_isi (by rfl) (b_isinstance T) (by decide +kernel) (pa_cons (pv 1) (pa_cons (pe_glob (v := .ref _) (by rfl) (g_Grant T) rfl) pa_nil))) (pe_one (pe_cmpR (k_eqD (K := K) rfl hr.units) (pe_fldG (cl_Grant T) (na_Grant_pairs T) (pv 0)) (pe_fldG (cl_Grant T) (na_Grant_pairs T) (pv 1)) (nomark _)))))), ?_⟩
  obtain ⟨_, p, rfl, g, ps, rfl, hg, hQ⟩ := un2 h
  clear h
  rcases hQ with ⟨g2, qs, rfl, hg2, hQ⟩ | ⟨t, ht, hk, hQ⟩
  · have ty := grant_ty T hg2
    obtain ⟨dx, t, as, h1, h2, h3, rfl, h5, h6⟩ := hg
    obtain ⟨dx', t', bs, h1', h2', h3', rfl, h5', h6'⟩ := hg2
    have hf := lkp (v := V.ref t)
    have hf' := lkp (v := V.ref t')
    have kk : PySem.W.kitOne K (.ref (He.ga K "Grant")) (.ref (He.ga K "Grant")) = some true := of_decide_eq_true (kit_Grant T)
    walk_at "rd"
    refine ⟨_, _, _, _, true, rfl, .own _, ty, kk, ?_⟩
    walk_at "rd"
    refine ⟨_, _, .tup (SqT.of h2) (dp_pairs h3), .tup (SqT.of h2') (dp_pairs h3'), pDs_shapedT h3.ok, pDs_shapedT h3'.ok, ?_⟩
    rw [show PyData.eqv (.tuple ((as.map (·.2)).map pD)) (.tuple ((bs.map (·.2)).map pD)) = decide (as.map (·.2) = bs.map (·.2)) from pDs_eqv _ _]
    exact hQ
  · walk_at "rd"
    refine ⟨_, _, _, _, false, rfl, .own _, ht, hk, ?_⟩
    walk_at "rd"
/-! ### |, &, -, within -/
theorem take_flt {α : Type} (f : α → Bool) {l : List α} {i : Nat} {x : α} (h : l[i]? = some x) : (l.take (i + 1)).filter f = (l.take i).filter f ++ (if f x then [x] else []) := by
  rw [List.take_succ, h, List.filter_append]
  congr 1
  simp only [Option.toList_some, List.filter_cons, List.filter_nil]
theorem refs_snoc (l : List PR) (r : PR) : refs l ++ [V.ref r.1] = refs (l ++ [r]) := by
  rw [refs, refs, List.map_append] <;> rfl
def spBin (K : PySem.W.Frag) (ok : List PT2 → List PT2 → PT2 → Prop) : Sp := sp2 fun a b H Q _ => ∃ (g h : Addr) (ps qs : List PT2), a = .ref g ∧ b = .ref h ∧ GrantAt K H g ps ∧ GrantAt K H h qs ∧ ps.length + qs.length < 64 ∧ spNew K (fun rs => ∀ r, r ∈ rs ↔ ok ps qs r) H Q
abbrev spOr (K : PySem.W.Frag) : Sp := spBin K fun ps qs r => r ∈ ps ∨ r ∈ qs
abbrev spAnd (K : PySem.W.Frag) : Sp := spBin K fun ps qs r => r ∈ ps ∧ r ∈ qs
abbrev spSub (K : PySem.W.Frag) : Sp := spBin K fun ps qs r => r ∈ ps ∧ r ∉ qs
theorem fn_Grant___or (T : TX K mg) : FnR P w K mg base (L2.CX P w) 3 (He.ma K (He.ga K "Grant") "__or__") (spOr K) := by
  refine fnr (fd_Grant___or T) sc_Grant___or (fun _ _ _ _ _ _ us hl => match us, hl with | [_, _], _ => rfl) len2 fun cdv A outer s H vs Q E hr h => ⟨_, (pss_one (ps_ret (GOp.pe_makeS2 (mk_Grant T) (fn_Grant___init T) (hr.mono (by omega)) (by rfl) (g_Grant T) px (StX.pa_star (pe_fldG (cl_Grant T) (na_Grant_pairs T) (pv 0)) (StX.pa_star (pe_fldG (cl_Grant T) (na_Grant_pairs T) (pv 1)) pa_nil))))), ?_⟩
  obtain ⟨_, _, rfl, g, g2, ps, qs, rfl, rfl, ⟨dx, t, as, h1, h2, h3, rfl, h5, h6⟩, ⟨dx', t', bs, h1', h2', h3', rfl, h5', h6'⟩, hl, hQ⟩ := un2 h
  clear h
  have hf := lkp (v := V.ref t)
  have hf' := lkp (v := V.ref t')
  walk_at "rd"
  refine ⟨refs as, .inl (SqT.of h2), refs bs, .inl (SqT.of h2'), ?_⟩
  have e : refs as ++ (refs bs ++ []) = refs (as ++ bs) := by rw [List.append_nil]; exact (List.map_append ..).symm
  rw [e]
  refine mk_grant (as := as ++ bs) (fun r m => (List.mem_append.mp m).elim (h3 r) (h3' r)) (by rw [List.length_append]; rw [List.length_map, List.length_map] at hl; exact hl) fun g H' ps hg ex hG hm => hQ g H' ps hg ex hG fun r => ?_
  rw [hm r, List.map_append, List.mem_append]
theorem fn_Grant___and (T : TX K mg) : FnR P w K mg base (L2.CX P w) 3 (He.ma K (He.ga K "Grant") "__and__") (spAnd K) := by
  refine fnr (fd_Grant___and T) sc_Grant___and (fun _ _ _ _ _ _ us hl => match us, hl with | [_, _], _ => rfl) len2 fun cdv A outer s H vs Q E hr h => ?_
  have hu65 := room65 hr
  refine ⟨_, (pss_cons (ps_setLcS (i := 2) (own := [("pair", 3)]) (by rfl) sc_Grant___and.nd rfl rfl (sw_true rfl rfl rfl (by decide +kernel)) (pe_fldG (cl_Grant T) (na_Grant_pairs T) (pv 0)) (blkOk_by (N := ["self", "other", "found", "pair"]) (sc := defScope s_Grant___and) (by decide +kernel)) (fun _ _ _ _ _ => (pg_name (i := 3) sc_Grant___and.nd rfl (Or.inl rfl))) (fun _ _ _ _ _ => (pts_one (pt_cmpR (k_inT (K := K) rfl hu65) (pv 3) (pe_fldG (cl_Grant T) (na_Grant_pairs T) (pv 1)) (by rfl)))) (fun _ _ _ _ _ => (pv 3))) (pss_one (ps_ret (GOp.pe_makeS1 (mk_Grant T) (fn_Grant___init T) (hr.mono (by omega)) (by rfl) (g_Grant T) px (pv 2))))), ?_⟩
  obtain ⟨_, _, rfl, g, g2, ps, qs, rfl, rfl, ⟨dx, t, as, h1, h2, h3, rfl, h5, h6⟩, ⟨dx', t', bs, h1', h2', h3', rfl, h5', h6'⟩, hl, hQ⟩ := un2 h
  clear h
  have hf := lkp (v := V.ref t)
  have hf' := lkp (v := V.ref t')
  walk_at "rd"
  refine ⟨true, refs as, SqT.of h2, fun L nL => ?_⟩
  refine ⟨fun i acc H2 => acc = refs ((as.take i).filter fun r => decide (r.2 ∈ bs.map (·.2))) ∧ Ex [] H H2 ∧ H2 L = some (.lst acc), ⟨rfl, Ex.new nL, upd_same⟩, fun i acc H2 hi p => ⟨SqT.of (p.2.1.at0 h2), p.2.2⟩, ?_, ?_⟩
  · rintro i x acc H2 hx ⟨rfl, ex, hL⟩
    rw [List.getElem?_map] at hx
    obtain ⟨r, hr', rfl⟩ := Option.map_eq_some_iff.mp hx
    have hrm := List.mem_of_getElem? hr'
    have hlen : (as.take i).length ≤ as.length := by rw [List.length_take]; omega
    have hflt := List.length_filter_le (fun r => decide (r.2 ∈ bs.map (·.2))) (as.take i)
    have h1e := ex.at0 h1'
    walk_at "rd"
    have dp1 : Dp K H2 (.ref r.1) (pD r.2) := dp_pair (ex.tup _ _ (h3 r hrm).1)
    have dp2 : Dp K H2 (.ref t') (.tuple ((bs.map (·.2)).map pD)) := .tup (SqT.of (ex.tup _ _ h2')) (dp_pairs (h3'.ex ex))
    refine ⟨pD r.2, _, dp1, dp2, pD_shaped (h3 r hrm).2, pDs_shapedT h3'.ok, ?_⟩
    rw [any_pD]
    walk_at "rd"
    rw [List.length_map] at h6
    refine ite_dec (fun hm => ?_) (fun hm => ?_)
    · refine ⟨sl_lt (by rw [List.length_map]; omega), ?_, ex.put nL⟩
      rw [take_flt _ hr', decide_eq_true hm, if_pos rfl]
      exact refs_snoc _ _
    · rw [take_flt _ hr', decide_eq_false hm]
      simp
  · rintro acc H2 ⟨rfl, ex, hL⟩
    rw [List.length_map, List.take_length] at hL
    walk_at "rd"
    refine ⟨_, .inr (SqL.of hL), ?_⟩
    rw [List.append_nil]
    have hflt := List.length_filter_le (fun r => decide (r.2 ∈ bs.map (·.2))) as
    rw [List.length_map] at h6
    refine mk_grant (as := as.filter fun r => decide (r.2 ∈ bs.map (·.2))) (fun r m => ⟨ex.tup _ _ (h3 r (List.mem_filter.mp m).1).1, (h3 r (List.mem_filter.mp m).1).2⟩) (by omega) fun g3 H3 ps hg ex3 hG hm => hQ g3 H3 ps (ex.free hg (by simp)) (ex.trans ex3) hG fun r => ?_
    rw [hm r]
    constructor
    · intro m
      obtain ⟨q, hq, rfl⟩ := List.mem_map.mp m
      obtain ⟨m1, m2⟩ := List.mem_filter.mp hq
      exact ⟨List.mem_map.mpr ⟨q, m1, rfl⟩, of_decide_eq_true m2⟩
    · rintro ⟨m1, m2⟩
      obtain ⟨q, hq, rfl⟩ := List.mem_map.mp m1
      exact List.mem_map.mpr ⟨q, List.mem_filter.mpr ⟨hq, decide_eq_true m2⟩, rfl⟩
theorem fn_Grant___sub (T : TX K mg) : FnR P w K mg base (L2.CX P w) 3 (He.ma K (He.ga K "Grant") "__sub__") (spSub K) := by
  refine fnr (fd_Grant___sub T) sc_Grant___sub (fun _ _ _ _ _ _ us hl => match us, hl with | [_, _], _ => rfl) len2 fun cdv A outer s H vs Q E hr h => ?_
  have hu65 := room65 hr
  refine ⟨_, (pss_cons (ps_setLcS (i := 2) (own := [("pair", 3)]) (by rfl) sc_Grant___sub.nd rfl rfl (sw_true rfl rfl rfl (by decide +kernel)) (pe_fldG (cl_Grant T) (na_Grant_pairs T) (pv 0)) (blkOk_by (N := ["self", "other", "found", "pair"]) (sc := defScope s_Grant___sub) (by decide +kernel)) (fun _ _ _ _ _ => (pg_name (i := 3) sc_Grant___sub.nd rfl (Or.inl rfl))) (fun _ _ _ _ _ => (pts_one (pt_cmpR (k_notInT (K := K) rfl hu65) (pv 3) (pe_fldG (cl_Grant T) (na_Grant_pairs T) (pv 1)) (by rfl)))) (fun _ _ _ _ _ => (pv 3))) (pss_one (ps_ret (GOp.pe_makeS1 (mk_Grant T) (fn_Grant___init T) (hr.mono (by omega)) (by rfl) (g_Grant T) px (pv 2))))), ?_⟩
  obtain ⟨_, _, rfl, g, g2, ps, qs, rfl, rfl, ⟨dx, t, as, h1, h2, h3, rfl, h5, h6⟩, ⟨dx', t', bs, h1', h2', h3', rfl, h5', h6'⟩, hl, hQ⟩ := un2 h
  clear h
  have hf := lkp (v := V.ref t)
  have hf' := lkp (v := V.ref t')
  walk_at "rd"
  refine ⟨true, refs as, SqT.of h2, fun L nL => ?_⟩
  refine ⟨fun i acc H2 => acc = refs ((as.take i).filter fun r => decide (r.2 ∉ bs.map (·.2))) ∧ Ex [] H H2 ∧ H2 L = some (.lst acc), ⟨rfl, Ex.new nL, upd_same⟩, fun i acc H2 hi p => ⟨SqT.of (p.2.1.at0 h2), p.2.2⟩, ?_, ?_⟩
  · rintro i x acc H2 hx ⟨rfl, ex, hL⟩
    rw [List.getElem?_map] at hx
    obtain ⟨r, hr', rfl⟩ := Option.map_eq_some_iff.mp hx
    have hrm := List.mem_of_getElem? hr'
    have hlen : (as.take i).length ≤ as.length := by rw [List.length_take]; omega
    have hflt := List.length_filter_le (fun r => decide (r.2 ∉ bs.map (·.2))) (as.take i)
    have h1e := ex.at0 h1'
    walk_at "rd"
    have dp1 : Dp K H2 (.ref r.1) (pD r.2) := dp_pair (ex.tup _ _ (h3 r hrm).1)
    have dp2 : Dp K H2 (.ref t') (.tuple ((bs.map (·.2)).map pD)) := .tup (SqT.of (ex.tup _ _ h2')) (dp_pairs (h3'.ex ex))
    refine ⟨pD r.2, _, dp1, dp2, pD_shaped (h3 r hrm).2, pDs_shapedT h3'.ok, ?_⟩
    rw [any_pD]
    walk_at "rd"
    rw [List.length_map] at h6
    by_cases hm : r.2 ∈ bs.map (·.2)
    · rw [decide_eq_true hm]
      refine iteF ?_
      rw [take_flt _ hr', decide_eq_false (not_not_intro hm)]
      simp
    · rw [decide_eq_false hm]
      refine iteT ⟨sl_lt (by rw [List.length_map]; omega), ?_, ex.put nL⟩
      rw [take_flt _ hr', decide_eq_true hm, if_pos rfl]
      exact refs_snoc _ _
  · rintro acc H2 ⟨rfl, ex, hL⟩
    rw [List.length_map, List.take_length] at hL
    walk_at "rd"
    refine ⟨_, .inr (SqL.of hL), ?_⟩
    rw [List.append_nil]
    have hflt := List.length_filter_le (fun r => decide (r.2 ∉ bs.map (·.2))) as
    rw [List.length_map] at h6
    refine mk_grant (as := as.filter fun r => decide (r.2 ∉ bs.map (·.2))) (fun r m => ⟨ex.tup _ _ (h3 r (List.mem_filter.mp m).1).1, (h3 r (List.mem_filter.mp m).1).2⟩) (by omega) fun g3 H3 ps hg ex3 hG hm => hQ g3 H3 ps (ex.free hg (by simp)) (ex.trans ex3) hG fun r => ?_
    rw [hm r]
    constructor
    · intro m
      obtain ⟨q, hq, rfl⟩ := List.mem_map.mp m
      obtain ⟨m1, m2⟩ := List.mem_filter.mp hq
      exact ⟨List.mem_map.mpr ⟨q, m1, rfl⟩, of_decide_eq_true m2⟩
    · rintro ⟨m1, m2⟩
      obtain ⟨q, hq, rfl⟩ := List.mem_map.mp m1
      exact List.mem_map.mpr ⟨q, List.mem_filter.mpr ⟨hq, decide_eq_true m2⟩, rfl⟩
def spWithin (K : PySem.W.Frag) : Sp := sp2 fun a b H Q _ => ∃ (g h : Addr) (ps qs : List PT2), a = .ref g ∧ b = .ref h ∧ GrantAt K H g ps ∧ GrantAt K H h qs ∧ ∀ H', Ex [] H H' → Q (.bl (ps.all fun r => decide (r ∈ qs))) H'
theorem fn_Grant_within (T : TX K mg) : FnR P w K mg base (L2.CX P w) 1 (He.ma K (He.ga K "Grant") "within") (spWithin K) := by
  refine fnr (fd_Grant_within T) sc_Grant_within (fun _ _ _ _ _ _ us hl => match us, hl with | [_, _], _ => rfl) len2 fun cdv A outer s H vs Q E hr h => ?_
  have hu65 := room65 hr
  refine ⟨_, (pss_one (ps_ret (pe_callB (g_all (by rfl)) (by rfl) (b_all T) (by decide +kernel) (pa_cons (pe_lcS (own := [("pair", 2)]) (by rfl) sc_Grant_within.nd (pe_fldG (cl_Grant T) (na_Grant_pairs T) (pv 0)) (blkOk_by (N := ["self", "other", "pair"]) (sc := defScope s_Grant_within) (by decide +kernel)) (fun _ _ _ _ _ => (pg_name (i := 2) sc_Grant_within.nd rfl (Or.inl rfl))) (fun _ _ _ _ _ => pts_nil) (fun _ _ _ _ _ => (pe_cmpR (k_inT (K := K) rfl hu65) (pv 2) (pe_fldG (cl_Grant T) (na_Grant_pairs T) (pv 1)) (by rfl)))) pa_nil)))), ?_⟩
  obtain ⟨_, _, rfl, g, g2, ps, qs, rfl, rfl, ⟨dx, t, as, h1, h2, h3, rfl, h5, h6⟩, ⟨dx', t', bs, h1', h2', h3', rfl, h5', h6'⟩, hQ⟩ := un2 h
  clear h
  have hf := lkp (v := V.ref t)
  have hf' := lkp (v := V.ref t')
  walk_at "rd"
  refine ⟨true, refs as, SqT.of h2, fun L nL => ?_⟩
  refine ⟨fun i acc H2 => acc = ((as.take i).map fun r => decide (r.2 ∈ bs.map (·.2))).map V.bl ∧ Ex [] H H2 ∧ H2 L = some (.lst acc), ⟨rfl, Ex.new nL, upd_same⟩, fun i acc H2 hi p => ⟨SqT.of (p.2.1.at0 h2), p.2.2⟩, ?_, ?_⟩
  · rintro i x acc H2 hx ⟨rfl, ex, hL⟩
    rw [List.getElem?_map] at hx
    obtain ⟨r, hr', rfl⟩ := Option.map_eq_some_iff.mp hx
    have hrm := List.mem_of_getElem? hr'
    have hlen : (as.take i).length ≤ as.length := by rw [List.length_take]; omega
    have h1e := ex.at0 h1'
    have tY : ∀ H Q, tYes [some (.ref g), some (.ref g2), some (.ref r.1)] H Q = Q true H := fun _ _ => rfl
    walk_at "rd"
    have dp1 : Dp K H2 (.ref r.1) (pD r.2) := dp_pair (ex.tup _ _ (h3 r hrm).1)
    have dp2 : Dp K H2 (.ref t') (.tuple ((bs.map (·.2)).map pD)) := .tup (SqT.of (ex.tup _ _ h2')) (dp_pairs (h3'.ex ex))
    refine ⟨pD r.2, _, dp1, dp2, pD_shaped (h3 r hrm).2, pDs_shapedT h3'.ok, ?_⟩
    rw [any_pD]
    rw [List.length_map] at h6
    refine ⟨hL, sl_lt (by rw [List.length_map, List.length_map]; omega), ?_, ex.put nL⟩
    rw [List.take_succ, hr', List.map_append, List.map_append] <;> rfl
  · rintro acc H2 ⟨rfl, ex, hL⟩
    rw [List.length_map, List.take_length] at hL
    walk_at "rd"
    refine ⟨_, rfl, ?_⟩
    have z := hQ H2 ex
    rw [List.all_map] at z ⊢
    exact z
end
end K84

set_option Elab.async false
set_option linter.all false
set_option maxRecDepth 100000
set_option maxHeartbeats 2000000
namespace K84
open PySem PySem.Spec PyProof.Rows L2 G3 GSet
local macro_rules
  | `(tactic| walk_at "rd") => `(tactic| simp only [tVar, tC, tOp, tUn, tCons, tNil, tSeq, tAsg, gName, tIfS, tIf, tTest, tB, tAnd, tOr, tNot, tAndV, tOrV, tNotV, tRet, tRetN, tDrop, tNext, tBreak, tCont, tCB, tTupG, tLstG, tCR, tPar, tSl, tPart, tNoPart,
      gSub, gNil, gCons, gSeqG, tMetL, tMetS, tFldG, tForS, tForR1, tForR2, tForE1, tLcS, tLcR1, StX.tStar,
      rAddG, rSubG, rModG, rDivG, rMulG, rPowG, rCmpG, rEqG, rIxG, rLenG, rSetG, rListG, rListA, rTupG, rIntG, rAbsG, rSlG, rAppendG, rPopG, rIxL,
      L2.start, List.map_cons, List.map_nil, List.length_cons, List.length_nil, List.getElem?_cons_zero, List.getElem?_cons_succ, List.set_cons_zero, List.set_cons_succ, List.replicate_succ, List.replicate_zero, List.cons_append, List.nil_append, List.drop_succ_cons, List.drop_zero, List.drop_nil,
      Option.some.injEq, exists_eq_left', exists_eq_left, and_true, true_and, V.bl.injEq, V.int.injEq, V.str.injEq, V.ref.injEq, List.cons.injEq, Bool.not_true, Bool.not_false, if_true, if_false, Bool.false_eq_true, decide_eq_true_eq, upd_same, wipe, atI_0, atI_1, atI_2, atI_3, ixN_0, ixN_1,
      Nat.reduceLT, Nat.reduceAdd, Nat.zero_add, scal, eqS, ct, eqSelf, and_assoc, Int.toNat_natCast, sFld, StX.tMakeR, rBoolG, rAllG, rAnyG, Nat.reduceSub, Nat.sub_self, rSet2, rSorted2, exists_and_left, cxK, cxP, cxW, *])
local macro_rules
  | `(tactic| walk_at "rs") => `(tactic| simp only [tVar, tC, tOp, tUn, tCons, tNil, tAsg, gName, tIfS, tIf, tTest, tB, tAnd, tOr, tNot, tAndV, tOrV, tNotV, tRet, tRetN, tDrop, tNext, tBreak, tCont, tCB, tTupG, tLstG, tCR, tPar, tSl, tPart, tNoPart,
      gSub, gNil, gCons, gSeqG, tMetL, tMetS, tFldG, tForS, tForR1, tForR2, tForE1, tLcS, tLcR1, StX.tStar,
      rAddG, rSubG, rModG, rDivG, rMulG, rPowG, rCmpG, rEqG, rIxG, rLenG, rSetG, rListG, rListA, rTupG, rIntG, rAbsG, rSlG, rAppendG, rPopG, rIxL,
      L2.start, List.map_cons, List.map_nil, List.length_cons, List.length_nil, List.getElem?_cons_zero, List.getElem?_cons_succ, List.set_cons_zero, List.set_cons_succ, List.replicate_succ, List.replicate_zero, List.cons_append, List.nil_append, List.drop_succ_cons, List.drop_zero, List.drop_nil,
      Option.some.injEq, exists_eq_left', exists_eq_left, and_true, true_and, V.bl.injEq, V.int.injEq, V.str.injEq, V.ref.injEq, List.cons.injEq, Bool.not_true, Bool.not_false, if_true, if_false, Bool.false_eq_true, decide_eq_true_eq, upd_same, wipe, atI_0, atI_1, atI_2, atI_3, ixN_0, ixN_1,
      Nat.reduceLT, Nat.reduceAdd, Nat.zero_add, scal, eqS, ct, eqSelf, and_assoc, Int.toNat_natCast, sFld, StX.tMakeR, rBoolG, rAllG, rAnyG, Nat.reduceSub, Nat.sub_self, rSet2, rSorted2, exists_and_left, cxK, cxP, cxW, *])
section
variable {P : Program} {w : World} {K : PySem.W.Frag} {mg : Str → Option Value} {base : Heap}
theorem mk_grant1 {H : Hp} {R : Hp → Prop} {E : XK} {as : List PR} {x dx : Addr} (hp : PL H as) (hl : as.length < 64) (nx : H x = Option.none) (ndx : H dx = Option.none) (ne : dx ≠ x)
    (hQ : ∀ (H' : Hp) (ps : List PT2), Ex [] H H' → GrantAt K H' x ps → (∀ r, r ∈ ps ↔ r ∈ as.map (·.2)) → R H') : spInitS K (V.ref x :: refs as) (upd (upd H dx (.own x)) x (.ins (GC K) dx [])) (fun v H2 => v = .non ∧ R H2) E :=
  mk_grant (Q := fun v H' => v = .ref x → R H') (E := E) hp hl (fun g H' ps ng ex hG hm e => by cases e; exact hQ H' ps ex hG hm) x dx nx ndx ne |> fun h => by
    obtain ⟨ws, rest, e, h1, h2, h3⟩ := h
    refine ⟨ws, rest, e, h1, h2, fun p np => ?_⟩
    obtain ⟨a, b, e2, x', dx', q, as', e3, e4, e5, e6, e7, e8, e9⟩ := un2 (h3 p np)
    rw [e2]
    exact ⟨x', dx', q, as', e3, e4, e5, e6, e7, e8, fun H' t' bs a1 a2 a3 a4 a5 a6 a7 => ⟨rfl, (e9 H' t' bs a1 a2 a3 a4 a5 a6 a7).2 rfl⟩⟩
theorem len_le {α : Type} [DecidableEq α] : ∀ {l m : List α}, l.Nodup → (∀ x ∈ l, x ∈ m) → l.length ≤ m.length
  | [], _, _, _ => Nat.zero_le _
  | x :: l, m, nd, h => by
    obtain ⟨n1, n2⟩ := List.nodup_cons.mp nd
    have hx := h x List.mem_cons_self
    have z := len_le (m := m.erase x) n2 fun y hy => (List.mem_erase_of_ne fun e => n1 (by rw [← e]; exact hy)).mpr (h y (List.mem_cons_of_mem _ hy))
    rw [List.length_erase_of_mem hx] at z
    have : 0 < m.length := List.length_pos_of_mem hx
    rw [List.length_cons]
    omega
theorem srt_len {ps l : List PT2} (h : Srt ps) (m : ∀ r ∈ ps, r ∈ l) : ps.length ≤ l.length :=
  len_le (by
    show List.Pairwise (fun a b => a ≠ b) ps
    refine h.imp ?_
    intro a b h e
    rw [e] at h
    exact LtS.irrefl _ h) m
theorem GrantAt.ins {H : Hp} {g : Addr} {ps : List PT2} (h : GrantAt K H g ps) : ∃ dx fs, H g = some (.ins (GC K) dx fs) := by
  obtain ⟨dx, t, as, h1, _⟩ := h
  exact ⟨dx, _, h1⟩
theorem GrantAt.srt {H : Hp} {g : Addr} {ps : List PT2} (h : GrantAt K H g ps) : Srt ps := by
  obtain ⟨dx, t, as, _, _, _, _, h, _⟩ := h
  exact h
theorem cut_from {xs : List V} {k : Nat} (h : k ≤ xs.length) : cutV xs (some (k : Int)) none = xs.drop k := by
  unfold cutV
  rw [HT.sIx_nat, HT.sIx_none, Nat.min_eq_left h]
  exact List.take_of_length_le (by rw [List.length_drop]; omega)
def spGrantL (K : PySem.W.Frag) (d : Nat) : Sp := sp1 fun l H Q _ => ∃ (q : Addr) (as : List PR), l = .ref q ∧ H q = some (.lst (refs as)) ∧ PL H as ∧ as.length < 4 * d ∧ as.length < 50 ∧ spNew K (fun ps => ∀ r, r ∈ ps ↔ r ∈ as.map (·.2)) H Q
theorem fn_law_grant (T : TX K mg) : ∀ d, FnR P w K mg base (L2.CX P w) (d + 3) (He.ga K "_law_grant") (spGrantL K d)
  | 0 => fun A outer s H us vs Q E hr e0 r hs => by
    obtain ⟨_, _, q, as, _, _, _, hl, _, _⟩ := un1 hs
    omega
  | d + 1 => by
    have ih := fn_law_grant T d
    refine fnr (fd_law_grant T) sc_law_grant (fun _ _ _ _ _ _ us hl => match us, hl with | [_], _ => rfl) len1 fun cdv A outer s H vs Q E hr h => ⟨_, (pss_cons (ps_if (pt_cmpR g_eq (pe_callB g_len (by rfl) (b_len T) (by decide +kernel) (pa_cons (pv 0) pa_nil)) pe_int (nomark _)) (pss_one (ps_ret (GOp.pe_makeR0 (mk_Grant T) (fn_Grant___init T) (hr.mono (by omega)) (by rfl) (g_Grant T) px))) pss_nil) (pss_cons (ps_if (pt_cmpR g_eq (pe_callB g_len (by rfl) (b_len T) (by decide +kernel) (pa_cons (pv 0) pa_nil)) pe_int (nomark _)) (pss_one (ps_ret (StX.pe_makeR (mk_Grant T) (fn_Grant___init T) (hr.mono (by omega)) (by rfl) (g_Grant T) px (pa_cons (pe_ix g_ix (pv 0) pe_int (fun _ _ => rfl)) pa_nil)))) pss_nil) (pss_cons (ps_if (pt_cmpR g_eq (pe_callB g_len (by rfl) (b_len T) (by decide +kernel) (pa_cons (pv 0) pa_nil)) pe_int (nomark _)) (pss_one (ps_ret (StX.pe_makeR (mk_Grant T) (fn_Grant___init T) (hr.mono (by omega)) (by rfl) (g_Grant T) px (pa_cons (pe_ix g_ix (pv 0) pe_int (fun _ _ => rfl)) (pa_cons (pe_ix g_ix (pv 0) pe_int (fun _ _ => rfl)) pa_nil))))) pss_nil) (pss_cons (ps_if (pt_cmpR g_eq (pe_callB g_len (by rfl) (b_len T) (by decide +kernel) (pa_cons (pv 0) pa_nil)) pe_int (nomark _)) (pss_one (ps_ret (StX.pe_makeR (mk_Grant T) (fn_Grant___init T) (hr.mono (by omega)) (by rfl) (g_Grant T) px (pa_cons (pe_ix g_ix (pv 0) pe_int (fun _ _ => rfl)) (pa_cons (pe_ix g_ix (pv 0) pe_int (fun _ _ => rfl)) (pa_cons (pe_ix g_ix (pv 0) pe_int (fun _ _ => rfl)) pa_nil)))))) pss_nil) (pss_one (ps_ret (pe_op (GOp.op_binO (GH.cmpB_ok (cmp_Grant T)).sf (mt_Grant___or__ T).at_ (mt_Grant___or__ T).fn (fn_Grant___or T) (hr.mono (by omega)) px) (StX.pe_makeR (mk_Grant T) (fn_Grant___init T) (hr.mono (by omega)) (by rfl) (g_Grant T) px (pa_cons (pe_ix g_ix (pv 0) pe_int (fun _ _ => rfl)) (pa_cons (pe_ix g_ix (pv 0) pe_int (fun _ _ => rfl)) (pa_cons (pe_ix g_ix (pv 0) pe_int (fun _ _ => rfl)) (pa_cons (pe_ix g_ix (pv 0) pe_int (fun _ _ => rfl)) pa_nil))))) (pe_cr ih hr (by rfl) (g_law_grant T) (k_law_grant T) px (pa_cons (pe_slice g_sl (pv 0) (po_some pe_int) po_none) pa_nil))))))))), ?_⟩
    obtain ⟨_, rfl, q, as, rfl, hq, hp, hl, h50, hQ⟩ := un1 h
    clear h
    rcases as with _ | ⟨a, _ | ⟨b, _ | ⟨c, _ | ⟨e, as⟩⟩⟩⟩
    · walk_at "rd"
      refine ite_dec (fun hx => ?_) (fun hx => absurd rfl hx)
      exact mk_grant (as := []) hp (by decide) hQ
    · walk_at "rd"
      refine ite_dec (fun hx => absurd hx (by decide)) (fun hx => ?_)
      refine ite_dec (fun hx => ?_) (fun hx => absurd rfl hx)
      exact mk_grant (as := [a]) hp (by show 1 < 64; omega) hQ
    · walk_at "rd"
      refine ite_dec (fun hx => absurd hx (by decide)) (fun hx => ?_)
      refine ite_dec (fun hx => absurd hx (by decide)) (fun hx => ?_)
      refine ite_dec (fun hx => ?_) (fun hx => absurd rfl hx)
      exact mk_grant (as := [a, b]) hp (by show 2 < 64; omega) hQ
    · walk_at "rd"
      refine ite_dec (fun hx => absurd hx (by decide)) (fun hx => ?_)
      refine ite_dec (fun hx => absurd hx (by decide)) (fun hx => ?_)
      refine ite_dec (fun hx => absurd hx (by decide)) (fun hx => ?_)
      refine ite_dec (fun hx => ?_) (fun hx => absurd rfl hx)
      exact mk_grant (as := [a, b, c]) hp (by show 3 < 64; omega) hQ
    · walk_at "rd"
      refine ite_dec (fun hx => absurd hx (by omega)) (fun hx => ?_)
      refine ite_dec (fun hx => absurd hx (by omega)) (fun hx => ?_)
      refine ite_dec (fun hx => absurd hx (by omega)) (fun hx => ?_)
      refine ite_dec (fun hx => absurd hx (by omega)) (fun hx => ?_)
      have hp1 : PL H [a, b, c, e] := fun r m => hp r (List.mem_append_left as m)
      intro g dx ng ndx ne
      refine mk_grant1 (as := [a, b, c, e]) hp1 (by show 4 < 64; omega) ng ndx ne fun H1 ps1 ex1 hG1 hm1 => ?_
      have hq1 := ex1.at0 hq
      have hcut : cutV (V.ref a.1 :: V.ref b.1 :: V.ref c.1 :: V.ref e.1 :: refs as) (some 4) none = refs as := cut_from (k := 4) (by show 4 ≤ (refs as).length + 1 + 1 + 1 + 1; omega)
      walk_at "rd"
      intro l H2 nl hl2 ex2
      have l4 : as.length + 4 < 4 * (d + 1) := hl
      refine ⟨l, as, rfl, hl2, fun r m => ⟨(ex1.trans ex2).tup _ _ (hp r (by simp [m])).1, (hp r (by simp [m])).2⟩, by omega, by have : as.length + 4 < 50 := h50; omega, fun g2 H3 ps2 ng2 ex3 hG2 hm2 => ?_⟩
      have hG3 := (hG1.ex ex2 (by simp)).ex ex3 (by simp)
      obtain ⟨d1, f1, i1⟩ := hG3.ins
      obtain ⟨d2, f2, i2⟩ := hG2.ins
      have le1 := srt_len hG3.srt fun r m => (hm1 r).mp m
      have le2 := srt_len hG2.srt fun r m => (hm2 r).mp m
      rw [List.length_map] at le1 le2
      have e3 : Ex [] H H3 := (ex1.trans ex2).trans ex3
      refine ⟨g, d1, f1, g2, d2, f2, rfl, rfl, i1, i2, ⟨g, g2, ps1, ps2, rfl, rfl, hG3, hG2, ?_, fun g3 H4 ps3 ng3 ex4 hG4 hm4 => hQ g3 H4 ps3 (e3.free ng3 (by simp)) (e3.trans ex4) hG4 fun r => ?_⟩⟩
      · have : ([a, b, c, e] : List PR).length = 4 := rfl
        have : as.length + 4 < 50 := h50
        omega
      · rw [hm4 r]
        show r ∈ ps1 ∨ r ∈ ps2 ↔ _
        rw [hm1 r, hm2 r]
        simp only [List.map_cons, List.map_nil, List.mem_cons, List.not_mem_nil, or_false, or_assoc]
end
end K84
set_option Elab.async false
set_option linter.all false
set_option maxRecDepth 100000
set_option maxHeartbeats 2000000
namespace K84
open PySem PySem.Spec PyProof.Rows L2 G3 GSet
local macro_rules
  | `(tactic| walk_at "rd") => `(tactic| simp only [tVar, tC, tOp, tUn, tCons, tNil, tSeq, tAsg, gName, tIfS, tIf, tTest, tB, tAnd, tOr, tNot, tAndV, tOrV, tNotV, tRet, tRetN, tDrop, tNext, tBreak, tCont, tCB, tTupG, tLstG, tCR, tPar, tSl, tPart, tNoPart,
      gSub, gNil, gCons, gSeqG, tMetL, tMetS, tFldG, tForS, tForR1, tForR2, tForE1, tLcS, tLcR1, StX.tStar,
      rAddG, rSubG, rModG, rDivG, rMulG, rPowG, rCmpG, rEqG, rIxG, rLenG, rSetG, rListG, rListA, rTupG, rIntG, rAbsG, rSlG, rAppendG, rPopG, rIxL,
      L2.start, List.map_cons, List.map_nil, List.length_cons, List.length_nil, List.getElem?_cons_zero, List.getElem?_cons_succ, List.set_cons_zero, List.set_cons_succ, List.replicate_succ, List.replicate_zero, List.cons_append, List.nil_append, List.drop_succ_cons, List.drop_zero, List.drop_nil,
      Option.some.injEq, exists_eq_left', exists_eq_left, and_true, true_and, V.bl.injEq, V.int.injEq, V.str.injEq, V.ref.injEq, List.cons.injEq, Bool.not_true, Bool.not_false, if_true, if_false, Bool.false_eq_true, decide_eq_true_eq, upd_same, wipe, atI_0, atI_1, atI_2, atI_3, ixN_0, ixN_1,
      Nat.reduceLT, Nat.reduceAdd, Nat.zero_add, scal, eqS, ct, eqSelf, and_assoc, Int.toNat_natCast, sFld, StX.tMakeR, rBoolG, rAllG, rAnyG, Nat.reduceSub, Nat.sub_self, rSet2, rSorted2, exists_and_left, cxK, cxP, cxW, *])
local macro_rules
  | `(tactic| walk_at "rs") => `(tactic| simp only [tVar, tC, tOp, tUn, tCons, tNil, tAsg, gName, tIfS, tIf, tTest, tB, tAnd, tOr, tNot, tAndV, tOrV, tNotV, tRet, tRetN, tDrop, tNext, tBreak, tCont, tCB, tTupG, tLstG, tCR, tPar, tSl, tPart, tNoPart,
      gSub, gNil, gCons, gSeqG, tMetL, tMetS, tFldG, tForS, tForR1, tForR2, tForE1, tLcS, tLcR1, StX.tStar,
      rAddG, rSubG, rModG, rDivG, rMulG, rPowG, rCmpG, rEqG, rIxG, rLenG, rSetG, rListG, rListA, rTupG, rIntG, rAbsG, rSlG, rAppendG, rPopG, rIxL,
      L2.start, List.map_cons, List.map_nil, List.length_cons, List.length_nil, List.getElem?_cons_zero, List.getElem?_cons_succ, List.set_cons_zero, List.set_cons_succ, List.replicate_succ, List.replicate_zero, List.cons_append, List.nil_append, List.drop_succ_cons, List.drop_zero, List.drop_nil,
      Option.some.injEq, exists_eq_left', exists_eq_left, and_true, true_and, V.bl.injEq, V.int.injEq, V.str.injEq, V.ref.injEq, List.cons.injEq, Bool.not_true, Bool.not_false, if_true, if_false, Bool.false_eq_true, decide_eq_true_eq, upd_same, wipe, atI_0, atI_1, atI_2, atI_3, ixN_0, ixN_1,
      Nat.reduceLT, Nat.reduceAdd, Nat.zero_add, scal, eqS, ct, eqSelf, and_assoc, Int.toNat_natCast, sFld, StX.tMakeR, rBoolG, rAllG, rAnyG, Nat.reduceSub, Nat.sub_self, rSet2, rSorted2, exists_and_left, cxK, cxP, cxW, *])
section
variable {P : Program} {w : World} {K : PySem.W.Frag} {mg : Str → Option Value} {base : Heap}
def spPairs : Sp := sp2 fun b l H Q _ => ∃ (p q : Addr) (as : List PR), b = .ref p ∧ l = .ref q ∧ H q = some (.lst (refs as)) ∧ q ≠ p ∧ 0 < as.length ∧ as.length < 1000 ∧ BagAt H p ∧
  ∀ (f : Addr) (H' : Hp) (bs : List PR), H f = none → H' f = some (.lst (refs bs)) → bs.length ≤ 8 → (∀ r ∈ bs, r ∈ as) → BagAt H' p → Ex [p] H H' → Q (.ref f) H'
theorem fn_law_pairs (T : TX K mg) : FnR P w K mg base (L2.CX P w) 3 (He.ga K "_law_pairs") spPairs := by
  refine fnr (fd_law_pairs T) sc_law_pairs (fun _ _ _ _ _ _ us hl => match us, hl with | [_, _], _ => rfl) len2 fun cdv A outer s H vs Q E hr h => ⟨_, (pss_one (ps_ret (pe_lcR1 (own := [("_law_turn", 2)]) (by rfl) sc_law_pairs.nd (by rfl) (b_range T) (pa_cons (pe_cr (fn_law_take T) (hr.mono (by omega)) (by rfl) (g_law_take T) (k_law_take T) px (pa_cons (pv 0) (pa_cons pe_int pa_nil))) pa_nil) (blkOk_by (N := ["_law_bag_here", "_law_pool", "_law_turn"]) (sc := defScope s_law_pairs) (by decide +kernel)) (fun _ _ _ _ _ => (pg_name (i := 2) sc_law_pairs.nd rfl (Or.inl rfl))) (fun _ _ _ _ _ => pts_nil) (fun _ _ _ _ _ => (pe_cr (fn_law_of T) (hr.mono (by omega)) (by rfl) (g_law_of T) (k_law_of T) passL (pa_cons (pv 0) (pa_cons (pv 1) pa_nil))))))), ?_⟩
  obtain ⟨_, _, rfl, p, q, as, rfl, rfl, hq, ne, a0, a1, hb, hQ⟩ := un2 h
  clear h
  walk_at "rd"
  refine ⟨p, 9, rfl, rfl, by decide, by decide, hb, fun d H1 hd hb1 ex1 => ?_⟩
  walk_at "rd"
  refine ⟨by omega, by omega, fun L nL => ?_⟩
  have nLp : L ≠ p := hb1.ne nL
  refine ⟨fun i acc H2 => (∃ bs : List PR, acc = refs bs ∧ bs.length = i ∧ ∀ r ∈ bs, r ∈ as) ∧ BagAt H2 p ∧ Ex [p] H H2 ∧ H2 L = some (.lst acc), ⟨⟨[], rfl, rfl, fun r m => nomatch m⟩, hb1.put (Ne.symm nLp), ex1.put (ex1.free1 nL nLp), upd_same⟩, ?_, ?_⟩
  · rintro i acc H2 hi ⟨⟨bs, rfl, hbl, hbm⟩, hb2, ex2, hL⟩
    have tY : ∀ σ H Q, tYes σ H Q = Q true H := fun _ _ _ => rfl
    walk_at "rd"
    refine ⟨p, q, refs as, rfl, rfl, ex2.at1 hq ne, ne, by rw [List.length_map]; exact a0, by rw [List.length_map]; omega, hb2, fun x H3 hx hb3 ex3 => ?_⟩
    obtain ⟨r, hr1, rfl⟩ := List.mem_map.mp hx
    refine ⟨ex3.at1 hL nLp, sl_lt (by rw [List.length_map]; omega), ⟨bs ++ [r], refs_snoc _ _, by rw [List.length_append, hbl] <;> rfl, fun z m => ?_⟩, hb3.put (Ne.symm nLp), (ex2.trans ex3).put (ex1.free1 nL nLp)⟩
    rcases List.mem_append.mp m with m | m
    · exact hbm z m
    · rw [List.mem_singleton.mp m]; exact hr1
  · rintro acc H2 ⟨⟨bs, rfl, hbl, hbm⟩, hb2, ex2, hL⟩
    exact hQ L H2 bs (ex1.free1 nL nLp) hL (by omega) hbm hb2 ex2
def spIsGrant (K : PySem.W.Frag) : Sp := sp2 fun o l H Q _ => ∃ (g q : Addr) (ps : List PT2) (as : List PR), o = .ref g ∧ l = .ref q ∧ GrantAt K H g ps ∧ H q = some (.lst (refs as)) ∧ PL H as ∧ as.map (·.2) = ps ∧ as.length < 20 ∧ ∀ H', Ex [] H H' → Q (.bl true) H'
theorem fn_law_is_grant (T : TX K mg) : FnR P w K mg base (L2.CX P w) 9 (He.ga K "_law_is_grant") (spIsGrant K) := by
  refine fnr (fd_law_is_grant T) sc_law_is_grant (fun _ _ _ _ _ _ us hl => match us, hl with | [_, _], _ => rfl) len2 fun cdv A outer s H vs Q E hr h => ⟨_, (pss_cons (ps_if (PW.pt (pw_or (pt_cmpR (k_neD (K := K) rfl hr.units) (pe_fldG (cl_Grant T) (na_Grant_pairs T) (pv 0)) (pe_callTy g_tuple (by rfl) (b_tuple T) (by decide +kernel) (pa_cons (pv 1) pa_nil)) (nomark _)) (pw_or (pt_cmpR g_ne (pe_callB (GOp.call_lenO (mt_Grant___len__ T).at_ (mt_Grant___len__ T).fn (fn_Grant___len T) (hr.mono (by omega)) px) (by rfl) (b_len T) (by decide +kernel) (pa_cons (pv 0) pa_nil)) (pe_callB g_len (by rfl) (b_len T) (by decide +kernel) (pa_cons (pv 1) pa_nil)) (nomark _)) (pw_or1 (pt_cmpR g_ne (pe_callTy (GOp.call_boolO (mt_Grant___bool__ T).at_ (mt_Grant___bool__ T).fn (fn_Grant___bool T) (hr.mono (by omega)) px) (by rfl) (b_bool T) (by decide +kernel) (pa_cons (pv 0) pa_nil)) (pe_cmpR (k_neD (K := K) rfl hr.units) (pv 1) (pg_lstD pa_nil) (nomark _)) (nomark _)))))) (pss_one (ps_ret pe_bl)) pss_nil) (pss_one (ps_ret (pe_and (pe_cmpR (GOp.op_cmpO (op := .Eq) (fun _ _ => rfl) (mt_Grant___eq__ T).at_ (mt_Grant___eq__ T).fn (fn_Grant___eq T) (hr.mono (by omega)) px) (pv 0) (pe_cr (fn_law_grant T 5) (hr.mono (by omega)) (by rfl) (g_law_grant T) (k_law_grant T) px (pa_cons (pv 1) pa_nil)) (nomark _)) (pe_and (pe_not (pe_cmpR (GOp.op_cmpO (op := .Eq) (fun _ _ => rfl) (mt_Grant___eq__ T).at_ (mt_Grant___eq__ T).fn (fn_Grant___eq T) (hr.mono (by omega)) px) (pv 0) (pe_fldG (cl_Grant T) (na_Grant_pairs T) (pv 0)) (nomark _))) (pe_one (pe_cmpR (GOp.op_neO (GH.cmpB_ok (cmp_Grant T)).ne (GH.cmpB_ok (cmp_Grant T)).ob (mt_Grant___eq__ T).at_ (mt_Grant___eq__ T).fn (fn_Grant___eq T) (hr.mono (by omega)) px) (pv 0) (pv 1) (nomark _)))))))), ?_⟩
  obtain ⟨_, _, rfl, g, q, ps, as, rfl, rfl, hg, hq, hp, rfl, hl, hQ⟩ := un2 h
  clear h
  have hg0 := hg
  obtain ⟨dx, t, bs, h1, h2, h3, hb, h5, h6⟩ := hg
  have hf := lkp (v := V.ref t)
  walk_at "rd"
  intro y H1 ny hy ex1
  have eqT : PyData.eqv (.tuple ((bs.map (·.2)).map pD)) (.tuple ((as.map (·.2)).map pD)) = true := by
    show PyData.eqvAll _ _ = true
    rw [pDs_eqv, hb]
    exact decide_eq_true rfl
  have hp1 := hp.ex ex1
  refine ⟨_, _, .tup (SqT.of (ex1.tup _ _ h2)) (dp_pairs (h3.ex ex1)), .tup (SqT.of hy) (dp_pairs hp1), pDs_shapedT h3.ok, pDs_shapedT hp.ok, ?_⟩
  rw [eqT]
  have hq1 := ex1.at0 hq
  have hg1 := hg0.ex ex1 (by simp)
  obtain ⟨d1, f1, i1⟩ := hg1.ins
  walk_at "rd"
  refine ⟨g, d1, f1, rfl, i1, g, as.map (·.2), rfl, hg1, _, rfl, by omega, by rw [List.length_map]; omega, ?_⟩
  have hl1 : (as.map (·.2)).length = (refs as).length := by rw [List.length_map, List.length_map]
  walk_at "rd"
  refine ⟨g, d1, f1, rfl, i1, g, as.map (·.2), rfl, hg1, _, rfl, ?_⟩
  refine ⟨by decide, fun e H2 ne he ex2 => ?_⟩
  have hq2 := ex2.at0 hq1
  have hp2 := hp1.ex ex2
  refine ⟨_, _, .lst (SqL.of hq2) (dp_pairs hp2), .lst (SqL.of he) .nil, pDs_shapedL hp.ok, pDs_shapedL (ps := []) (fun p m => nomatch m), ?_⟩
  have eqN : PyData.eqv (.list ((as.map (·.2)).map pD)) (.list []) = (as.map (·.2)).isEmpty := by cases as <;> rfl
  rw [eqN]
  have hg2 := hg1.ex ex2 (by simp)
  obtain ⟨d2, f2, i2⟩ := hg2.ins
  walk_at "rd"
  rw [if_neg (by simp)]
  refine ⟨q, as, rfl, hq2, hp2, by omega, by omega, fun h H3 ps nh ex3 hG hm => ?_⟩
  have hg3 := hg2.ex ex3 (by simp)
  have eps : as.map (·.2) = ps := srt_ext hg3.srt hG.srt fun r => (hm r).symm
  obtain ⟨d3, f3, i3⟩ := hg3.ins
  have c := GH.cmpB_ok (cmp_Grant T)
  have h1e := ex3.at0 (ex2.at0 (ex1.at0 h1))
  cases (i3.symm.trans h1e)
  have h2e := ex3.tup _ _ (ex2.tup _ _ (ex1.tup _ _ h2))
  have hq3 := ex3.at0 hq2
  refine ⟨g, _, _, _, rfl, i3, grant_ty T hG, by simp [PySem.W.notFirst], g, _, rfl, hg3, .inl ⟨h, ps, rfl, hG, ?_⟩⟩
  rw [decide_eq_true eps]
  walk_at "rd"
  have nt := c.nf "tuple" (by decide)
  have nl := c.nf "list" (by decide)
  refine ⟨g, _, _, _, rfl, i3, .base (.tup h2e), nt.1, g, _, rfl, hg3, .inr ⟨_, .base (.tup h2e), nt.2, ?_⟩⟩
  walk_at "rd"
  refine ⟨g, _, _, _, rfl, i3, .base (.lst hq3), nl.1, g, _, rfl, hg3, .inr ⟨_, .base (.lst hq3), nl.2, ?_⟩⟩
  refine ⟨false, rfl, ?_⟩
  exact hQ H3 ((ex1.trans ex2).trans ex3)
end
end K84

set_option Elab.async false
set_option linter.all false
set_option maxRecDepth 100000
set_option maxHeartbeats 4000000
namespace K84
open PySem PySem.Spec PyProof.Rows L2 G3 GSet
local macro_rules
  | `(tactic| walk_at "rd") => `(tactic| simp only [tVar, tC, tOp, tUn, tCons, tNil, tSeq, tAsg, gName, tIfS, tIf, tTest, tB, tAnd, tOr, tNot, tAndV, tOrV, tNotV, tRet, tRetN, tDrop, tNext, tBreak, tCont, tCB, tTupG, tLstG, tCR, tPar, tSl, tPart, tNoPart,
      gSub, gNil, gCons, gSeqG, tMetL, tMetS, tFldG, tForS, tForR1, tForR2, tForE1, tLcS, tLcR1, StX.tStar,
      rAddG, rSubG, rModG, rDivG, rMulG, rPowG, rCmpG, rEqG, rIxG, rLenG, rSetG, rListG, rListA, rTupG, rIntG, rAbsG, rSlG, rAppendG, rPopG, rIxL,
      L2.start, List.map_cons, List.map_nil, List.length_cons, List.length_nil, List.getElem?_cons_zero, List.getElem?_cons_succ, List.set_cons_zero, List.set_cons_succ, List.replicate_succ, List.replicate_zero, List.cons_append, List.nil_append, List.drop_succ_cons, List.drop_zero, List.drop_nil,
      Option.some.injEq, exists_eq_left', exists_eq_left, and_true, true_and, V.bl.injEq, V.int.injEq, V.str.injEq, V.ref.injEq, List.cons.injEq, Bool.not_true, Bool.not_false, if_true, if_false, Bool.false_eq_true, decide_eq_true_eq, decide_true, upd_same, wipe, atI_0, atI_1, atI_2, atI_3, ixN_0, ixN_1,
      Nat.reduceLT, Nat.reduceAdd, Nat.zero_add, scal, eqS, ct, eqSelf, and_assoc, Int.toNat_natCast, sFld, StX.tMakeR, rBoolG, rAllG, rAnyG, Nat.reduceSub, Nat.sub_self, exists_and_left, cxK, cxP, cxW, GOp.tSMeth, tMR, *])
local macro_rules
  | `(tactic| walk_at "rs") => `(tactic| simp only [tVar, tC, tOp, tUn, tCons, tNil, tAsg, gName, tIfS, tIf, tTest, tB, tAnd, tOr, tNot, tAndV, tOrV, tNotV, tRet, tRetN, tDrop, tNext, tBreak, tCont, tCB, tTupG, tLstG, tCR, tPar, tSl, tPart, tNoPart,
      gSub, gNil, gCons, gSeqG, tMetL, tMetS, tFldG, tForS, tForR1, tForR2, tForE1, tLcS, tLcR1, StX.tStar,
      rAddG, rSubG, rModG, rDivG, rMulG, rPowG, rCmpG, rEqG, rIxG, rLenG, rSetG, rListG, rListA, rTupG, rIntG, rAbsG, rSlG, rAppendG, rPopG, rIxL,
      L2.start, List.map_cons, List.map_nil, List.length_cons, List.length_nil, List.getElem?_cons_zero, List.getElem?_cons_succ, List.set_cons_zero, List.set_cons_succ, List.replicate_succ, List.replicate_zero, List.cons_append, List.nil_append, List.drop_succ_cons, List.drop_zero, List.drop_nil,
      Option.some.injEq, exists_eq_left', exists_eq_left, and_true, true_and, V.bl.injEq, V.int.injEq, V.str.injEq, V.ref.injEq, List.cons.injEq, Bool.not_true, Bool.not_false, if_true, if_false, Bool.false_eq_true, decide_eq_true_eq, decide_true, upd_same, wipe, atI_0, atI_1, atI_2, atI_3, ixN_0, ixN_1,
      Nat.reduceLT, Nat.reduceAdd, Nat.zero_add, scal, eqS, ct, eqSelf, and_assoc, Int.toNat_natCast, sFld, StX.tMakeR, rBoolG, rAllG, rAnyG, Nat.reduceSub, Nat.sub_self, exists_and_left, cxK, cxP, cxW, GOp.tSMeth, tMR, *])
section
variable {P : Program} {w : World} {K : PySem.W.Frag} {mg : Str → Option Value} {base : Heap}
/-- a class name: how it begins -/
def KOk (z : Str) : Prop := (∃ c ∈ [66, 71, 75, 81, 69], z.cps.toList.head? = some c) ∧ ∀ k ∈ z.cps.toList, k < 1114112
def Good (c l : Nat) (r : PT2) : Prop := Nm c l r.1 ∧ KOk r.2
theorem Good.ok {c l : Nat} {r : PT2} (h : Good c l r) : POk r := ⟨strOk_of h.1.2.2, strOk_of h.2.2⟩
theorem bag_ne {H : Hp} {p l : Addr} {as : List PR} (hb : BagAt H p) (hl : H l = some (.lst (refs as))) : l ≠ p := fun z => by
  obtain ⟨x, y, hp, _⟩ := hb
  rw [z, hp] at hl
  match as, hl with
  | r :: as, hl =>
    have e : [V.int x, V.int y] = V.ref r.1 :: refs as := HO.lst.inj (Option.some.inj hl)
    cases (List.cons.inj e).1
theorem PL.app {H : Hp} {as bs : List PR} (h : PL H as) (k : PL H bs) : PL H (as ++ bs) := fun r m => (List.mem_append.mp m).elim (h r) (k r)
theorem refs_app (as bs : List PR) : refs as ++ refs bs = refs (as ++ bs) := by rw [refs, refs, refs, List.map_append]
theorem sorted_set_at {H : Hp} {Q : VK} {bs : List PR} {s1 : Addr} (hs : H s1 = some (.lst (refs bs))) (hp : PL H bs) (hl : bs.length < 64)
    (hQ : ∀ (l : Addr) (H' : Hp) (cs : List PR), H l = none → H' l = some (.lst (refs cs)) → PL H' cs → Srt (cs.map (·.2)) → (∀ r, r ∈ cs.map (·.2) ↔ r ∈ bs.map (·.2)) → cs.length ≤ bs.length → Ex [] H H' → Q (.ref l) H') :
    rSet2 K P w [.ref s1] H (fun y H2 => rSorted2 K P w [y] H2 Q) := by
  refine ⟨s1, bs, rfl, .inl (SqL.of hs), fun p m => SqT.of (hp p m).1, hl, fun a L na h1 h2 => ⟨a, L, rfl, upd_same, fun p m => ?_, fun L' l pm ll st nl => ?_⟩⟩
  · exact SqT.of (by rw [upd_ne (ne_of_none (hp p (h1 p m)).1 na)]; exact (hp p (h1 p m)).1)
  · have nl' : H l = none := by
      by_cases e : l = a
      · rw [e]; exact na
      · rw [upd_ne e] at nl; exact nl
    have ex : Ex [] H (upd (upd H a (SetO P w a (L.map row2))) l (.lst (refs L'))) := (Ex.new na).put nl'
    have mm : ∀ r, r ∈ L'.map (·.2) ↔ r ∈ bs.map (·.2) := fun r => ⟨fun m => by
      obtain ⟨p, hm, rfl⟩ := List.mem_map.mp m
      exact List.mem_map.mpr ⟨p, h1 p (pm.mem_iff.mp hm), rfl⟩, fun m => by
      obtain ⟨p, hm, rfl⟩ := List.mem_map.mp m
      obtain ⟨p2, h3, e2⟩ := List.mem_map.mp (h2 p hm)
      exact List.mem_map.mpr ⟨p2, pm.mem_iff.mpr h3, e2⟩⟩
    have st' : Srt (L'.map (·.2)) := List.pairwise_map.mpr st
    have le := srt_len st' fun r m => (mm r).mp m
    rw [List.length_map, List.length_map] at le
    exact hQ l _ L' nl' upd_same (fun r m => ⟨ex.tup _ _ (hp r (h1 r (pm.mem_iff.mp m))).1, (hp r (h1 r (pm.mem_iff.mp m))).2⟩) st' mm le ex
structure Ny {u : TS} {D : Ends} (N : L2.St → Hp → Prop) : Prop where
  go : ∀ σ H, u D σ H → N σ H
theorem tsy {t u : TS} {D : Ends} {σ : L2.St} {H : Hp} (h : ∀ N, Ny (u := u) (D := D) N → t { D with nx := N } σ H) : tSeq t u D σ H := h _ ⟨fun _ _ h => h⟩
theorem GrantAt.full {H : Hp} {g : Addr} {ps : List PT2} (h : GrantAt K H g ps) : ∃ dx t as, H g = some (.ins (GC K) dx [("pairs", .ref t)]) ∧ H t = some (.tup (refs as)) ∧ PL H as ∧ as.map (·.2) = ps := by
  obtain ⟨dx, t, as, h1, h2, h3, h4, _⟩ := h
  exact ⟨dx, t, as, h1, h2, h3, h4⟩
theorem srt_flt {α : Type} (f : PR → Bool) {l : List PR} (h : Srt (l.map (·.2))) : Srt ((l.filter f).map (·.2)) := by
  have z := List.pairwise_map.mp h
  exact List.pairwise_map.mpr (z.sublist List.filter_sublist)
theorem all_flt (l : List PR) (m2 : List PT2) : ((l.map (·.2)).all fun r => decide (r ∈ m2)) = (l.filter fun r => decide (r.2 ∉ m2)).isEmpty := by
  induction l with
  | nil => rfl
  | cons r l rec =>
    rw [List.map_cons, List.all_cons, rec, List.filter_cons]
    by_cases hm : r.2 ∈ m2
    · simp [hm]
    · simp [hm]
theorem shaped_small {d : PyData} (h : d.canLay0 = true) (k : d.depth ≤ 64) : SeqAt.shaped d = true := by
  unfold SeqAt.shaped
  rw [h, decide_eq_true k] <;> rfl
theorem strOk_add {a b : Str} (h : PyData.strOk a = true) (k : PyData.strOk b = true) : PyData.strOk (a ++ b) = true := by
  have z : ∀ c : Str, PyData.strOk c = c.cps.toList.all fun n => decide (n < 0x110000) := fun c => by
    show c.cps.all _ = _
    rw [← Array.all_toList]
  rw [z] at h k ⊢
  rw [str_len, List.all_append, h, k] <;> rfl
theorem odd_no {ps : List PT2} {d : PyData} (h : ∀ p ∈ ps, PyData.eqv (pD p) d = false) : ((ps.map pD).any fun z => PyData.eqv z d) = false := by
  rw [List.any_eq_false]
  intro z hz
  obtain ⟨p, hp, rfl⟩ := List.mem_map.mp hz
  rw [h p hp]
  decide
def spLaw (K : PySem.W.Frag) : Sp := sp1 fun a H Q _ => ∃ (q : Addr) (ns : List Int), a = .ref q ∧ SqL K H q (ns.map V.int) ∧ ns.length ≤ 63 ∧ ∀ H', Q (.bl true) H'
theorem law_ok (T : TX K mg) : ∃ fd, (∀ (s : Shared) (v : Value), BindsTo s fd ⟨[v], []⟩ [("_law_script", v)]) ∧ ∀ base : Heap, FnOk P w K mg base (L2.CX P w) 10 (He.ga K "law") fd ["_law_script"] (spLaw K) := by
  obtain ⟨fd, F⟩ := fd_law T
  refine ⟨fd, fun s v => FunD.bindsA (ps := ["_law_script"]) F (fun _ _ _ _ _ _ us hl => match us, hl with | [_], _ => rfl) s [v] rfl, fun base => F.ok sc_law len1 fun cdv A outer s H vs Q E hr h => ?_⟩
  have hu65 := room65 hr
  refine ⟨_, (pss_cons (ps_set (i := 1) sc_law.nd rfl (.inr rfl) (pe_cr (fn_law_bag T) (hr.mono (by omega)) (by rfl) (g_law_bag T) (k_law_bag T) px (pa_cons (pv 0) (pa_cons pe_int pa_nil)))) (pss_cons (ps_set (i := 2) sc_law.nd rfl (.inl rfl) (pe_cr (fn_law_names T) (hr.mono (by omega)) (by rfl) (g_law_names T) (k_law_names T) px (pa_cons (pv 1) (pa_cons (pe_op g_add pe_int (pe_cr (fn_law_take T) (hr.mono (by omega)) (by rfl) (g_law_take T) (k_law_take T) px (pa_cons (pv 1) (pa_cons pe_int pa_nil)))) (pa_cons (pe_callTy (g_listA (by rfl)) (by rfl) (b_list T) (by decide +kernel) (pa_cons pe_str pa_nil)) pa_nil))))) (pss_cons (ps_set (i := 3) sc_law.nd rfl (.inl rfl) (pe_op g_add (pe_cr (fn_law_names T) (hr.mono (by omega)) (by rfl) (g_law_names T) (k_law_names T) px (pa_cons (pv 1) (pa_cons (pe_op g_add pe_int (pe_cr (fn_law_take T) (hr.mono (by omega)) (by rfl) (g_law_take T) (k_law_take T) px (pa_cons (pv 1) (pa_cons pe_int pa_nil)))) (pa_cons (pe_callTy (g_listA (by rfl)) (by rfl) (b_list T) (by decide +kernel) (pa_cons pe_str pa_nil)) pa_nil)))) (pg_lstD (pa_cons pe_str pa_nil)))) (pss_cons (ps_set (i := 4) sc_law.nd rfl (.inr rfl) (pg_lstD pa_nil)) (pss_cons (ps_forS (passes_of rfl) (by rfl) (pv 2) (pg_name (i := 5) sc_law.nd rfl (.inr rfl)) (pss_one (ps_set (i := 4) sc_law.nd rfl (.inr rfl) (pe_op g_add (pv 4) (pe_lcS (own := [("_law_kind", 16)]) (by rfl) sc_law.nd (pv 3) (blkOk_by (N := ["_law_script", "_law_bag_here", "_law_callbacks", "_law_kinds", "_law_pool", "_law_name", "_law_both", "_law_less", "_law_odd", "_law_thing", "_law_some", "_law_others", "_law_first", "_law_second", "_law_ours", "_law_theirs", "_law_kind", "_law_pair", "_law_turn"]) (sc := defScope s_law) (by decide +kernel)) (fun _ _ _ _ _ => (pg_name (i := 16) sc_law.nd rfl (Or.inl rfl))) (fun _ _ _ _ _ => pts_nil) (fun _ _ _ _ _ => (pg_tupD (pa_cons (pv 5) (pa_cons (pv 16) pa_nil))))))))) (pss_cons (PS.up (ps_if (pt_cmpR g_eq (pe_cr (fn_law_take T) (hr.mono (by omega)) (by rfl) (g_law_take T) (k_law_take T) px (pa_cons (pv 1) (pa_cons pe_int pa_nil))) pe_int (nomark _)) (pss_one (ps_set (i := 4) sc_law.nd rfl (.inr rfl) (pe_lcR1 (own := [("_law_turn", 18)]) (by rfl) sc_law.nd (by rfl) (b_range T) (pa_cons pe_int pa_nil) (blkOk_by (N := ["_law_script", "_law_bag_here", "_law_callbacks", "_law_kinds", "_law_pool", "_law_name", "_law_both", "_law_less", "_law_odd", "_law_thing", "_law_some", "_law_others", "_law_first", "_law_second", "_law_ours", "_law_theirs", "_law_kind", "_law_pair", "_law_turn"]) (sc := defScope s_law) (by decide +kernel)) (fun _ _ _ _ _ => (pg_name (i := 18) sc_law.nd rfl (Or.inl rfl))) (fun _ _ _ _ _ => pts_nil) (fun _ _ _ _ _ => (pe_cr (fn_law_of T) (hr.mono (by omega)) (by rfl) (g_law_of T) (k_law_of T) passL (pa_cons (pv 1) (pa_cons (pv 4) pa_nil))))))) pss_nil)) (pss_cons (ps_par (i := 10) (j := 11) (by rfl) sc_law.nd rfl rfl (by decide) rfl rfl (pa_cons (pe_cr (fn_law_pairs T) (hr.mono (by omega)) (by rfl) (g_law_pairs T) (k_law_pairs T) px (pa_cons (pv 1) (pa_cons (pv 4) pa_nil))) (pa_cons (pe_cr (fn_law_pairs T) (hr.mono (by omega)) (by rfl) (g_law_pairs T) (k_law_pairs T) px (pa_cons (pv 1) (pa_cons (pv 4) pa_nil))) pa_nil)) (by rfl)) (pss_cons (ps_par (i := 12) (j := 13) (by rfl) sc_law.nd rfl rfl (by decide) rfl rfl (pa_cons (pe_cr (fn_law_grant T 5) (hr.mono (by omega)) (by rfl) (g_law_grant T) (k_law_grant T) px (pa_cons (pv 10) pa_nil)) (pa_cons (pe_cr (fn_law_grant T 5) (hr.mono (by omega)) (by rfl) (g_law_grant T) (k_law_grant T) px (pa_cons (pv 11) pa_nil)) pa_nil)) (by rfl)) (pss_cons (ps_asg (pg_tupD (pa_cons (pe_callB (cr_sorted2 (by rfl)) (by rfl) (b_sorted T) (by decide +kernel) (pa_cons (pe_callTy (cr_set2 (by rfl) hr.units) (by rfl) (b_set T) (by decide +kernel) (pa_cons (pv 10) pa_nil)) pa_nil)) (pa_cons (pe_callB (cr_sorted2 (by rfl)) (by rfl) (b_sorted T) (by decide +kernel) (pa_cons (pe_callTy (cr_set2 (by rfl) hr.units) (by rfl) (b_set T) (by decide +kernel) (pa_cons (pv 11) pa_nil)) pa_nil)) pa_nil))) (pg_seqG (n := 2) (by rfl) (pgs_cons (pg_name (i := 14) sc_law.nd rfl (.inl rfl)) (pgs_cons (pg_name (i := 15) sc_law.nd rfl (.inr rfl)) pgs_nil)))) (pss_cons (ps_if (PW.pt (pw_or (pt_not (pt_val (pe_cr (fn_law_is_grant T) (hr.mono (by omega)) (by rfl) (g_law_is_grant T) (k_law_is_grant T) px (pa_cons (pv 12) (pa_cons (pv 14) pa_nil))))) (pw_or1 (pt_not (pt_val (pe_cr (fn_law_is_grant T) (hr.mono (by omega)) (by rfl) (g_law_is_grant T) (k_law_is_grant T) px (pa_cons (pv 13) (pa_cons (pv 15) pa_nil)))))))) (pss_one (ps_ret pe_bl)) pss_nil) (pss_cons (ps_setLcS (i := 6) (own := [("_law_pair", 17)]) (by rfl) sc_law.nd rfl rfl (sw_true rfl rfl rfl (by decide +kernel)) (pv 14) (blkOk_by (N := ["_law_script", "_law_bag_here", "_law_callbacks", "_law_kinds", "_law_pool", "_law_name", "_law_both", "_law_less", "_law_odd", "_law_thing", "_law_some", "_law_others", "_law_first", "_law_second", "_law_ours", "_law_theirs", "_law_kind", "_law_pair", "_law_turn"]) (sc := defScope s_law) (by decide +kernel)) (fun _ _ _ _ _ => (pg_name (i := 17) sc_law.nd rfl (Or.inl rfl))) (fun _ _ _ _ _ => (pts_one (pt_cmpR (k_inD (K := K) rfl hu65) (pv 17) (pv 15) (by rfl)))) (fun _ _ _ _ _ => (pv 17))) (pss_cons (ps_setLcS (i := 7) (own := [("_law_pair", 17)]) (by rfl) sc_law.nd rfl rfl (sw_true rfl rfl rfl (by decide +kernel)) (pv 14) (blkOk_by (N := ["_law_script", "_law_bag_here", "_law_callbacks", "_law_kinds", "_law_pool", "_law_name", "_law_both", "_law_less", "_law_odd", "_law_thing", "_law_some", "_law_others", "_law_first", "_law_second", "_law_ours", "_law_theirs", "_law_kind", "_law_pair", "_law_turn"]) (sc := defScope s_law) (by decide +kernel)) (fun _ _ _ _ _ => (pg_name (i := 17) sc_law.nd rfl (Or.inl rfl))) (fun _ _ _ _ _ => (pts_one (pt_cmpR (k_notInD (K := K) rfl hu65) (pv 17) (pv 15) (by rfl)))) (fun _ _ _ _ _ => (pv 17))) (pss_cons (ps_if (PW.pt (pw_or (pt_not (pt_val (pe_cr (fn_law_is_grant T) (hr.mono (by omega)) (by rfl) (g_law_is_grant T) (k_law_is_grant T) px (pa_cons (pe_op (GOp.op_binO (GH.cmpB_ok (cmp_Grant T)).sf (mt_Grant___or__ T).at_ (mt_Grant___or__ T).fn (fn_Grant___or T) (hr.mono (by omega)) px) (pv 12) (pv 13)) (pa_cons (pe_callB (cr_sorted2 (by rfl)) (by rfl) (b_sorted T) (by decide +kernel) (pa_cons (pe_callTy (cr_set2 (by rfl) hr.units) (by rfl) (b_set T) (by decide +kernel) (pa_cons (pe_op g_add (pv 10) (pv 11)) pa_nil)) pa_nil)) pa_nil))))) (pw_or1 (pt_not (pt_val (pe_cr (fn_law_is_grant T) (hr.mono (by omega)) (by rfl) (g_law_is_grant T) (k_law_is_grant T) px (pa_cons (pe_op (GOp.op_binO (GH.cmpB_ok (cmp_Grant T)).sf (mt_Grant___and__ T).at_ (mt_Grant___and__ T).fn (fn_Grant___and T) (hr.mono (by omega)) px) (pv 12) (pv 13)) (pa_cons (pv 6) pa_nil)))))))) (pss_one (ps_ret pe_bl)) pss_nil) (pss_cons (ps_if (PW.pt (pw_or (pt_not (pt_val (pe_cr (fn_law_is_grant T) (hr.mono (by omega)) (by rfl) (g_law_is_grant T) (k_law_is_grant T) px (pa_cons (pe_op (GOp.op_binO (GH.cmpB_ok (cmp_Grant T)).sf (mt_Grant___sub__ T).at_ (mt_Grant___sub__ T).fn (fn_Grant___sub T) (hr.mono (by omega)) px) (pv 12) (pv 13)) (pa_cons (pv 7) pa_nil))))) (pw_or1 (pt_not (pt_val (pe_cr (fn_law_is_grant T) (hr.mono (by omega)) (by rfl) (g_law_is_grant T) (k_law_is_grant T) px (pa_cons (GOp.pe_smeth0 (pe_glob (v := .ref _) (by rfl) (g_Grant T) rfl) (GH.smB_ok (sm_none T)).1 (GH.smB_ok (sm_none T)).2 (fn_Grant_none T) (hr.mono (by omega)) px) (pa_cons (pg_lstD pa_nil) pa_nil)))))))) (pss_one (ps_ret pe_bl)) pss_nil) (pss_cons (ps_if (PW.pt (pw_or (pt_cmpR g_ne (pe_mr (pv 12) (cl_Grant T) (mt_Grant_within T) (fn_Grant_within T) (hr.mono (by omega)) px (pa_cons (pv 13) pa_nil)) (pe_cmpR (k_eqD (K := K) rfl hr.units) (pv 7) (pg_lstD pa_nil) (nomark _)) (nomark _)) (pw_or (pt_cmpR g_ne (pe_cmpR (GOp.op_cmpO (op := .Eq) (fun _ _ => rfl) (mt_Grant___eq__ T).at_ (mt_Grant___eq__ T).fn (fn_Grant___eq T) (hr.mono (by omega)) px) (pv 12) (pv 13) (nomark _)) (pe_cmpR (k_eqD (K := K) rfl hr.units) (pv 14) (pv 15) (nomark _)) (nomark _)) (pw_or1 (pt_not (pt_val (pe_mr (pv 12) (cl_Grant T) (mt_Grant_within T) (fn_Grant_within T) (hr.mono (by omega)) px (pa_cons (pv 12) pa_nil)))))))) (pss_one (ps_ret pe_bl)) pss_nil) (pss_cons (ps_asg (pe_cr (fn_law_of T) (hr.mono (by omega)) (by rfl) (g_law_of T) (k_law_of T) px (pa_cons (pv 1) (pa_cons (pv 4) pa_nil))) (pg_seqG (n := 2) (by rfl) (pgs_cons (pg_name (i := 5) sc_law.nd rfl (.inr rfl)) (pgs_cons (pg_name (i := 16) sc_law.nd rfl (.inl rfl)) pgs_nil)))) (pss_cons (ps_set (i := 8) sc_law.nd rfl (.inl rfl) (pg_lstD (pa_cons pe_non (pa_cons pe_int (pa_cons pe_bl (pa_cons (pv 5) (pa_cons (pg_lstD (pa_cons (pv 5) (pa_cons (pv 16) pa_nil))) (pa_cons (pg_tupD (pa_cons (pv 16) (pa_cons (pv 5) pa_nil))) (pa_cons (pg_tupD (pa_cons (pv 5) pa_nil)) pa_nil))))))))) (pss_cons (ps_set (i := 9) sc_law.nd rfl (.inl rfl) (pe_cr (fn_law_of T) (hr.mono (by omega)) (by rfl) (g_law_of T) (k_law_of T) px (pa_cons (pv 1) (pa_cons (pe_op g_add (pv 8) (pg_lstD (pa_cons (pg_tupD (pa_cons (pv 5) (pa_cons (pv 16) (pa_cons (pv 16) pa_nil)))) (pa_cons (pg_tupD (pa_cons (pe_op g_add (pv 5) pe_str) (pa_cons (pv 16) pa_nil))) (pa_cons (pg_tupD (pa_cons (pv 5) (pa_cons pe_non pa_nil))) pa_nil))))) pa_nil)))) (pss_cons (ps_if (PW.pt (pw_or (pt_cmpR (GOp.op_inO (mt_Grant___contains__ T).at_ (mt_Grant___contains__ T).fn (fn_Grant___contains T) (hr.mono (by omega)) px) (pv 9) (pv 12) (by rfl)) (pw_or1 (pt_cmpR g_ne (pe_cmpR (GOp.op_inO (mt_Grant___contains__ T).at_ (mt_Grant___contains__ T).fn (fn_Grant___contains T) (hr.mono (by omega)) px) (pg_tupD (pa_cons (pv 5) (pa_cons (pv 16) pa_nil))) (pv 12) (by rfl)) (pe_cmpR (k_inD (K := K) rfl hu65) (pg_tupD (pa_cons (pv 5) (pa_cons (pv 16) pa_nil))) (pv 14) (by rfl)) (nomark _))))) (pss_one (ps_ret pe_bl)) pss_nil) (pss_one (ps_ret (pe_and (pe_cr (fn_law_is_grant T) (hr.mono (by omega)) (by rfl) (g_law_is_grant T) (k_law_is_grant T) px (pa_cons (pv 12) (pa_cons (pv 14) pa_nil))) (pe_one (pe_cr (fn_law_is_grant T) (hr.mono (by omega)) (by rfl) (g_law_is_grant T) (k_law_is_grant T) px (pa_cons (pv 13) (pa_cons (pv 15) pa_nil)))))))))))))))))))))))))), ?_⟩
  obtain ⟨_, rfl, q, ns, rfl, hq, hl, hQ⟩ := un1 h
  clear h
  refine tsy fun N hN => ?_
  walk_at "rs"
  refine ⟨q, ns, 0, rfl, rfl, hq, hl, by decide, fun p H1 np hb1 ex1 => ?_⟩
  refine hN.go _ _ (tsy fun N hN => ?_)
  walk_at "rs"
  refine ⟨p, 5, rfl, rfl, by decide, by decide, hb1, fun d H2 hd hb2 ex2 => ?_⟩
  walk_at "rs"
  refine ⟨by decide +kernel, fun l H3 nl hl3 ex3 => ?_⟩
  obtain ⟨cs, hcs, hcl, cok, cmem⟩ : ∃ cs : List Nat, (List.map (fun c => V.str { cps := #[c] }) (Str.ofString "dfgs").cps.toList) = cs.map sg ∧ cs.length = 4 ∧ (∀ k ∈ cs, k < 1114112) ∧ ∀ k ∈ cs, k ∈ [100, 102, 103, 115] := ⟨_, rfl, by decide +kernel, by decide +kernel, by decide +kernel⟩
  rw [hcs] at hl3
  have hb3 := hb2.ex ex3 (by simp)
  refine ⟨p, l, 1 + d, cs, rfl, congrArg V.int (by omega), rfl, by omega, hl3, hb2.ne nl, by omega, by omega, cok, hb3, fun f H4 ys c1 l1 nf hf yl cm1 ym l1l hb4 ex4 => ?_⟩
  have e4 : Ex [p] H1 H4 := (ex2.trans ex3.up1).trans ex4
  have nfp : f ≠ p := hb3.ne nf
  refine hN.go _ _ (tsy fun N hN => ?_)
  walk_at "rs"
  refine ⟨p, 4, rfl, rfl, by decide, by decide, hb4, fun d2 H5 hd2 hb5 ex5 => ?_⟩
  walk_at "rs"
  refine ⟨by decide +kernel, fun l2 H6 nl2 hl6 ex6 => ?_⟩
  obtain ⟨ks, hks, hkl, kok, kmem⟩ : ∃ ks : List Nat, (List.map (fun c => V.str { cps := #[c] }) (Str.ofString "BGKQ").cps.toList) = ks.map sg ∧ ks.length = 4 ∧ (∀ k ∈ ks, k < 1114112) ∧ ∀ k ∈ ks, k ∈ [66, 71, 75, 81, 69] := ⟨_, rfl, by decide +kernel, by decide +kernel, by decide +kernel⟩
  rw [hks] at hl6
  have hb6 := hb5.ex ex6 (by simp)
  refine ⟨p, l2, 1 + d2, ks, rfl, congrArg V.int (by omega), rfl, by omega, hl6, hb5.ne nl2, by omega, by omega, kok, hb6, fun f2 H7 zs c2 l2' nf2 hf2 zl cm2 zm l2l hb7 ex7 => ?_⟩
  walk_at "rs"
  refine ⟨by decide, fun er H8 ner her ex8 => ?_⟩
  have hf28 := ex8.at0 hf2
  walk_at "rs"
  refine ⟨sl_small (by rw [List.length_map]; omega), fun kl H9 nkl hkl9 ex9 => ?_⟩
  have e9 : Ex [p] H4 H9 := ((((ex5.trans ex6.up1).trans ex7).trans ex8.up1).trans ex9.up1)
  have hb9 : BagAt H9 p := (hb7.ex ex8 (by simp)).ex ex9 (by simp)
  have hf9 := e9.at1 hf nfp
  have nklp : kl ≠ p := (hb7.ex ex8 (by simp)).ne nkl
  obtain ⟨ws, hws, hwl, hwo⟩ : ∃ ws : List Str, zs.map V.str ++ [V.str (Str.ofString "Error")] = ws.map V.str ∧ ws.length = zs.length + 1 ∧ ∀ z ∈ ws, KOk z := by
    refine ⟨zs ++ [Str.ofString "Error"], by rw [List.map_append] <;> rfl, by rw [List.length_append] <;> rfl, fun z hz => ?_⟩
    rcases List.mem_append.mp hz with hz | hz
    · have := zm z hz
      exact ⟨⟨c2, kmem c2 cm2, this.2.1⟩, this.2.2⟩
    · rw [List.mem_singleton.mp hz]
      exact ⟨⟨69, by decide, by decide +kernel⟩, by decide +kernel⟩
  rw [hws] at hkl9
  refine hN.go _ _ (tsy fun N hN => ?_)
  walk_at "rs"
  refine ⟨by decide, fun pl0 H10 npl hpl ex10 => ?_⟩
  refine hN.go _ _ (tsy fun N hN => ?_)
  walk_at "rs"
  have hf10 := ex10.at0 hf9
  have hkl10 := ex10.at0 hkl9
  have hb10 : BagAt H10 p := hb9.ex ex10 (by simp)
  have e10 : Ex [p] H1 H10 := (e4.trans e9).trans ex10.up1
  refine ⟨false, ys.map V.str, SqL.of hf10, ?_⟩
  refine ⟨fun i σ H' => (∃ (pl : Addr) (as : List PR) (tv : Option V), σ = [some (V.ref q), some (V.ref p), some (V.ref f), some (V.ref kl), some (V.ref pl), tv, none, none, none, none, none, none, none, none, none, none, none, none, none] ∧
      H' pl = some (.lst (refs as)) ∧ PL H' as ∧ (∀ r ∈ as, Good c1 l1 r.2) ∧ as.length = i * ws.length) ∧ Ex [] H10 H', ⟨⟨pl0, [], none, rfl, hpl, (fun r m => nomatch m), (fun r m => nomatch m), by rw [Nat.zero_mul] <;> rfl⟩, Ex.refl _ _⟩, fun i σ H' _ pv => SqL.of (pv.2.at0 hf10), ?_, ?_⟩
  · rintro i x σ H' hx ⟨⟨pl, as, tv, rfl, hpl, hal, hag, hlen⟩, ex⟩
    rw [List.getElem?_map] at hx
    obtain ⟨nm, hnm, rfl⟩ := Option.map_eq_some_iff.mp hx
    have hnm1 := ym nm (List.mem_of_getElem? hnm)
    have hi5 : i < 5 := by
      have := (List.getElem?_eq_some_iff.mp hnm).1
      omega
    have hw5 : ws.length ≤ 5 := by omega
    walk_at "rs"
    refine ⟨false, ws.map V.str, SqL.of (ex.at0 hkl10), fun L nL => ?_⟩
    have nLpl : pl ≠ L := fun z => by rw [← z, hpl] at nL; cases nL
    refine ⟨fun j acc H2 => (∃ bs : List PR, acc = refs bs ∧ bs.length = j ∧ PL H2 bs ∧ ∀ r ∈ bs, Good c1 l1 r.2) ∧ Ex [] H' H2 ∧ H2 L = some (.lst acc), ⟨⟨[], rfl, rfl, (fun r m => nomatch m), (fun r m => nomatch m)⟩, Ex.new nL, upd_same⟩, fun j acc H2 _ pv => ⟨SqL.of ((ex.trans pv.2.1).at0 hkl10), pv.2.2⟩, ?_, ?_⟩
    · rintro j x acc H2 hx2 ⟨⟨bs, rfl, hbl, hbp, hbg⟩, ex2', hL⟩
      rw [List.getElem?_map] at hx2
      obtain ⟨kn, hkn, rfl⟩ := Option.map_eq_some_iff.mp hx2
      have hkn1 := hwo kn (List.mem_of_getElem? hkn)
      have hj5 : j < 5 := by
        have := (List.getElem?_eq_some_iff.mp hkn).1
        omega
      have tY : ∀ σ H Q, tYes σ H Q = Q true H := fun _ _ _ => rfl
      walk_at "rs"
      refine ⟨by decide, fun t H3 nt ht ex3' => ?_⟩
      have hL3 := ex3'.at0 hL
      have gd : Good c1 l1 (nm, kn) := ⟨hnm1, hkn1⟩
      have ntL : t ≠ L := fun z => by rw [z, hL] at nt; cases nt
      refine ⟨hL3, sl_lt (by rw [List.length_map]; omega), ⟨bs ++ [(t, nm, kn)], refs_snoc bs (t, nm, kn), by rw [List.length_append, hbl] <;> rfl, ?_, ?_⟩, (ex2'.trans ex3').put nL⟩
      · intro r m
        rcases List.mem_append.mp m with m | m
        · refine ⟨?_, (hbp r m).2⟩
          have z := ex3'.tup _ _ (hbp r m).1
          rw [upd_ne (fun e => by rw [e, hL3] at z; cases z)]
          exact z
        · rw [List.mem_singleton.mp m]
          refine ⟨?_, gd.ok⟩
          rw [upd_ne ntL]
          exact ht
      · intro r m
        rcases List.mem_append.mp m with m | m
        · exact hbg r m
        · rw [List.mem_singleton.mp m]; exact gd
    · rintro acc H2 ⟨⟨bs, rfl, hbl, hbp, hbg⟩, ex2', hL⟩
      rw [List.length_map] at hbl
      have hpl2 := ex2'.at0 hpl
      walk_at "rs"
      refine ⟨sl_small (by rw [List.length_map, List.length_map, hlen, hbl]; have := Nat.mul_le_mul (show i ≤ 5 by omega) hw5; omega), fun pl2 H3 n2 h2 ex3' => ?_⟩
      rw [refs_app] at h2
      refine ⟨⟨pl2, rfl, as ++ bs, h2, (hal.ex (ex2'.trans ex3')).app (hbp.ex ex3'), fun r m => (List.mem_append.mp m).elim (hag r) (hbg r), ?_⟩, (ex.trans ex2').trans ex3'⟩
      rw [List.length_append, hlen, hbl, Nat.succ_mul, hwl, zl]
  · rintro σ H' ⟨⟨pl, as, tv, rfl, hpl, hal, hag, hlen⟩, ex⟩
    rw [List.length_map] at hlen
    refine hN.go _ _ (tsy fun N hN => ?_)
    have hb' : BagAt H' p := hb10.ex ex (by simp)
    have e' : Ex [p] H1 H' := e10.trans ex.up1
    have hlen2 : as.length = (1 + d) * (1 + d2 + 1) := by rw [hlen, yl, hwl, zl]
    have l0 : 0 < as.length := by rw [hlen2]; exact Nat.mul_pos (by omega) (by omega)
    have l1k : as.length < 1000 := by
      rw [hlen2]
      exact Nat.lt_of_le_of_lt (Nat.mul_le_mul (show 1 + d ≤ 5 by omega) (show 1 + d2 + 1 ≤ 5 by omega)) (by decide)
    refine ⟨fun σ H'' => ∃ (pl : Addr) (as : List PR) (tv : Option V), σ = [some (V.ref q), some (V.ref p), some (V.ref f), some (V.ref kl), some (V.ref pl), tv, none, none, none, none, none, none, none, none, none, none, none, none, none] ∧
      H'' pl = some (.lst (refs as)) ∧ PL H'' as ∧ (∀ r ∈ as, Good c1 l1 r.2) ∧ 0 < as.length ∧ as.length < 1000 ∧ BagAt H'' p ∧ Ex [p] H1 H'', ?_, ?_⟩
    · walk_at "rs"
      refine ⟨p, 2, rfl, rfl, by decide, by decide, hb', fun d3 H11 hd3 hb11 ex11 => ?_⟩
      have hpl11 := ex11.at1 hpl (bag_ne hb' hpl)
      walk_at "rs"
      refine ite_dec (fun h0 => ?_) (fun h0 => ?_)
      · refine ⟨by decide, by decide, fun L nL => ?_⟩
        have nLp : L ≠ p := hb11.ne nL
        have nplL : pl ≠ L := fun z => by rw [← z, hpl11] at nL; cases nL
        refine ⟨fun i acc H2 => (∃ bs : List PR, acc = refs bs ∧ bs.length = i ∧ ∀ r ∈ bs, r ∈ as) ∧ BagAt H2 p ∧ Ex [p] H11 H2 ∧ H2 L = some (.lst acc), ⟨⟨[], rfl, rfl, (fun r m => nomatch m)⟩, hb11.put (Ne.symm nLp), (Ex.refl [p] H11).put nL, upd_same⟩, ?_, ?_⟩
        · rintro i acc H2 hi ⟨⟨bs, rfl, hbl, hbm⟩, hb2', ex2', hL⟩
          have tY : ∀ σ H Q, tYes σ H Q = Q true H := fun _ _ _ => rfl
          have hi4 : i < 4 := hi
          walk_at "rs"
          refine ⟨p, pl, refs as, rfl, rfl, ex2'.at1 hpl11 (bag_ne hb11 hpl11), bag_ne hb11 hpl11, by rw [List.length_map]; exact l0, by rw [List.length_map]; omega, hb2', fun x H3 hx hb3' ex3' => ?_⟩
          obtain ⟨r, hr1, rfl⟩ := List.mem_map.mp hx
          refine ⟨ex3'.at1 hL nLp, sl_lt (by rw [List.length_map]; omega), ⟨bs ++ [r], refs_snoc _ _, by rw [List.length_append, hbl] <;> rfl, fun z m => ?_⟩, hb3'.put (Ne.symm nLp), (ex2'.trans ex3').put nL⟩
          rcases List.mem_append.mp m with m | m
          · exact hbm z m
          · rw [List.mem_singleton.mp m]; exact hr1
        · rintro acc H2 ⟨⟨bs, rfl, hbl, hbm⟩, hb2', ex2', hL⟩
          have hbl4 : bs.length = 4 := hbl
          walk_at "rs"
          have z := (hal.ex ex11).ex ex2'
          refine ⟨bs, rfl, (fun r m => z r (hbm r m)), (fun r m => hag r (hbm r m)), by omega, by omega, ?_⟩
          exact (e'.trans ex11).trans ex2'
      · refine ⟨as, rfl, hal.ex ex11, hag, l0, l1k, ?_⟩
        exact e'.trans ex11
    · clear hlen2 l0 l1k e' hb' hag hal hpl hlen
      rintro σ H'' ⟨pl, as, tv, rfl, hpl, hal, hag, l0, l1k, hb', e'⟩
      refine hN.go _ _ (tsy fun N hN => ?_)
      walk_at "rs"
      refine ⟨p, pl, as, rfl, rfl, hpl, bag_ne hb' hpl, l0, l1k, hb', fun s1 H12 b1 ns1 hs1 bl1 bm1 hb12 ex12 => ?_⟩
      have hpl12 := ex12.at1 hpl (bag_ne hb' hpl)
      have hal12 := hal.ex ex12
      refine ⟨p, pl, as, rfl, rfl, hpl12, bag_ne hb12 hpl12, l0, l1k, hb12, fun s2 H13 b2 ns2 hs2 bl2 bm2 hb13 ex13 => ?_⟩
      have hpl13 := ex13.at1 hpl12 (bag_ne hb12 hpl12)
      have hal13 := hal12.ex ex13
      have hs1' := ex13.at1 hs1 (bag_ne hb12 hs1)
      refine hN.go _ _ (tsy fun N hN => ?_)
      walk_at "rs"
      refine ⟨s1, b1, rfl, hs1', (fun r m => hal13 r (bm1 r m)), by omega, by omega, fun g1 H14 ps1 ng1 ex14 hg1 hm1 => ?_⟩
      refine ⟨s2, b2, rfl, ex14.at0 hs2, (fun r m => (hal13.ex ex14) r (bm2 r m)), by omega, by omega, fun g2 H15 ps2 ng2 ex15 hg2 hm2 => ?_⟩
      have hg1' := hg1.ex ex15 (by simp)
      have hs115 := ex15.at0 (ex14.at0 hs1')
      have hs215 := ex15.at0 (ex14.at0 hs2)
      have hal15 := (hal13.ex ex14).ex ex15
      have hb15 : BagAt H15 p := (hb13.ex ex14 (by simp)).ex ex15 (by simp)
      have hpl15 := ex15.at0 (ex14.at0 hpl13)
      refine hN.go _ _ (tsy fun N hN => ?_)
      walk_at "rs"
      refine sorted_set_at hs115 (fun r m => hal15 r (bm1 r m)) (by omega) fun o1 H16 c1s no1 ho1 pc1 sc1 mc1 lc1 ex16 => ?_
      refine sorted_set_at (ex16.at0 hs215) (fun r m => (hal15.ex ex16) r (bm2 r m)) (by omega) fun o2 H17 c2s no2 ho2 pc2 sc2 mc2 lc2 ex17 => ?_
      refine ⟨by decide, fun tp H18 ntp htp ex18 => ?_⟩
      walk_at "rs"
      have e18 := (ex16.trans ex17).trans ex18
      have ho1' := ex18.at0 (ex17.at0 ho1)
      have ho2' := ex18.at0 ho2
      have pc1' := (pc1.ex ex17).ex ex18
      have pc2' := pc2.ex ex18
      have hg18 := hg1'.ex e18 (by simp)
      have hg28 := hg2.ex e18 (by simp)
      have q1 : c1s.map (·.2) = ps1 := srt_ext sc1 hg18.srt fun r => by rw [mc1 r, hm1 r]
      have q2 : c2s.map (·.2) = ps2 := srt_ext sc2 hg28.srt fun r => by rw [mc2 r, hm2 r]
      refine hN.go _ _ (tsy fun N hN => ?_)
      walk_at "rs"
      refine ⟨g1, o1, ps1, c1s, rfl, rfl, hg18, ho1', pc1', q1, by omega, fun H19 ex19 => ?_⟩
      walk_at "rs"
      refine ⟨g2, o2, ps2, c2s, rfl, rfl, hg28.ex ex19 (by simp), ex19.at0 ho2', pc2'.ex ex19, q2, by omega, fun H20 ex20 => ?_⟩
      walk_at "rs"
      refine hN.go _ _ (tsy fun N hN => ?_)
      walk_at "rs"
      have w1 := ex20.at0 (ex19.at0 ho1')
      have w2 := ex20.at0 (ex19.at0 ho2')
      have wp := (pc1'.ex ex19).ex ex20
      have wq := (pc2'.ex ex19).ex ex20
      refine ⟨false, refs c1s, SqL.of w1, fun L nL => ?_⟩
      refine ⟨fun i acc H2 => acc = refs ((c1s.take i).filter fun r => decide (r.2 ∈ c2s.map (·.2))) ∧ Ex [] H20 H2 ∧ H2 L = some (.lst acc), ⟨rfl, Ex.new nL, upd_same⟩, fun i acc H2 hi pv => ⟨SqL.of (pv.2.1.at0 w1), pv.2.2⟩, ?_, ?_⟩
      · rintro i x acc H2 hx ⟨rfl, exA, hL⟩
        rw [List.getElem?_map] at hx
        obtain ⟨r, hr', rfl⟩ := Option.map_eq_some_iff.mp hx
        have hrm := List.mem_of_getElem? hr'
        have hlen : (c1s.take i).length ≤ c1s.length := by rw [List.length_take]; omega
        have hflt := List.length_filter_le (fun r => decide (r.2 ∈ c2s.map (·.2))) (c1s.take i)
        refine ⟨rfl, ?_⟩
        have dp1 : Dp K H2 (.ref r.1) (pD r.2) := dp_pair (exA.tup _ _ (wp r hrm).1)
        have dp2 : Dp K H2 (.ref o2) (.list ((c2s.map (·.2)).map pD)) := .lst (SqL.of (exA.at0 w2)) (dp_pairs (wq.ex exA))
        refine ⟨_, rfl, _, rfl, pD r.2, _, dp1, dp2, pD_shaped (wp r hrm).2, pDs_shapedL wq.ok, ?_⟩
        rw [any_pD]
        refine ⟨_, rfl, ?_⟩
        refine ite_dec (fun hm => ?_) (fun hm => ?_)
        · have hm' := of_decide_eq_true hm
          refine ⟨_, rfl, hL, sl_lt (by rw [List.length_map]; omega), ?_, exA.put nL, upd_same⟩
          rw [take_flt _ hr', decide_eq_true hm', if_pos rfl]
          exact refs_snoc _ _
        · refine ⟨?_, exA, hL⟩
          have hm' : ¬ r.2 ∈ c2s.map (·.2) := fun z => hm (decide_eq_true z)
          rw [take_flt _ hr', decide_eq_false hm']
          simp
      · rintro acc H21 ⟨rfl, ex21, hL6⟩
        rw [List.length_map, List.take_length] at hL6
        refine hN.go _ _ (tsy fun N hN => ?_)
        walk_at "rs"
        have v1 := ex21.at0 w1
        have v2 := ex21.at0 w2
        have vp := wp.ex ex21
        have vq := wq.ex ex21
        refine ⟨false, refs c1s, SqL.of v1, fun L4 nL => ?_⟩
        refine ⟨fun i acc H2 => acc = refs ((c1s.take i).filter fun r => decide (r.2 ∉ c2s.map (·.2))) ∧ Ex [] H21 H2 ∧ H2 L4 = some (.lst acc), ⟨rfl, Ex.new nL, upd_same⟩, fun i acc H2 hi pv => ⟨SqL.of (pv.2.1.at0 v1), pv.2.2⟩, ?_, ?_⟩
        · rintro i x acc H2 hx ⟨rfl, exA, hL⟩
          rw [List.getElem?_map] at hx
          obtain ⟨r, hr', rfl⟩ := Option.map_eq_some_iff.mp hx
          have hrm := List.mem_of_getElem? hr'
          have hlen : (c1s.take i).length ≤ c1s.length := by rw [List.length_take]; omega
          have hflt := List.length_filter_le (fun r => decide (r.2 ∉ c2s.map (·.2))) (c1s.take i)
          refine ⟨rfl, ?_⟩
          have dp1 : Dp K H2 (.ref r.1) (pD r.2) := dp_pair (exA.tup _ _ (vp r hrm).1)
          have dp2 : Dp K H2 (.ref o2) (.list ((c2s.map (·.2)).map pD)) := .lst (SqL.of (exA.at0 v2)) (dp_pairs (vq.ex exA))
          refine ⟨_, rfl, _, rfl, pD r.2, _, dp1, dp2, pD_shaped (vp r hrm).2, pDs_shapedL vq.ok, ?_⟩
          rw [any_pD]
          refine ⟨_, rfl, ?_⟩
          by_cases hm : r.2 ∈ c2s.map (·.2)
          · rw [decide_eq_true hm]
            refine iteF ⟨?_, exA, hL⟩
            rw [take_flt _ hr', decide_eq_false (not_not_intro hm)]
            simp
          · rw [decide_eq_false hm]
            refine iteT ⟨_, rfl, hL, sl_lt (by rw [List.length_map]; omega), ?_, exA.put nL, upd_same⟩
            rw [take_flt _ hr', decide_eq_true hm, if_pos rfl]
            exact refs_snoc _ _
        · rintro acc H22 ⟨rfl, ex22, hL7⟩
          rw [List.length_map, List.take_length] at hL7
          have e22 : Ex [] H15 H22 := (((e18.trans ex19).trans ex20).trans ex21).trans ex22
          have ga := hg1'.ex e22 (by simp)
          have gb := hg2.ex e22 (by simp)
          have u1 := ex22.at0 v1
          have u2 := ex22.at0 v2
          have up1 := vp.ex ex22
          have up2 := vq.ex ex22
          have us1 := e22.at0 hs115
          have us2 := e22.at0 hs215
          have u6 := ex22.at0 hL6
          have alN := hal15.ex e22
          have hbN : BagAt H22 p := hb15.ex e22 (by simp)
          have plN := e22.at0 hpl15
          have pb1 : PL H22 b1 := fun r m => alN r (bm1 r m)
          have pb2 : PL H22 b2 := fun r m => alN r (bm2 r m)
          have lc1' : ps1.length ≤ 8 := by rw [← q1, List.length_map]; omega
          have lc2' : ps2.length ≤ 8 := by rw [← q2, List.length_map]; omega
          refine hN.go _ _ (tsy fun N hN => ?_)
          clear e22 ex22 v1 v2 vp vq
          walk_at "rs"
          have fa := ga.full
          obtain ⟨dA, tA, asA, iA, _, _, _⟩ := fa
          obtain ⟨dB, tB, asB, iB, _, _, _⟩ := gb.full
          refine ⟨g1, dA, _, g2, dB, _, rfl, rfl, iA, iB, g1, g2, ps1, ps2, rfl, rfl, ga, gb, by omega, fun g3 H23 ps3 ng3 ex23 hg3 hm3 => ?_⟩
          have us13 := ex23.at0 us1
          have us23 := ex23.at0 us2
          walk_at "rs"
          refine ⟨sl_small (by rw [List.length_map, List.length_map]; omega), fun s3 H24 ns3 hs3 ex24 => ?_⟩
          rw [refs_app] at hs3
          refine sorted_set_at hs3 ((pb1.app pb2).ex (ex23.trans ex24)) (by rw [List.length_append]; omega) fun o3 H25 c3s no3 ho3 pc3 sc3 mc3 lc3 ex25 => ?_
          rw [List.length_append] at lc3
          have e25 := (ex23.trans ex24).trans ex25
          have q3 : c3s.map (·.2) = ps3 := srt_ext sc3 hg3.srt fun r => by
            rw [mc3 r, hm3 r, List.map_append, List.mem_append]
            show _ ↔ r ∈ ps1 ∨ r ∈ ps2
            rw [hm1 r, hm2 r]
          refine ⟨g3, o3, ps3, c3s, rfl, rfl, (hg3.ex ex24 (by simp)).ex ex25 (by simp), ho3, pc3, q3, by omega, fun H26 ex26 => ?_⟩
          walk_at "rs"
          have e26 := e25.trans ex26
          refine ⟨g1, dA, _, g2, dB, _, rfl, rfl, e26.at0 iA, e26.at0 iB, g1, g2, ps1, ps2, rfl, rfl, ga.ex e26 (by simp), gb.ex e26 (by simp), by omega, fun g4 H27 ps4 ng4 ex27 hg4 hm4 => ?_⟩
          have e27 := e26.trans ex27
          have q4 : (c1s.filter fun r => decide (r.2 ∈ c2s.map (·.2))).map (·.2) = ps4 := srt_ext (srt_flt (α := Unit) _ sc1) hg4.srt fun r => by
            rw [hm4 r]
            show _ ↔ r ∈ ps1 ∧ r ∈ ps2
            rw [← q1, ← q2]
            constructor
            · intro m
              obtain ⟨z, hz, rfl⟩ := List.mem_map.mp m
              obtain ⟨m1, m2⟩ := List.mem_filter.mp hz
              exact ⟨List.mem_map.mpr ⟨z, m1, rfl⟩, of_decide_eq_true m2⟩
            · rintro ⟨m1, m2⟩
              obtain ⟨z, hz, rfl⟩ := List.mem_map.mp m1
              exact List.mem_map.mpr ⟨z, List.mem_filter.mpr ⟨hz, decide_eq_true m2⟩, rfl⟩
          have lf4 := List.length_filter_le (fun r : PR => decide (r.2 ∈ c2s.map (·.2))) c1s
          have lf7 := List.length_filter_le (fun r : PR => decide (r.2 ∉ c2s.map (·.2))) c1s
          refine ⟨g4, L, ps4, _, rfl, rfl, hg4, e27.at0 u6, fun r m => ⟨e27.tup _ _ (up1 r (List.mem_filter.mp m).1).1, (up1 r (List.mem_filter.mp m).1).2⟩, q4, by omega, fun H28 ex28 => ?_⟩
          have e28 := e27.trans ex28
          walk_at "rs"
          refine hN.go _ _ (tsy fun N hN => ?_)
          walk_at "rs"
          refine ⟨g1, dA, _, g2, dB, _, rfl, rfl, e28.at0 iA, e28.at0 iB, g1, g2, ps1, ps2, rfl, rfl, ga.ex e28 (by simp), gb.ex e28 (by simp), by omega, fun g5 H29 ps5 ng5 ex29 hg5 hm5 => ?_⟩
          have e29 := e28.trans ex29
          have q5 : (c1s.filter fun r => decide (r.2 ∉ c2s.map (·.2))).map (·.2) = ps5 := srt_ext (srt_flt (α := Unit) _ sc1) hg5.srt fun r => by
            rw [hm5 r]
            show _ ↔ r ∈ ps1 ∧ r ∉ ps2
            rw [← q1, ← q2]
            constructor
            · intro m
              obtain ⟨z, hz, rfl⟩ := List.mem_map.mp m
              obtain ⟨m1, m2⟩ := List.mem_filter.mp hz
              exact ⟨List.mem_map.mpr ⟨z, m1, rfl⟩, of_decide_eq_true m2⟩
            · rintro ⟨m1, m2⟩
              obtain ⟨z, hz, rfl⟩ := List.mem_map.mp m1
              exact List.mem_map.mpr ⟨z, List.mem_filter.mpr ⟨hz, decide_eq_true m2⟩, rfl⟩
          refine ⟨g5, L4, ps5, _, rfl, rfl, hg5, e29.at0 hL7, fun r m => ⟨e29.tup _ _ (up1 r (List.mem_filter.mp m).1).1, (up1 r (List.mem_filter.mp m).1).2⟩, q5, by omega, fun H30 ex30 => ?_⟩
          have e30 := e29.trans ex30
          walk_at "rs"
          intro g6 H31 ps6 ng6 ex31 hg6 hm6
          subst hm6
          refine ⟨by decide, fun L5 H32 nL5 hL5 ex32 => ?_⟩
          refine ⟨g6, L5, [], [], rfl, rfl, hg6.ex ex32 (by simp), hL5, (fun r m => nomatch m), rfl, by decide, fun H33 ex33 => ?_⟩
          have e33 := ((e30.trans ex31).trans ex32).trans ex33
          walk_at "rs"
          refine hN.go _ _ (tsy fun N hN => ?_)
          walk_at "rs"
          have lkw : ∀ v : V, List.lookup (Str.ofString "within") [(Str.ofString "pairs", v)] = none := fun _ => rfl
          refine ⟨dA, _, e33.at0 iA, lkw _, g1, g2, ps1, ps2, rfl, rfl, ga.ex e33 (by simp), gb.ex e33 (by simp), fun H34 ex34 => ?_⟩
          refine ⟨by decide, fun L6 H35 nL6 hL6' ex35 => ?_⟩
          have e35 := (e33.trans ex34).trans ex35
          have pl4 : PL H35 (c1s.filter fun r => decide (r.2 ∉ c2s.map (·.2))) := fun r m => ⟨e35.tup _ _ (up1 r (List.mem_filter.mp m).1).1, (up1 r (List.mem_filter.mp m).1).2⟩
          have eqN : ∀ ds : List PT2, PyData.eqv (.list (ds.map pD)) (.list []) = ds.isEmpty := fun ds => by cases ds <;> rfl
          refine ⟨_, _, .lst (SqL.of (e35.at0 hL7)) (dp_pairs pl4), .lst (SqL.of hL6') .nil, pDs_shapedL pl4.ok, pDs_shapedL (ps := []) (fun p m => nomatch m), ?_⟩
          have hAB : (ps1.all fun r => decide (r ∈ ps2)) = ((c1s.filter fun r => decide (r.2 ∉ c2s.map (·.2))).map (·.2)).isEmpty := by
            rw [← q1, ← q2, List.isEmpty_map]
            exact all_flt c1s _
          rw [eqN, ← hAB]
          walk_at "rs"
          refine ⟨g1, dA, _, _, rfl, e35.at0 iA, grant_ty T (gb.ex e35 (by simp)), by simp [PySem.W.notFirst], g1, ps1, rfl, ga.ex e35 (by simp), .inl ⟨g2, ps2, rfl, gb.ex e35 (by simp), ?_⟩⟩
          refine ⟨_, _, .lst (SqL.of (e35.at0 u1)) (dp_pairs (up1.ex e35)), .lst (SqL.of (e35.at0 u2)) (dp_pairs (up2.ex e35)), pDs_shapedL up1.ok, pDs_shapedL up2.ok, ?_⟩
          have eqL : PyData.eqv (.list ((c1s.map (·.2)).map pD)) (.list ((c2s.map (·.2)).map pD)) = decide (ps1 = ps2) := by
            show PyData.eqvAll _ _ = _
            rw [pDs_eqv, q1, q2]
          rw [eqL]
          walk_at "rs"
          refine ⟨dA, _, e35.at0 iA, lkw _, g1, g1, ps1, ps1, rfl, rfl, ga.ex e35 (by simp), ga.ex e35 (by simp), fun H36 ex36 => ?_⟩
          have allS : (ps1.all fun r => decide (r ∈ ps1)) = true := List.all_eq_true.mpr fun r m => decide_eq_true m
          rw [allS]
          have e36 := e35.trans ex36
          walk_at "rs"
          refine hN.go _ _ (tsy fun N hN => ?_)
          walk_at "rs"
          have pl36 := e36.at0 plN
          have hb36 : BagAt H36 p := hbN.ex e36 (by simp)
          refine ⟨p, pl, refs as, rfl, rfl, pl36, bag_ne hb36 pl36, by rw [List.length_map]; exact l0, by rw [List.length_map]; omega, hb36, fun x H37 hx hb37 ex37 => ?_⟩
          obtain ⟨rr, hrr, rfl⟩ := List.mem_map.mp hx
          have e37 : Ex [p] H22 H37 := e36.up1.trans ex37
          have hrt := e37.tup _ _ (alN rr hrr).1
          have hrg := hag rr hrr
          walk_at "rs"
          refine hN.go _ _ (tsy fun N hN => ?_)
          walk_at "rs"
          refine ⟨by decide, fun t1 H38 nt1 ht1 ex38 => ⟨by decide, fun t2 H39 nt2 ht2 ex39 => ⟨by decide, fun t3 H40 nt3 ht3 ex40 => ⟨by decide, fun od H41 nod hod ex41 => ?_⟩⟩⟩⟩
          refine hN.go _ _ (tsy fun N hN => ?_)
          walk_at "rs"
          have hG1 : ∀ z ∈ ps1, Good c1 l1 z := fun z m => by
            obtain ⟨r, hr1, rfl⟩ := List.mem_map.mp ((hm1 z).mp m)
            exact hag r (bm1 r hr1)
          have hno := hrg.1
          have hko := hrg.2
          have okn : PyData.strOk rr.2.1 = true := strOk_of hno.2.2
          have okk : PyData.strOk rr.2.2 = true := strOk_of hko.2
          have l0' : (Str.ofString "0").length = 1 := by decide +kernel
          have ln : rr.2.1.length = l1 := by
            have z := hno.1
            rw [Array.length_toList] at z
            exact z
          refine ⟨by decide, fun t4 H42 nt4 ht4 ex42 => ⟨sl_small (by rw [ln, l0']; omega), by decide, fun t5 H43 nt5 ht5 ex43 => ⟨by decide, fun t6 H44 nt6 ht6 ex44 => ⟨by decide, fun ol H45 nol hol ex45 => ?_⟩⟩⟩⟩
          have hod45 := ex45.at0 (ex44.at0 (ex43.at0 (ex42.at0 hod)))
          walk_at "rs"
          refine ⟨by decide, fun al H46 nal hal' ex46 => ?_⟩
          have e4546 := ((ex42.trans ex43).trans (ex44.trans ex45)).trans ex46
          have e3846 := ((ex39.trans ex40).trans ex41).trans e4546
          have e3746 := ex38.trans e3846
          have hb46 : BagAt H46 p := hb37.ex e3746 (by simp)
          have nalp : al ≠ p := (hb37.ex (ex38.trans (((ex39.trans ex40).trans ex41).trans ((ex42.trans ex43).trans (ex44.trans ex45)))) (by simp)).ne nal
          refine ⟨p, al, _, rfl, rfl, hal', nalp, by simp, by simp, hb46, fun x H47 hx hb47 ex47 => ?_⟩
          have nt1p : t1 ≠ p := hb37.ne nt1
          have g_t1 : H47 t1 = some (.lst [.str rr.2.1, .str rr.2.2]) := ex47.at1 (e3846.at0 ht1) nt1p
          have g_t2 : H47 t2 = some (.tup [.str rr.2.2, .str rr.2.1]) := ex47.tup _ _ ((((ex40.trans ex41).trans e4546)).tup _ _ ht2)
          have g_t3 : H47 t3 = some (.tup [.str rr.2.1]) := ex47.tup _ _ ((ex41.trans e4546).tup _ _ ht3)
          have g_t4 : H47 t4 = some (.tup [.str rr.2.1, .str rr.2.2, .str rr.2.2]) := ex47.tup _ _ ((((ex43.trans ex44).trans ex45).trans ex46).tup _ _ ht4)
          have g_t5 : H47 t5 = some (.tup [.str (rr.2.1 ++ Str.ofString "0"), .str rr.2.2]) := ex47.tup _ _ (((ex44.trans ex45).trans ex46).tup _ _ ht5)
          have g_t6 : H47 t6 = some (.tup [.str rr.2.1, .non]) := ex47.tup _ _ ((ex45.trans ex46).tup _ _ ht6)
          have ok0 : PyData.strOk (Str.ofString "0") = true := by decide +kernel
          have okn0 := strOk_add okn ok0
          have odd : ∃ d, Dp K H47 x d ∧ SeqAt.shaped d = true ∧ ((ps1.map pD).any fun z => PyData.eqv z d) = false := by
            have hx' : x = .non ∨ x = .int 0 ∨ x = .bl true ∨ x = .str rr.2.1 ∨ x = .ref t1 ∨ x = .ref t2 ∨ x = .ref t3 ∨ x = .ref t4 ∨ x = .ref t5 ∨ x = .ref t6 := by
              simpa only [List.cons_append, List.nil_append, List.mem_cons, List.not_mem_nil, or_false] using hx
            rcases hx' with rfl | rfl | rfl | rfl | rfl | rfl | rfl | rfl | rfl | rfl
            · exact ⟨_, .non, by decide, odd_no fun z _ => rfl⟩
            · exact ⟨_, .int 0, by decide, odd_no fun z _ => rfl⟩
            · exact ⟨_, .bl true, by decide, odd_no fun z _ => rfl⟩
            · exact ⟨_, .str _, shaped_small (by simp only [PyData.canLay0]; exact okn) (by simp [PyData.depth]), odd_no fun z _ => rfl⟩
            · exact ⟨_, .lst (SqL.of g_t1) (.cons (.str _) (.cons (.str _) .nil)), shaped_small (by simp [PyData.canLay0, PyData.canLayAll0, okn, okk]) (by simp [PyData.depth, PyData.depthAll]), odd_no fun z _ => rfl⟩
            · refine ⟨_, .tup (SqT.of g_t2) (.cons (.str _) (.cons (.str _) .nil)), shaped_small (by simp [PyData.canLay0, PyData.canLayAll0, okn, okk]) (by simp [PyData.depth, PyData.depthAll]), odd_no fun z hz => ?_⟩
              show PyData.eqv (pD z) (pD (rr.2.2, rr.2.1)) = false
              rw [pD_eqv]
              refine decide_eq_false fun e => ?_
              have h1 := (hG1 z hz).1.2.1
              rw [e] at h1
              obtain ⟨c, hc, h2⟩ := hko.1
              have h3 : some c1 = some c := h1.symm.trans h2
              cases h3
              have h4 := cmem c1 cm1
              simp only [List.mem_cons, List.not_mem_nil, or_false] at h4 hc
              omega
            · refine ⟨_, .tup (SqT.of g_t3) (.cons (.str _) .nil), shaped_small (by simp [PyData.canLay0, PyData.canLayAll0, okn, okk]) (by simp [PyData.depth, PyData.depthAll]), odd_no fun z hz => ?_⟩
              simp [pD, PyData.eqv, PyData.eqvAll]
            · refine ⟨_, .tup (SqT.of g_t4) (.cons (.str _) (.cons (.str _) (.cons (.str _) .nil))), shaped_small (by simp [PyData.canLay0, PyData.canLayAll0, okn, okk]) (by simp [PyData.depth, PyData.depthAll]), odd_no fun z hz => ?_⟩
              simp [pD, PyData.eqv, PyData.eqvAll]
            · refine ⟨_, .tup (SqT.of g_t5) (.cons (.str _) (.cons (.str _) .nil)), shaped_small (by simp [PyData.canLay0, PyData.canLayAll0, okn0, okk]) (by simp [PyData.depth, PyData.depthAll]), odd_no fun z hz => ?_⟩
              show PyData.eqv (pD z) (pD (rr.2.1 ++ Str.ofString "0", rr.2.2)) = false
              rw [pD_eqv]
              refine decide_eq_false fun e => ?_
              have h1 := (hG1 z hz).1.1
              rw [e] at h1
              have h2 : (rr.2.1 ++ Str.ofString "0").cps.toList.length = l1 := h1
              rw [str_len, List.length_append, hno.1] at h2
              have h3 : (Str.ofString "0").cps.toList.length = 1 := by decide +kernel
              omega
            · refine ⟨_, .tup (SqT.of g_t6) (.cons (.str _) (.cons .non .nil)), shaped_small (by simp [PyData.canLay0, PyData.canLayAll0, okn, okk]) (by simp [PyData.depth, PyData.depthAll]), odd_no fun z hz => ?_⟩
              simp [pD, PyData.eqv, PyData.eqvAll]
          obtain ⟨d9, hd9, sd9, no9⟩ := odd
          have e47 : Ex [p] H22 H47 := (e37.trans e3746.up1).trans ex47
          have npg1 : g1 ≠ p := fun z => by
            obtain ⟨x, y, hp', _⟩ := hbN
            rw [z, hp'] at iA
            cases iA
          have ga47 := ga.ex e47 (by simp [npg1])
          refine hN.go _ _ (tsy fun N hN => ?_)
          walk_at "rs"
          refine ⟨g1, dA, _, rfl, e47.at1 iA npg1, g1, ps1, d9, rfl, ga47, hd9, sd9, ?_⟩
          rw [no9]
          walk_at "rs"
          refine ⟨by decide, fun t7 H48 nt7 ht7 ex48 => ?_⟩
          have e48 := e47.trans ex48.up1
          have dp7 : Dp K H48 (.ref t7) (pD rr.2) := .tup (SqT.of ht7) (.cons (.str _) (.cons (.str _) .nil))
          refine ⟨g1, dA, _, rfl, e48.at1 iA npg1, g1, ps1, _, rfl, ga.ex e48 (by simp [npg1]), dp7, pD_shaped (alN rr hrr).2, ?_⟩
          rw [any_pD]
          refine ⟨_, rfl, ?_⟩
          refine ⟨by decide, fun t8 H49 nt8 ht8 ex49 => ?_⟩
          have e49 := e48.trans ex49.up1
          have dp8 : Dp K H49 (.ref t8) (pD rr.2) := .tup (SqT.of ht8) (.cons (.str _) (.cons (.str _) .nil))
          have no1 : o1 ≠ p := bag_ne hbN u1
          have no2' : o2 ≠ p := bag_ne hbN u2
          refine ⟨pD rr.2, _, dp8, .lst (SqL.of (e49.at1 u1 no1)) (dp_pairs (up1.ex e49)), pD_shaped (alN rr hrr).2, pDs_shapedL up1.ok, ?_⟩
          rw [any_pD, q1]
          have eT : (!if false = true then !decide (rr.2 ∈ ps1) else decide (rr.2 ∈ ps1)) = !decide (rr.2 ∈ ps1) := rfl
          refine ⟨rfl, ?_⟩
          have dd : (decide ((if false = true then !decide (rr.2 ∈ ps1) else decide (rr.2 ∈ ps1)) = decide (rr.2 ∈ ps1))) = true := decide_eq_true rfl
          show if (!decide ((if false = true then !decide (rr.2 ∈ ps1) else decide (rr.2 ∈ ps1)) = decide (rr.2 ∈ ps1))) = true then _ else _
          rw [dd]
          refine iteF ?_
          refine hN.go _ _ ?_
          have npg2 : g2 ≠ p := fun z => by
            obtain ⟨x, y, hp', _⟩ := hbN
            rw [z, hp'] at iB
            cases iB
          have r1 := e49.at1 u1 no1
          have r2 := e49.at1 u2 no2'
          have rp1 := up1.ex e49
          have rp2 := up2.ex e49
          have ra := ga.ex e49 (by simp [npg1])
          have rb := gb.ex e49 (by simp [npg2])
          walk_at "rs"
          refine ⟨g1, o1, ps1, c1s, rfl, rfl, ra, r1, rp1, q1, by omega, fun H50 ex50 => ?_⟩
          refine ⟨_, rfl, iteT ?_⟩
          exact ⟨g2, o2, ps2, c2s, rfl, rfl, rb.ex ex50 (by simp), ex50.at0 r2, rp2.ex ex50, q2, by omega, fun H51 ex51 => hQ _⟩
end
end K84

set_option Elab.async false
set_option linter.all false
set_option maxRecDepth 100000
set_option maxHeartbeats 0
namespace K84
open PySem PySem.Spec PyProof.Rows L2 G3 GSet
theorem noCX {P : Program} {w : World} {K : PySem.W.Frag} {mg : Str → Option Value} {base : Heap} {k : Nat} {f : Addr} {fd : FuncData} {ps : List Str} {sp : Sp} (F : FnOk P w K mg base (L2.CX P w) k f fd ps sp) (h : ∀ vs H Q E, sp vs H Q E → sp vs H Q E0) :
    FnOk P w K mg base CX0 k f fd ps sp := by
  refine ⟨F.len, fun A outer s H args us vs Q E hr e0 hb r hs => codeAny_mono (F.run A outer s H args us vs Q E0 hr e0 hb r (h _ _ _ _ hs)) fun res s' hq => ?_⟩
  cases res with
  | ok fl => cases fl <;> exact hq
  | error e =>
    obtain ⟨_, _, _, _, _, _, _, _, _, _, _, _, z⟩ := (show L2.CX P w outer H s E0 e s' from hq)
    exact z.elim
abbrev R : PySem.W.OpenRow := PySem.W.OpenLaw.row PySem.Challenge.rw_ownsignals_k84_grants_as_sets
abbrev qv : Program := PySem.W.view R.prog [10]
abbrev hk : PySem.W.Hook := GH.hookX 6 facts fns
def ob (s : PySem.W.SharedT) : He.AlD := GH.obsXG 6 facts fns (HandSHeadRun.getT s)
theorem ob_eq (s : PySem.W.SharedT) : ob s = hk.obs s.abs := GH.obsXG_eq (HandSHeadRun.getT_eq s)
def loose : List PySem.Str := ["Grant", "_law_bag", "_law_take", "_law_of", "_law_names", "_law_grant", "_law_is_grant", "_law_pairs"]
theorem run (w : World) : HandSHeadRun.RunEq R qv hk ob 3000 loose w := by
  intro os
  kernel_rfl
end K84
open PySem PySem.W PySem.Calls PyProof.Rows
theorem PySem.Challenge.cw_ownsignals_k84_grants_as_sets_holds : PySem.Challenge.rw_ownsignals_k84_grants_as_sets.Holds := by
  w_on; o_law
  refine HandSHeadRun.head_any (r := OpenLaw.row PySem.Challenge.rw_ownsignals_k84_grants_as_sets) (q := view (OpenLaw.row PySem.Challenge.rw_ownsignals_k84_grants_as_sets).prog [10]) (H := K84.hk) (ob := K84.ob) (M := 3000) (loose := K84.loose) (d := HandSHeadRun.topDef (OpenLaw.row PySem.Challenge.rw_ownsignals_k84_grants_as_sets).prog 10) (kwd := []) K84.ob_eq
    (by kernel_rfl) (fun s => by kernel_rfl) K84.run (by kernel_rfl) (by kernel_rfl) (by kernel_rfl) (by rfl) (by first | assumption | decide +kernel) (by decide +kernel) ⟨rfl, rfl, rfl, rfl, rfl, by decide +kernel⟩ ?hw ?hc
  case hw => w_witness2
  case hc =>
    refine L2.walk_ofE (l := PySem.Challenge.rw_ownsignals_k84_grants_as_sets) (n := 63) (k := 10) (x := "_law_script") (CX := L2.CX0) rfl (by decide) (by kernel_rfl) ⟨rfl, by decide, by decide⟩ ?F (fun _ _ _ _ z => z)
    intro w mg fa h Y G hmg0
    obtain ⟨K, KX, c⟩ := Y
    have T : K84.TX K mg := GH.Tx.of KX G c
    have hmg : mg ("law" : PySem.Str) = some (.ref fa) := by
      have e : (HandSHeadRun.topDef (OpenLaw.row PySem.Challenge.rw_ownsignals_k84_grants_as_sets).prog 10).name = ("law" : PySem.Str) := by kernel_rfl
      rw [← e]
      exact hmg0
    have e := hmg.symm.trans (K84.g_law T)
    cases e
    obtain ⟨fd, hb, hF⟩ := K84.law_ok (P := (PySem.Challenge.rw_ownsignals_k84_grants_as_sets).prog) (w := w) T
    exact ⟨K, fd, K84.spLaw K, KX, fun s u => hb s u, fun H a ns hl _ hS => ⟨a, ns, rfl, hS, hl, fun _ => rfl⟩, fun base _ _ => K84.noCX (hF base) fun vs H Q E z => by
      match vs, z with
      | [x], z => exact z⟩
