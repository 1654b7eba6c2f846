import PyProof.Rows.All
import HandS.Zip
import KE.GoesZip
import KE.GoesMore
import HandS.TupSets
import KE.KeyNested
import KE.SortData
import Wide.All
import OpenK.AllK
import Wide.FinOn
import HandS.ForMost
import HandS.Conv
import HandS.IsInst
import HandS.TupLe
import HandS.TupAny
import HandS.Deep
import HandS.Rev
import HandS.Iter
import KE.KDictKeyed
import HandS.Exc
import HandS.TryOnly
import HandS.ExcOwn
import HandS.ExcIs
import HandS.SetKeys
import HandS.TupLen
import PyProof.Rows.TupDisplay
import HandS.TupMul
import KE.GoesEnum
import HandS.SetFor
import HandS.SortInts
import HandS.Style
import HandS.SortRule
import KE.KDictSum
import KE.KDictCopyH
import KE.KDictPairs
import HandS.Strs
import KE.KIndexOf
import HandS.RevRange
import HandS.More
import PyProof.ReprRoads
import HandS.Dict
import HandS.WordsExc
import KE.KIsAll
import HandS.DictTup
import PyProof.DictMoreH
import KE.DataMinMax
import PyProof.Rows.IntBool
import KE.KItemsList
import HandS.RevTup
import PyProof.SumAny
import PyProof.Rows.SeqMore
import PyProof.NeKinds
import HandS.ExcInit
import HandS.ExcField
import OpenK.KCls
import KE.KEqDict
import PyProof.ReprBulk
import PyProof.Rows.ReprShort
import PySem.Challenge.RW_stonewalker_k08_same_webs
set_option Elab.async false
set_option linter.all false
set_option maxRecDepth 100000
/-! zip of a tuple and a list -/
namespace SW
open PySem PySem.Spec PyProof.Rows L2

end SW
/-! Sets whose members are tuples of any depth (numbers and None at the leaves): set(xs), sorted(set(xs)). Turned from flat tuples to nested ones. -/
namespace SW
open PySem PySem.Spec PyProof.Rows L2

/-- a new set -/
abbrev set0 (w : World) : Obj := { cls := .type "set", dict := none, data := .set #[] 0 (.fresh 0 0 (!w.params.followText "set-order")) }
abbrev KA := Addr × NestedKey
abbrev nkh (w : World) (k : NestedKey) : Int := NestedKey.hash w k
mutual
/-- no text anywhere -/
def bareK : NestedKey → Bool
  | .none => true
  | .num _ => true
  | .text _ => false
  | .tup ks => bareKs ks
def bareKs : List NestedKey → Bool
  | [] => true
  | k :: ks => bareK k && bareKs ks
end
mutual
/-- the value v is the key k: numbers are numbers, no truths -/
def NkR (h : Heap) : NestedKey → Value → Prop
  | .none, v => v = .none
  | .num i, v => ∃ t, v = .int i t
  | .text x, v => ∃ t, v = .str x t
  | .tup ks, v => ∃ (a : Addr) (o : Obj) (us : Array Value) (n : Nat), v = .ref a ∧ h.get? a = some o ∧ o.cls = .type "tuple" ∧ o.data = .seq us n ∧ NkRs h ks us.toList
def NkRs (h : Heap) : List NestedKey → List Value → Prop
  | [], us => us = []
  | k :: ks, us => ∃ v vs, us = v :: vs ∧ NkR h k v ∧ NkRs h ks vs
end
mutual
theorem NkR.nest {h : Heap} : ∀ {k : NestedKey} {v : Value}, NkR h k v → NestedIs h k v
  | .none, _, x => by simp only [NkR] at x; subst x; exact .none
  | .num i, _, x => by simp only [NkR] at x; obtain ⟨t, rfl⟩ := x; exact .int i t
  | .text y, _, x => by simp only [NkR] at x; obtain ⟨t, rfl⟩ := x; exact .text y t
  | .tup ks, _, x => by
    simp only [NkR] at x
    obtain ⟨a, o, us, n, rfl, h1, h2, h3, h4⟩ := x
    exact .tup h1 h2 h3 (NkRs.nest h4)
theorem NkRs.nest {h : Heap} : ∀ {ks : List NestedKey} {vs : List Value}, NkRs h ks vs → NestedAll h ks vs
  | [], _, x => by simp only [NkRs] at x; subst x; exact .nil
  | k :: ks, _, x => by
    simp only [NkRs] at x
    obtain ⟨v, vs, rfl, h1, h2⟩ := x
    exact .cons h1.nest h2.nest
end
mutual
theorem NkR.at_ {h h' : Heap} (hk : ∀ a o us n, h.get? a = some o → o.data = .seq us n → h'.get? a = some o) : ∀ {k : NestedKey} {v : Value}, NkR h k v → NkR h' k v
  | .none, _, x => by simpa only [NkR] using x
  | .num i, _, x => by simpa only [NkR] using x
  | .text y, _, x => by simpa only [NkR] using x
  | .tup ks, _, x => by
    simp only [NkR] at x ⊢
    obtain ⟨a, o, us, n, rfl, h1, h2, h3, h4⟩ := x
    exact ⟨a, o, us, n, rfl, hk _ _ _ _ h1 h3, h2, h3, NkRs.at_ hk h4⟩
theorem NkRs.at_ {h h' : Heap} (hk : ∀ a o us n, h.get? a = some o → o.data = .seq us n → h'.get? a = some o) : ∀ {ks : List NestedKey} {vs : List Value}, NkRs h ks vs → NkRs h' ks vs
  | [], _, x => by simpa only [NkRs] using x
  | k :: ks, _, x => by
    simp only [NkRs] at x ⊢
    obtain ⟨v, vs, rfl, h1, h2⟩ := x
    exact ⟨v, vs, rfl, NkR.at_ hk h1, NkRs.at_ hk h2⟩
end
/-- the tuple at a is the key k -/
structure NtK (h : Heap) (k : NestedKey) (a : Addr) : Prop where
  rel : NkR h k (.ref a)
  dep : k.depth ≤ 8
  bare : bareK k = true
theorem NtK.isK {h : Heap} {k : NestedKey} {a : Addr} (x : NtK h k a) : NestedIs h k (.ref a) := x.rel.nest
theorem NtK.inj {h : Heap} {k m : NestedKey} {a : Addr} (x : NtK h k a) (y : NtK h m a) : k = m := NestedIs.inj _ _ _ x.isK y.isK
section
variable {P : Program} {w : World} {A : Around} {E : Value → Shared → Prop} {s : Shared}
theorem ntK_hash {k : NestedKey} {b : Addr} {Q : Int → Shared → Prop} (hu : A.units + 8 < cLine) (x : NtK s.heap k b) (q : Q (nkh w k) { s with toks := s.toks + k.draws }) : wpAny (model P w) A (pyHash (.ref b)) Q E s :=
  pyHash_key _ _ _ _ _ x.isK (by have := x.dep; omega) q
theorem ntK_eq {k m : NestedKey} {b c : Addr} {Q : Bool → Shared → Prop} (hu : A.units + 8 < cLine) (x : NtK s.heap k b) (y : NtK s.heap m c) (q : Q (decide (k = m)) s) : wpAny (model P w) A (eqBool (.ref b) (.ref c)) Q E s :=
  eqAt_key k m A s _ _ x.isK y.isK (by have := x.dep; omega) _ _ _ _ (by rw [← NestedKey.decide_eq]; exact q)
theorem ntK_quiet {k : NestedKey} {b : Addr} {Q : Bool → Shared → Prop} (x : NtK s.heap k b) (q : Q true s) : wpAny (model P w) A (eqIsQuiet 8 (.ref b)) Q E s :=
  quiet_key k _ 8 s x.isK x.dep A E Q q
/-- of no class statement, n levels down -/
def NoCls (P : Program) (w : World) (n : Nat) (s : Shared) (v : Value) : Prop := ∀ (A : Around) (E : Value → Shared → Prop) (Q : Bool → Shared → Prop), Q false s → wpAny (model P w) A (ofAClassStatement n v) Q E s
def ByV (P : Program) (w : World) (n : Nat) (s : Shared) (v : Value) : Prop := ∀ (A : Around) (E : Value → Shared → Prop) (Q : Bool → Shared → Prop), Q true s → wpAny (model P w) A (hashByValue n v) Q E s
theorem NoCls.tup {n : Nat} {b : Addr} {o : Obj} {us : Array Value} {m : Nat} (ho : s.heap.get? b = some o) (hc : o.cls = .type "tuple") (hd : o.data = .seq us m) (all : ∀ v ∈ us.toList, NoCls P w n s v) : NoCls P w (n + 1) s (.ref b) := fun A E Q q => by
  have isT : s.TypeIs (.ref b) "tuple" := ⟨o, ho, hc⟩
  unfold ofAClassStatement
  refine wpAny_bind (wpAny_typeOf isT ?_)
  dsimp only
  have eT : (("tuple" : String) == "tuple") = true := by decide
  simp only [eT, if_true, Bool.not_true, Bool.false_eq_true, if_false]
  try refine wpAny_bind (wpAny_pure ?_)
  try simp only [Bool.not_true, Bool.false_eq_true, if_false]
  show wpAny _ _ (seqItems? (.ref b) >>= _) _ _ s
  refine wpAny_bind (wpAny_seqItems ho hd ?_)
  dsimp only
  refine wpAny_bind ?_
  show wpAny _ _ (forIn us _ _) _ _ s
  rw [← Array.forIn_toList]
  refine wpAny_forIn_list _ (fun rest r s' => r.1 = none ∧ s' = s ∧ ∀ v ∈ rest, NoCls P w n s v) _ ?_ ?_ _ _ ⟨rfl, rfl, all⟩
  · rintro v rest r s' ⟨hr, rfl, more⟩
    refine wpAny_bind (more v List.mem_cons_self _ _ _ ?_)
    simp only [Bool.false_eq_true, if_false]
    exact wpAny_pure ⟨rfl, rfl, fun u z => more u (List.mem_cons_of_mem _ z)⟩
  · rintro ⟨r1, r2⟩ s' ⟨hr, rfl, _⟩
    simp only at hr
    subst hr
    exact wpAny_pure q
theorem ByV.tup {n : Nat} {b : Addr} {o : Obj} {us : Array Value} {m : Nat} (ho : s.heap.get? b = some o) (hc : o.cls = .type "tuple") (hd : o.data = .seq us m) (all : ∀ v ∈ us.toList, ByV P w n s v) : ByV P w (n + 1) s (.ref b) := fun A E Q q => by
  have isT : s.TypeIs (.ref b) "tuple" := ⟨o, ho, hc⟩
  unfold hashByValue
  refine wpAny_bind (wpAny_specialOf isT F.slot_tuple_hash.lookup ?_)
  show wpAny _ _ (seqItems? (.ref b) >>= _) _ _ s
  refine wpAny_bind (wpAny_seqItems ho hd ?_)
  refine wpAny_bind ?_
  show wpAny _ _ (forIn us _ _) _ _ s
  rw [← Array.forIn_toList]
  refine wpAny_forIn_list _ (fun rest r s' => r.1 = none ∧ s' = s ∧ ∀ v ∈ rest, ByV P w n s v) _ ?_ ?_ _ _ ⟨rfl, rfl, all⟩
  · rintro v rest r s' ⟨hr, rfl, more⟩
    refine wpAny_bind (more v List.mem_cons_self _ _ _ ?_)
    simp only [Bool.not_true, Bool.false_eq_true, if_false]
    exact wpAny_pure ⟨rfl, rfl, fun u z => more u (List.mem_cons_of_mem _ z)⟩
  · rintro ⟨r1, r2⟩ s' ⟨hr, rfl, _⟩
    simp only at hr
    subst hr
    exact wpAny_pure q
theorem noCls_byValue {n : Nat} {v : Value} (h : ofAClassStatement n v = pure false) : NoCls P w n s v := fun A E Q q => by
  rw [h]; exact wpAny_pure q
theorem byV_byValue {n : Nat} {v : Value} (h : hashByValue n v = pure true) : ByV P w n s v := fun A E Q q => by
  rw [h]; exact wpAny_pure q
mutual
theorem noCls_key : ∀ (k : NestedKey) (v : Value) (n : Nat), NestedIs s.heap k v → k.depth ≤ n → NoCls P w n s v
  | .none, _, n, x, _ => by cases x; exact noCls_byValue (by cases n <;> rfl)
  | .num i, _, n, x, _ => by cases x <;> exact noCls_byValue (by cases n <;> rfl)
  | .text y, _, n, x, _ => by cases x; exact noCls_byValue (by cases n <;> rfl)
  | .tup ks, _, n, x, hn => by
    cases x with
    | tup g1 g2 g3 g4 =>
      simp only [NestedKey.depth] at hn
      cases n with
      | zero => omega
      | succ n => exact .tup g1 g2 g3 (noCls_keys ks _ n g4 (by omega))
theorem noCls_keys : ∀ (ks : List NestedKey) (vs : List Value) (n : Nat), NestedAll s.heap ks vs → NestedKey.depthAll ks ≤ n → ∀ v ∈ vs, NoCls P w n s v
  | [], _, n, x, _, v, hv => by cases x; cases hv
  | k :: ks, _, n, x, hn, v, hv => by
    cases x with
    | cons x1 x2 =>
      simp only [NestedKey.depthAll] at hn
      rcases List.mem_cons.mp hv with e | hv
      · rw [e]; exact noCls_key k _ n x1 (by omega)
      · exact noCls_keys ks _ n x2 (by omega) v hv
end
mutual
theorem byV_key : ∀ (k : NestedKey) (v : Value) (n : Nat), NestedIs s.heap k v → k.depth ≤ n → bareK k = true → ByV P w n s v
  | .none, _, n, x, _, _ => by cases x; exact byV_byValue (by cases n <;> rfl)
  | .num i, _, n, x, _, _ => by cases x <;> exact byV_byValue (by cases n <;> rfl)
  | .text y, _, n, x, _, hb => by simp [bareK] at hb
  | .tup ks, _, n, x, hn, hb => by
    cases x with
    | tup g1 g2 g3 g4 =>
      simp only [NestedKey.depth] at hn
      cases n with
      | zero => omega
      | succ n => exact .tup g1 g2 g3 (byV_keys ks _ n g4 (by omega) (by simpa [bareK] using hb))
theorem byV_keys : ∀ (ks : List NestedKey) (vs : List Value) (n : Nat), NestedAll s.heap ks vs → NestedKey.depthAll ks ≤ n → bareKs ks = true → ∀ v ∈ vs, ByV P w n s v
  | [], _, n, x, _, _, v, hv => by cases x; cases hv
  | k :: ks, _, n, x, hn, hb, v, hv => by
    cases x with
    | cons x1 x2 =>
      simp only [NestedKey.depthAll] at hn
      simp only [bareKs, Bool.and_eq_true] at hb
      rcases List.mem_cons.mp hv with e | hv
      · rw [e]; exact byV_key k _ n x1 (by omega) hb.1
      · exact byV_keys ks _ n x2 (by omega) hb.2 v hv
end
/-- a search among such tuples shows nothing -/
theorem ntK_seen {k : NestedKey} {b : Addr} {Q : Bool → Shared → Prop} (x : NtK s.heap k b) {ys : List Value} (all : ∀ y ∈ ys, ∃ m c, y = Value.ref c ∧ NtK s.heap m c) (q : Q false s) :
    wpAny (model P w) A (searchCouldBeSeen (.ref b) ys) Q E s := by
  unfold searchCouldBeSeen
  refine wpAny_bind ?_
  refine wpAny_forIn_list _ (fun rest r s' => r.1 = none ∧ s' = s ∧ ∀ y ∈ rest, ∃ m c, y = Value.ref c ∧ NtK s.heap m c) _ ?_ ?_ _ _ ⟨rfl, rfl, all⟩
  · rintro v rest r s' ⟨hr, rfl, more⟩
    obtain ⟨m, c, rfl, hc⟩ := more v List.mem_cons_self
    have rest' : ∀ y ∈ rest, ∃ m c, y = Value.ref c ∧ NtK s'.heap m c := fun u z => more u (List.mem_cons_of_mem _ z)
    dsimp only
    by_cases hv : (b == c || (carriedByValue (.ref b) && carriedByValue (.ref c))) = true
    · refine wp_if_pos hv ?_
      exact wpAny_pure ⟨rfl, rfl, rest'⟩
    · refine wp_if_neg hv ?_
      refine wpAny_bind (ntK_quiet x ?_)
      simp only [Bool.not_true, Bool.false_eq_true, if_false]
      refine wpAny_bind (ntK_quiet hc ?_)
      simp only [Bool.not_true, Bool.false_eq_true, if_false]
      refine wpAny_bind (noCls_key _ _ 8 x.isK x.dep _ _ _ ?_)
      simp only [Bool.false_eq_true, if_false]
      refine wpAny_bind (noCls_key _ _ 8 hc.isK hc.dep _ _ _ ?_)
      simp only [Bool.false_eq_true, if_false]
      exact wpAny_pure ⟨rfl, rfl, rest'⟩
  · rintro ⟨r1, r2⟩ s' ⟨hr, rfl, _⟩
    simp only at hr
    subst hr
    exact wpAny_pure q
def rowsN (w : World) (L : List KA) : List (Int × Value) := L.map fun p => (nkh w p.2, Value.ref p.1)
structure SetNR (w : World) (h : Heap) (a : Addr) (L : List KA) (es : Array (Int × Value)) (ep : Nat) (t : SetTable) : Prop where
  ob : ∃ o, h.get? a = some o ∧ o.ExactSet ∧ o.data = .set es ep t
  rows : es.toList = rowsN w L
  tab : TabOk t (L.map fun p => nkh w p.2)
  nd : (L.map (·.2)).Nodup
  tup : ∀ p ∈ L, NtK h p.2 p.1
  plain : t.plain = true
  led : w.params.followText "set-order" = true ∨ t.led = true
  room : L.length * 5 < t.mask * 3
  few : L.length < 64
variable {a : Addr} {L : List KA} {es : Array (Int × Value)} {ep : Nat} {t : SetTable}
theorem SetNR.size (R : SetNR w s.heap a L es ep t) : es.size = L.length := by
  have h := congrArg List.length R.rows
  unfold rowsN at h
  rw [Array.length_toList, List.length_map] at h
  exact h
theorem SetNR.fits (R : SetNR w s.heap a L es ep t) : t.fits es.size = true := by
  have h1 := R.tab.sz
  rw [List.length_map] at h1
  have h2 := R.size
  have h3 := R.room
  unfold SetTable.fits SetTable.fill
  rw [R.tab.dm, Bool.and_eq_true, beq_iff_eq, decide_eq_true_eq]
  show t.place.size = es.size ∧ t.place.size + 0 ≤ t.mask
  omega
theorem SetNR.entry (R : SetNR w s.heap a L es ep t) {i : Nat} {p : KA} (h : L[i]? = some p) : es[i]? = some (nkh w p.2, Value.ref p.1) := by
  rw [← Array.getElem?_toList, R.rows]
  unfold rowsN
  rw [List.getElem?_map, h] <;> rfl
theorem SetNR.gw (R : SetNR w s.heap a L es ep t) : ¬ t.gaveWay = true := by
  unfold SetTable.gaveWay
  rw [mask_odd R.tab.mok]
  decide
theorem nsameMem (t : SetTable) : t.sameMemory t.moves t.mask = some true := by
  unfold SetTable.sameMemory
  rw [if_pos (beq_self_eq_true _)]

/-- THE SEARCH: from the c-th step of the way on -/
theorem nsearch_from (R : SetNR w s.heap a L es ep t) {x : Addr} {k : NestedKey} (hx : NtK s.heap k x) (hu : A.units + 8 < cLine) {K : Nat} (hKf : K < 10 * SetTable.turns t.mask)
    (hK : way t.mask (nkh w k) K ∉ t.place.toList) (hKb : ∀ c, c < K → way t.mask (nkh w k) c ∈ t.place.toList) {Q : SetFound → Shared → Prop}
    (hin : k ∈ L.map (·.2) → Q (.there none) s) (hout : k ∉ L.map (·.2) → Q (.free (way t.mask (nkh w k) K) false) s) :
    ∀ (f c : Nat) (stand : Option SetTable.Probe), stand.getD (t.probeStart (nkh w k)) = nth t.mask (runAt t.mask (SetTable.bits (nkh w k) % (t.mask + 1)) (SetTable.bits (nkh w k))) c → c ≤ K → K - c < f →
      (∀ (i : Nat) p, L[i]? = some p → p.2 = k → ∃ c', c ≤ c' ∧ c' < K ∧ t.place.toList[i]? = some (way t.mask (nkh w k) c')) →
      wpAny (model P w) A (setSearchFrom a (.ref x) (nkh w k) true f stand) Q E s
  | 0, c, stand, _, _, hf, _ => absurd hf (Nat.not_lt_zero _)
  | f + 1, c, stand, hst, hc, hf, hre => by
    obtain ⟨o, ho, hex, hd⟩ := R.ob
    rw [setSearchFrom_succ]
    refine wpAny_bind (wpAny_setState_of ho hd R.fits ?_)
    dsimp only
    refine wp_if_neg R.gw ?_
    try refine wpAny_bind (wpAny_pure ?_)
    have hnd : (nth t.mask (runAt t.mask (SetTable.bits (nkh w k) % (t.mask + 1)) (SetTable.bits (nkh w k))) c).dummy = none := by
      have key : ∀ (n : Nat) (p : SetTable.Probe), p.dummy = none → (nth t.mask p n).dummy = none := by
        intro n
        induction n with
        | zero => intro p h; exact h
        | succ n ih =>
          intro p h
          refine ih (adv t.mask p) ?_
          unfold adv
          split <;> exact h
      exact key c _ rfl
    have sh : ∀ q, nth t.mask (nth t.mask (runAt t.mask (SetTable.bits (nkh w k) % (t.mask + 1)) (SetTable.bits (nkh w k))) c) q = nth t.mask (runAt t.mask (SetTable.bits (nkh w k) % (t.mask + 1)) (SetTable.bits (nkh w k))) (c + q) := fun q => (nth_add t.mask c _ q).symm
    have e1 : ∀ q, (nth t.mask (nth t.mask (runAt t.mask (SetTable.bits (nkh w k) % (t.mask + 1)) (SetTable.bits (nkh w k))) c) q).j = way t.mask (nkh w k) (c + q) := fun q => congrArg SetTable.Probe.j (sh q)
    have spec := go_spec t R.tab.ris R.tab.dm (fun i => (es[i]?.map (·.1)).getD 0) (nkh w k) (10 * SetTable.turns t.mask) (K - c) _ hnd (by omega)
      (fun q hq => by rw [e1]; exact hKb (c + q) (by omega)) (by rw [e1, show c + (K - c) = K by omega]; exact hK)
    have hashAt : ∀ (i : Nat) p, L[i]? = some p → (fun i => (es[i]?.map (·.1)).getD 0) i = nkh w p.2 := fun i p hp => by
      show (es[i]?.map (·.1)).getD 0 = _
      rw [R.entry hp] <;> rfl
    rcases spec with ⟨q, i, hq, hi, hh, hno, hpr⟩ | ⟨hno, hpr⟩
    · -- a candidate
      have hpr' : t.probe (fun i => (es[i]?.map (·.1)).getD 0) (nkh w k) (stand.getD (t.probeStart (nkh w k))) = some (.candidate (way t.mask (nkh w k) (c + q)) i (nth t.mask (runAt t.mask (SetTable.bits (nkh w k) % (t.mask + 1)) (SetTable.bits (nkh w k))) (c + (q + 1)))) := by
        rw [hst, ← e1, ← sh]
        exact hpr
      rw [hpr']
      dsimp only
      rw [e1] at hi
      -- the entry
      have hil : i < L.length := by
        have h1 : i < t.place.toList.length := (List.getElem?_eq_some_iff.mp hi).1
        have h2 := R.tab.sz
        rw [List.length_map] at h2
        rw [Array.length_toList] at h1
        omega
      have hp : L[i]? = some L[i] := List.getElem?_eq_getElem hil
      generalize hpe : L[i] = p at hp
      have hmem : p ∈ L := List.mem_of_getElem? hp
      have hpt := R.tup p hmem
      have rest : wpAny (model P w) A (searchRest a (.ref x) (nkh w k) true f es t (way t.mask (nkh w k) (c + q)) i (nth t.mask (runAt t.mask (SetTable.bits (nkh w k) % (t.mask + 1)) (SetTable.bits (nkh w k))) (c + (q + 1)))) Q E s := by
        unfold searchRest
        rw [R.entry hp]
        dsimp only
        refine wpAny_bind (wpAny_holding (ntK_eq hu hpt hx ?_))
        refine wpAny_bind (wpAny_setState_of ho hd R.fits ?_)
        dsimp only
        by_cases hkk : p.2 = k
        · refine wp_if_pos (by simp [hkk]) ?_
          refine wpAny_pure (hin ?_)
          exact List.mem_map.mpr ⟨p, hmem, hkk⟩
        · refine wp_if_neg (by simp [hkk]) ?_
          try refine wpAny_bind (wpAny_pure ?_)
          rw [nsameMem]
          dsimp only
          have hsl : t.slot (way t.mask (nkh w k) (c + q)) = .live i := slot_live R.tab.ris hi
          simp only [if_true, hsl, R.entry hp]
          refine wpAny_bind (wpAny_isSame_ref_self (wpAny_bind (wpAny_pure ?_)))
          simp only [if_true]
          refine wp_if_neg (by simp [hkk]) ?_
          refine nsearch_from R hx hu hKf hK hKb hin hout f (c + (q + 1)) _ rfl (by omega) (by omega) fun i0 p0 h0 hk0 => ?_
          obtain ⟨c', a1, a2, a3⟩ := hre i0 p0 h0 hk0
          refine ⟨c', ?_, a2, a3⟩
          -- it isn't passed
          rcases Nat.lt_or_ge c' (c + q) with z | z
          · exfalso
            refine hno (c' - c) i0 (by omega) (by rw [e1, show c + (c' - c) = c' by omega]; exact a3) ?_
            exact (hashAt i0 p0 h0).trans (congrArg (nkh w) hk0)
          · rcases Nat.lt_or_ge (c + q) c' with y | y
            · omega
            · exfalso
              have ec : c' = c + q := Nat.le_antisymm y z
              rw [ec] at a3
              have s0 := slot_live R.tab.ris a3
              rw [hsl] at s0
              injection s0 with s0
              rw [← s0, hp] at h0
              exact hkk ((congrArg Prod.snd (Option.some.inj h0)).trans hk0)
      by_cases hl : t.led = true
      · refine wp_if_neg (by simp [hl]) ?_
        try refine wpAny_bind (wpAny_pure ?_)
        exact rest
      · refine wp_if_pos (by simp [hl]) ?_
        refine wpAny_bind (ntK_seen hx (fun y hy => ?_) ?_)
        · obtain ⟨e, he, ee⟩ := List.mem_map.mp hy
          have he1 : e ∈ es ∧ e.1 = nkh w k := by simpa using he
          have he2 : e ∈ es.toList := by simpa using he1.1
          rw [R.rows] at he2
          obtain ⟨p2, hp2, e2⟩ := List.mem_map.mp he2
          refine ⟨p2.2, p2.1, ?_, R.tup p2 hp2⟩
          rw [← ee, ← e2]
        · refine wp_if_neg (by decide) ?_
          try refine wpAny_bind (wpAny_pure ?_)
          exact rest
    · -- the empty slot
      have hpr' : t.probe (fun i => (es[i]?.map (·.1)).getD 0) (nkh w k) (stand.getD (t.probeStart (nkh w k))) = some (.empty (way t.mask (nkh w k) K) none) := by
        have e2 : way t.mask (nkh w k) K = (nth t.mask (nth t.mask (runAt t.mask (SetTable.bits (nkh w k) % (t.mask + 1)) (SetTable.bits (nkh w k))) c) (K - c)).j := by
          rw [e1, show c + (K - c) = K by omega]
        rw [hst, e2]
        exact hpr
      rw [hpr']
      dsimp only
      refine wpAny_pure (hout fun hm => ?_)
      obtain ⟨p0, h0, hk0⟩ := List.mem_map.mp hm
      obtain ⟨i0, hi0, e0⟩ := List.getElem_of_mem h0
      have h00 : L[i0]? = some p0 := by rw [List.getElem?_eq_getElem hi0, e0]
      obtain ⟨c', a1, a2, a3⟩ := hre i0 p0 h00 hk0
      refine hno (c' - c) i0 (by omega) (by rw [e1, show c + (c' - c) = c' by omega]; exact a3) ?_
      exact (hashAt i0 p0 h00).trans (congrArg (nkh w) hk0)

/-- the search as adding asks for it -/
theorem nsearch_at (R : SetNR w s.heap a L es ep t) {x : Addr} {k : NestedKey} (hx : NtK s.heap k x) (hu : A.units + 8 < cLine) {Q : SetFound → Shared → Prop}
    (hin : k ∈ L.map (·.2) → Q (.there none) s)
    (hout : ∀ K, k ∉ L.map (·.2) → way t.mask (nkh w k) K ∉ t.place.toList → (∀ c, c < K → way t.mask (nkh w k) c ∈ t.place.toList) → Q (.free (way t.mask (nkh w k) K) false) s) :
    wpAny (model P w) A (setSearch a (.ref x) (nkh w k) true) Q E s := by
  have hroom := R.room
  obtain ⟨K, hKf, hK, hKb⟩ := R.tab.first (by rw [List.length_map]; omega) (nkh w k)
  have hbig : K < 100000 := by
    have : 10 * SetTable.turns t.mask ≤ 1420 := by
      unfold SetTable.turns
      rcases R.tab.mok with e | e | e <;> omega
    omega
  unfold setSearch
  refine nsearch_from R hx hu hKf hK hKb hin (fun hn => hout K hn hK hKb) 100000 0 none rfl (Nat.zero_le _) (by omega) fun i p hp hk => ?_
  have hi : (L.map fun p => nkh w p.2)[i]? = some (nkh w k) := by rw [List.getElem?_map, hp, ← hk] <;> rfl
  have hil : i < t.place.toList.length := by
    have h1 : i < L.length := (List.getElem?_eq_some_iff.mp hp).1
    have h2 := R.tab.sz
    rw [List.length_map] at h2
    rw [Array.length_toList]
    omega
  have hj := List.getElem?_eq_getElem hil
  obtain ⟨c, hc, e⟩ := R.tab.before hK hi hj
  exact ⟨c, Nat.zero_le _, hc, by rw [hj, e]⟩
--B
/-- a tuple isn't the set -/
theorem ntK_same {h h' : Heap} {k : NestedKey} {a b : Addr} {o : Obj} {es : Array (Int × Value)} {ep : Nat} {t : SetTable} (x : NtK h k b) (ho : h.get? a = some o) (hd : o.data = .set es ep t) (hs : Heap.SameBut a h h') : NtK h' k b :=
  ⟨NkR.at_ (fun c ob us n hc he => by
    refine (hs.2 c fun e => ?_).trans hc
    subst e
    rw [ho] at hc
    cases hc
    rw [hd] at he
    cases he) x.rel, x.dep, x.bare⟩
theorem rowsN_put (L : List KA) (p : Nat) (x : Addr) (k : NestedKey) : rowsN w (L.take p ++ (x, k) :: L.drop p) = (rowsN w L).take p ++ (nkh w k, Value.ref x) :: (rowsN w L).drop p := by
  unfold rowsN
  rw [List.map_append, List.map_cons, List.map_take, List.map_drop]
theorem nput_perm {α : Type} (L : List α) (p : Nat) (x : α) : (L.take p ++ x :: L.drop p).Perm (x :: L) := by
  have h : (L.take p ++ x :: L.drop p).Perm (x :: (L.take p ++ L.drop p)) := List.perm_middle
  rw [List.take_append_drop] at h
  exact h
theorem norder_rows (L : List KA) (es : Array (Int × Value)) (order : Array Nat) (hr : es.toList = rowsN w L) (hp : order.toList.Perm (List.range L.length)) :
    ∃ L2, (order.filterMap (es[·]?)).toList = rowsN w L2 ∧ L2.Perm L ∧ (L2.map fun p => nkh w p.2) = order.toList.map fun i => (es.map (·.1)).getD i 0 := by
  have hsz : es.size = L.length := by
    have h := congrArg List.length hr
    unfold rowsN at h
    rw [Array.length_toList, List.length_map] at h
    exact h
  have ent : ∀ i (h : i < L.length), es[i]? = some (nkh w (L[i]).2, Value.ref (L[i]).1) := fun i h => by
    rw [← Array.getElem?_toList, hr]
    unfold rowsN
    rw [List.getElem?_map, List.getElem?_eq_getElem h] <;> rfl
  have key : ∀ l : List Nat, (∀ i ∈ l, i < L.length) → ∃ L2 : List KA, l.filterMap (fun i => es[i]?) = rowsN w L2 ∧ L2 = l.filterMap (fun i => L[i]?) ∧ (L2.map fun p => nkh w p.2) = l.map fun i => (es.map (·.1)).getD i 0 := by
    intro l
    induction l with
    | nil => intro _; exact ⟨[], rfl, rfl, rfl⟩
    | cons i l ih =>
      intro hl
      have hi := hl i List.mem_cons_self
      obtain ⟨L2, e1, e2, e3⟩ := ih fun j hj => hl j (List.mem_cons_of_mem _ hj)
      refine ⟨L[i] :: L2, ?_, ?_, ?_⟩
      · rw [List.filterMap_cons_some (ent i hi), e1] <;> rfl
      · rw [List.filterMap_cons_some (List.getElem?_eq_getElem hi), e2]
      · rw [List.map_cons, List.map_cons, e3]
        have hi2 : i < (es.map (·.1)).size := by rw [Array.size_map, hsz]; exact hi
        have e4 : (es.map (·.1)).getD i 0 = nkh w (L[i]).2 := by
          have e5 : (es.map (·.1))[i]? = some (nkh w (L[i]).2) := by rw [Array.getElem?_map, ent i hi] <;> rfl
          simp [Array.getD_eq_getD_getElem?, e5]
        rw [e4]
  obtain ⟨L2, e1, e2, e3⟩ := key order.toList fun i hi => List.mem_range.mp (hp.mem_iff.mp hi)
  refine ⟨L2, by first | (rw [Array.toList_filterMap]; exact e1) | simpa using e1, ?_, e3⟩
  have h1 : L2.Perm ((List.range L.length).filterMap fun i => L[i]?) := by
    rw [e2]
    exact hp.filterMap _
  have h2 : (List.range L.length).filterMap (fun i => L[i]?) = L := by
    have key2 : ∀ n, n ≤ L.length → (List.range n).filterMap (fun i => L[i]?) = L.take n := by
      intro n
      induction n with
      | zero => intro _; rfl
      | succ n ih =>
        intro hn
        have hlt : n < L.length := hn
        rw [List.range_succ, List.filterMap_append, ih (Nat.le_of_lt hlt), List.take_succ, List.getElem?_eq_getElem hlt]
        rw [List.filterMap_cons_some (List.getElem?_eq_getElem hlt)] <;> rfl
    rw [key2 L.length (Nat.le_refl _), List.take_length]
  rw [h2] at h1
  exact h1

variable {a : Addr} {L : List KA} {es : Array (Int × Value)} {ep : Nat} {t : SetTable}
/-- the table laid anew, larger -/
theorem nrelay_at {o : Obj} (ho : s.heap.get? a = some o) (hex : o.ExactSet) (hd : o.data = .set es ep t) (hrows : es.toList = rowsN w L) (hsz : t.place.size = es.size) (hdm : t.dummies = #[]) (hfl : es.size ≤ t.mask)
    (nd : (L.map (·.2)).Nodup) (tup : ∀ p ∈ L, NtK s.heap p.2 p.1) (pl : t.plain = true) (ld : w.params.followText "set-order" = true ∨ t.led = true) (few : L.length < 64) {wanted M : Nat}
    (hw : SetTable.sizeAbove wanted - 1 = M) (hM : MaskOk M) (hw2 : SetTable.sizeAbove wanted ≤ 128) (hn : L.length * 5 < M * 3) {Q : Unit → Shared → Prop}
    (hQ : ∀ h' L' es' ep' t', Heap.SameBut a s.heap h' → SetNR w h' a L' es' ep' t' → L'.Perm L → Q () { s with heap := h' }) : wpAny (model P w) A (setRelay a wanted) Q E s := by
  have hsl : es.size = L.length := by
    have h := congrArg List.length hrows
    unfold rowsN at h
    rw [Array.length_toList, List.length_map] at h
    exact h
  have hfits : t.fits es.size = true := by
    unfold SetTable.fits SetTable.fill
    rw [hdm, Bool.and_eq_true, beq_iff_eq, decide_eq_true_eq]
    show t.place.size = es.size ∧ t.place.size + 0 ≤ t.mask
    omega
  obtain ⟨t', order, e, hp, T, em, el, ep', ed⟩ := relaid_ok t (hs := es.map (·.1)) (wanted := wanted) hw hM (by rw [Array.size_map, hsl]; omega)
  rw [Array.size_map, hsl] at hp
  obtain ⟨L2, r1, r2, r3⟩ := norder_rows L es order hrows hp
  rw [← r3] at T
  have hs2 : (order.filterMap (es[·]?)).size = es.size := by
    have h := congrArg List.length r1
    unfold rowsN at h
    rw [Array.length_toList, List.length_map, r2.length_eq] at h
    rw [h, hsl]
  rw [setRelay_eq]
  refine wpAny_bind (wpAny_setState_of ho hd hfits ?_)
  dsimp only
  refine wp_if_neg (by rw [sizeLine_eq]; omega) ?_
  try refine wpAny_bind (wpAny_pure ?_)
  rw [e]
  dsimp only
  refine wpAny_bind ?_
  refine wp_if_neg (by rw [hs2]; simp) ?_
  try refine wpAny_bind (wpAny_pure ?_)
  refine wpAny_pure ?_
  dsimp only
  refine wpAny_storeSet_of ho hd ?_ (by rw [hs2, hsl, sizeLine_eq]; omega)
  have sb : Heap.SameBut a s.heap (s.heap.update a (Obj.putSet (order.filterMap (es[·]?)) t')) := Heap.SameBut.update ..
  refine hQ _ L2 (order.filterMap (es[·]?)) (ep + 1) t' sb ?_ r2
  refine ⟨⟨_, store_at ho hd, ⟨hex.1, hex.2.1, hex.2.2⟩, rfl⟩, r1, T, ?_, fun p hpm => ntK_same (tup p (r2.mem_iff.mp hpm)) ho hd sb, by rw [ep']; exact pl, by rw [el]; exact ld, ?_, by rw [r2.length_eq]; exact few⟩
  · exact (r2.map (·.2)).nodup_iff.mpr nd
  · rw [r2.length_eq, em]
    exact hn

/-- ADDING -/
theorem nadd_at (R : SetNR w s.heap a L es ep t) {x : Addr} {k : NestedKey} (hx : NtK s.heap k x) (hu : A.units + 8 < cLine) (hfew : L.length + 1 < 64) {Q : Bool → Shared → Prop}
    (hQ : ∀ b h' L' es' ep' t', Heap.SameBut a s.heap h' → SetNR w h' a L' es' ep' t' → (k ∈ L.map (·.2) → L' = L) → (k ∉ L.map (·.2) → L'.Perm ((x, k) :: L)) → Q b { s with heap := h' }) :
    wpAny (model P w) A (setAddHashed a (.ref x) (nkh w k)) Q E s := by
  obtain ⟨o, ho, hex, hd⟩ := R.ob
  have hsl := R.size
  have hroom := R.room
  unfold setAddHashed
  refine wpAny_holding ?_
  rw [show (100000 : Nat) = 99999 + 1 from rfl, setAddHashedIn_succ]
  refine wpAny_bind (wpAny_setState_of ho hd R.fits ?_)
  dsimp only
  refine wp_if_neg (by simp [byScan, Value.scannable]) ?_
  try refine wpAny_bind (wpAny_pure ?_)
  refine wpAny_bind (nsearch_at R hx hu (fun hm => ?_) fun K hm hK hb => ?_)
  · dsimp only
    exact wpAny_pure (hQ false s.heap L es ep t (Heap.SameBut.refl a s.heap) R (fun _ => rfl) fun z => absurd hm z)
  · dsimp only
    refine wpAny_bind (wpAny_setState_of ho hd R.fits ?_)
    dsimp only
    obtain ⟨q1, q2, q3, q4, q5, q6, q7, q8, q9⟩ := R.tab.put hK hb
    have hp1 : (t.put (way t.mask (nkh w k) K)).1.plain = true := by rw [q6]; exact R.plain
    generalize hpt : t.put (way t.mask (nkh w k) K) = pt at q1 q3 q4 q5 q6 q7 q8 q9 hp1 ⊢
    obtain ⟨t1, p⟩ := pt
    dsimp only at q1 q3 q4 q5 q6 q7 q8 q9 hp1 ⊢
    subst q1
    first
      | (refine wpAny_bind ?_; refine wp_if_pos hp1 ?_; refine byV_key _ _ 8 hx.isK hx.dep hx.bare _ _ _ ?_)
      | refine wp_if_pos hp1 (wpAny_bind (byV_key _ _ 8 hx.isK hx.dep hx.bare _ _ _ ?_))
    simp only [if_true]
    have hin : (SetTable.insertAt es (SetTable.below t.place (way t.mask (nkh w k) K)) (nkh w k, Value.ref x)).toList = rowsN w (L.take (SetTable.below t.place (way t.mask (nkh w k) K)) ++ (x, k) :: L.drop (SetTable.below t.place (way t.mask (nkh w k) K))) := by
      rw [SetTable.toList_insertAt, rowsN_put, R.rows]
    generalize hpp : SetTable.below t.place (way t.mask (nkh w k) K) = p at q2 q3 hin ⊢
    have pm := nput_perm L p (x, k)
    have hlen : (L.take p ++ (x, k) :: L.drop p).length = L.length + 1 := pm.length_eq
    have hhs : (L.take p ++ (x, k) :: L.drop p).map (fun p => nkh w p.2) = (L.map fun p => nkh w p.2).take p ++ nkh w k :: (L.map fun p => nkh w p.2).drop p := by
      rw [List.map_append, List.map_cons, List.map_take, List.map_drop]
    rw [← hhs] at q3
    have nd1 : ((L.take p ++ (x, k) :: L.drop p).map (·.2)).Nodup := by
      refine (pm.map (·.2)).nodup_iff.mpr ?_
      rw [List.map_cons]
      exact List.nodup_cons.mpr ⟨hm, R.nd⟩
    have hes : (SetTable.insertAt es p (nkh w k, Value.ref x)).size = L.length + 1 := by
      have h := congrArg List.length hin
      unfold rowsN at h
      rw [Array.length_toList, List.length_map, hlen] at h
      exact h
    generalize SetTable.insertAt es p (nkh w k, Value.ref x) = es1 at hin hes ⊢
    generalize L.take p ++ (x, k) :: L.drop p = L1 at pm hlen q3 nd1 hin
    refine wpAny_bind (wpAny_storeSet_of ho hd ?_ (by rw [hes, sizeLine_eq]; omega))
    have sb : Heap.SameBut a s.heap (s.heap.update a (Obj.putSet es1 t1)) := Heap.SameBut.update ..
    have ho1 := store_at (es' := es1) (t' := t1) ho hd
    generalize s.heap.update a (Obj.putSet es1 t1) = h1 at sb ho1 ⊢
    have tup1 : ∀ p ∈ L1, NtK h1 p.2 p.1 := fun p hp => by
      rcases List.mem_cons.mp (pm.mem_iff.mp hp) with e | hp
      · rw [e]; exact ntK_same hx ho hd sb
      · exact ntK_same (R.tup p hp) ho hd sb
    have ld1 : w.params.followText "set-order" = true ∨ t1.led = true := by rw [q5]; exact R.led
    by_cases hf : t1.tooFull = true
    · first
        | (refine wpAny_bind ?_; refine wp_if_pos (by simp [hf]) ?_)
        | (refine wp_if_pos (by simp [hf]) ?_; refine wpAny_bind ?_)
      have hfull : (L.length + 1) * 5 ≥ t1.mask * 3 := by
        have h := hf
        unfold SetTable.tooFull at h
        rw [decide_eq_true_eq, q9, List.length_map] at h
        exact h
      rw [hsl]
      have hsz1 : t1.place.size = es1.size := by
        have h := q3.sz
        rw [List.length_map, hlen] at h
        rw [h, hes]
      have cases2 : (t.mask = 7 ∧ L.length = 4) ∨ (t.mask = 31 ∧ L.length = 18) := by
        rcases R.tab.mok with e | e | e
        · left; rw [q4, e] at hfull; rw [e] at hroom; exact ⟨e, by omega⟩
        · right; rw [q4, e] at hfull; rw [e] at hroom; exact ⟨e, by omega⟩
        · exfalso; rw [q4, e] at hfull; omega
      have go : ∀ M, SetTable.sizeAbove (SetTable.grown (L.length + 1)) - 1 = M → MaskOk M → SetTable.sizeAbove (SetTable.grown (L.length + 1)) ≤ 128 → (L.length + 1) * 5 < M * 3 →
          wpAny (model P w) A (setRelay a (SetTable.grown (L.length + 1))) (fun _ s' => wpAny (model P w) A (pure true) Q E s') E { s with heap := h1 } := fun M h1' h2' h3' h4' => by
        refine nrelay_at (s := { s with heap := h1 }) ho1 ⟨hex.1, hex.2.1, hex.2.2⟩ rfl hin hsz1 q3.dm (by rw [hes, q4]; rcases cases2 with ⟨e, e2⟩ | ⟨e, e2⟩ <;> omega) nd1 tup1 hp1 ld1 (by rw [hlen]; exact hfew) h1' h2' h3' (by rw [hlen]; exact h4') ?_
        intro h2 L2 es2 ep2 t2 sb2 R2 pm2
        refine wpAny_pure (hQ true h2 L2 es2 ep2 t2 (sb.trans sb2) R2 (fun z => absurd z hm) fun _ => pm2.trans pm)
      rcases cases2 with ⟨_, e2⟩ | ⟨_, e2⟩
      · refine go 31 (by rw [e2, size_20]) (.inr (.inl rfl)) (by rw [e2, size_20]; decide) (by omega)
      · refine go 127 (by rw [e2, size_76]) (.inr (.inr rfl)) (by rw [e2, size_76]; decide) (by omega)
    · first
        | refine wp_if_neg (by simp [hf]) ?_
        | (refine wpAny_bind ?_; refine wp_if_neg (by simp [hf]) ?_; refine wpAny_pure ?_)
      refine wpAny_pure (hQ true h1 L1 es1 (ep + 1) t1 sb ⟨⟨_, ho1, ⟨hex.1, hex.2.1, hex.2.2⟩, rfl⟩, hin, q3, nd1, tup1, hp1, ld1, ?_, by rw [hlen]; exact hfew⟩ (fun z => absurd z hm) fun _ => pm)
      have h := hf
      unfold SetTable.tooFull at h
      rw [decide_eq_true_eq, q9, List.length_map] at h
      rw [hlen]
      omega
/-- what the set has got from the first i items -/
structure GotN (ks : List KA) (i : Nat) (L : List KA) : Prop where
  sub : ∀ p ∈ L, p ∈ ks.take i
  all : ∀ p ∈ ks.take i, p.2 ∈ L.map (·.2)
  len : L.length ≤ i
/-- the set stays small -/
def FewN (ks : List KA) : Prop := ∀ (i : Nat) (L : List KA), i < ks.length → GotN ks i L → (L.map (·.2)).Nodup → L.length + 1 < 64
theorem FewN.of {ks : List KA} (h : ks.length < 64) : FewN ks := fun i L hi g _ => by have := g.len; omega
theorem GotN.zero (ks : List KA) : GotN ks 0 [] := ⟨fun p h => (by cases h), fun p h => (by simp at h), Nat.le_refl _⟩
theorem ntake_next {α : Type} {l : List α} {i : Nat} {x : α} (h : l[i]? = some x) : l.take (i + 1) = l.take i ++ [x] := by
  rw [List.take_succ, h] <;> rfl
theorem GotN.same {ks L : List KA} {i : Nat} {x : KA} (g : GotN ks i L) (h : ks[i]? = some x) (hm : x.2 ∈ L.map (·.2)) : GotN ks (i + 1) L := by
  refine ⟨fun p hp => ?_, fun p hp => ?_, Nat.le_succ_of_le g.len⟩
  · rw [ntake_next h]
    exact List.mem_append_left _ (g.sub p hp)
  · rw [ntake_next h] at hp
    rcases List.mem_append.mp hp with z | z
    · exact g.all p z
    · rw [List.mem_singleton.mp z]; exact hm
theorem GotN.more {ks L L' : List KA} {i : Nat} {x : KA} (g : GotN ks i L) (h : ks[i]? = some x) (pm : L'.Perm (x :: L)) : GotN ks (i + 1) L' := by
  refine ⟨fun p hp => ?_, fun p hp => ?_, ?_⟩
  · rw [ntake_next h]
    rcases List.mem_cons.mp (pm.mem_iff.mp hp) with e | z
    · rw [e]; exact List.mem_append_right _ (List.mem_singleton.mpr rfl)
    · exact List.mem_append_left _ (g.sub p z)
  · rw [(pm.map (·.2)).mem_iff, List.map_cons]
    rw [ntake_next h] at hp
    rcases List.mem_append.mp hp with z | z
    · exact List.mem_cons_of_mem _ (g.all p z)
    · rw [List.mem_singleton.mp z]; exact List.mem_cons_self
  · rw [pm.length_eq, List.length_cons]
    exact Nat.succ_le_succ g.len

theorem ntK_keep {h h' : Heap} {k : NestedKey} {b : Addr} (x : NtK h k b) (hk : ∀ c o, h.get? c = some o → h'.get? c = some o) : NtK h' k b := ⟨NkR.at_ (fun c o _ _ e _ => hk c o e) x.rel, x.dep, x.bare⟩
theorem SetNR.keep {h h' : Heap} {a : Addr} {L : List KA} {es : Array (Int × Value)} {ep : Nat} {t : SetTable} (R : SetNR w h a L es ep t) (ha : ∀ o, h.get? a = some o → h'.get? a = some o) (ht : ∀ p ∈ L, NtK h' p.2 p.1) : SetNR w h' a L es ep t := by
  obtain ⟨o, ho, r⟩ := R.ob
  exact ⟨⟨o, ha o ho, r⟩, R.rows, R.tab, R.nd, ht, R.plain, R.led, R.room, R.few⟩
/-- a new set -/
theorem setNR_fresh {h : Heap} {a : Addr} (ho : h.get? a = some (set0 w)) : SetNR w h a [] #[] 0 (.fresh 0 0 (!w.params.followText "set-order")) where
  ob := ⟨_, ho, ⟨rfl, rfl, rfl⟩, rfl⟩
  rows := rfl
  tab := ⟨List.Pairwise.nil, rfl, rfl, .inl rfl, fun x hx => (by cases hx), fun i h j hi => (by simp at hi)⟩
  nd := List.nodup_nil
  tup := fun p hp => (by cases hp)
  plain := rfl
  led := by
    show _ ∨ (!w.params.followText "set-order") = true
    cases w.params.followText "set-order"
    · exact .inr rfl
    · exact .inl rfl
  room := by
    show 0 * 5 < 7 * 3
    decide
  few := by
    show 0 < 64
    decide

/-- set.update's loop -/
theorem set_update_nt {I : Addr} {fp wr : List Addr} {G : Array GenState → Array GenState → Prop} {n : Nat} {Pv : Nat → Value → Prop} {St : Nat → Shared → Prop} {R : Result → Shared → Prop}
    (W : WalksS P w A.in1 I fp wr G n Pv St) (S : Addr) (hSf : S ∉ fp) (ks : List KA) (hn : n = ks.length) (hfew : FewN ks) (hval : ∀ i v, Pv i v → ∃ p, ks[i]? = some p ∧ v = .ref p.1)
    (h0 : Heap) (hk : ∀ p ∈ ks, NtK h0 p.2 p.1) (hS0 : h0.get? S = none) (hw0 : ∀ b ∈ wr, h0.get? b = none) (hu : A.in1.units + 8 < cLine) :
    ∀ (k i : Nat) (s : Shared), n - i = k → i ≤ n → St i s → (∀ b o, h0.get? b = some o → s.heap.get? b = some o) → (∃ L es ep t, SetNR w s.heap S L es ep t ∧ GotN ks i L) →
      (∀ s' L es ep t, Moved (S :: wr) G s s' → SetNR w s'.heap S L es ep t → GotN ks n L → (∀ b o, h0.get? b = some o → s'.heap.get? b = some o) → R (.ok (.ret .none)) s') →
      codeAny (model P w) A (.builtin "set.update.loop" ⟨[.ref S, .ref I], []⟩) R s := by
  have hSw : S ∉ wr := fun h => hSf (W.sub _ h)
  have hsub : ∀ b ∈ wr, b ∈ S :: wr := fun b hb => List.mem_cons_of_mem _ hb
  have keepM : ∀ {s s' : Shared}, Moved wr G s s' → (∀ b o, h0.get? b = some o → s.heap.get? b = some o) → ∀ b o, h0.get? b = some o → s'.heap.get? b = some o := fun hm hkp b o e =>
    hm.heap b o (fun hb => by rw [hw0 b hb] at e; cases e) (hkp b o e)
  intro k
  induction k with
  | zero =>
    intro i s hk' hi hst hkp ⟨L, es, ep, t, hS, g⟩ hR
    have hin : i = n := by omega
    subst hin
    refine codeAny_builtin F.entry_set_update_loop ?_
    rw [Around.under_plainId F.plain_set_update_loop _]
    show wpAny _ A.in1 (pyNext (.ref I) >>= _) _ _ s
    refine wpAny_bind (W.done s _ _ hst fun s' hm => ?_)
    show wpAny _ A.in1 (ret Value.none) _ _ s'
    have hkp' := keepM hm hkp
    have sub : ∀ p ∈ L, p ∈ ks := fun p hp => List.mem_of_mem_take (g.sub p hp)
    exact wpAny_pure (hR s' L es ep t (hm.mono hsub) (hS.keep (fun o e => hm.heap S o hSw e) fun p hp => ntK_keep (hk p (sub p hp)) hkp') g hkp')
  | succ k ih =>
    intro i s hk' hi hst hkp ⟨L, es, ep, t, hS, g⟩ hR
    have hlt : i < n := by omega
    refine codeAny_builtin F.entry_set_update_loop ?_
    rw [Around.under_plainId F.plain_set_update_loop _]
    show wpAny _ A.in1 (pyNext (.ref I) >>= _) _ _ s
    refine wpAny_bind (W.item i s _ _ hlt hst fun v s' hP hst' hm => ?_)
    obtain ⟨p, hp, rfl⟩ := hval i v hP
    have hkp' := keepM hm hkp
    have sub : ∀ p ∈ L, p ∈ ks := fun p hp => List.mem_of_mem_take (g.sub p hp)
    have hS' : SetNR w s'.heap S L es ep t := hS.keep (fun o e => hm.heap S o hSw e) fun q hq => ntK_keep (hk q (sub q hq)) hkp'
    have hx : NtK s'.heap p.2 p.1 := ntK_keep (hk p (List.mem_of_getElem? hp)) hkp'
    show wpAny _ A.in1 (holding [Value.ref p.1] (setAdd S (.ref p.1)) >>= _) _ _ s'
    refine wpAny_bind (wpAny_holding ?_)
    unfold setAdd
    refine wpAny_holding ?_
    refine wpAny_bind (ntK_hash hu hx ?_)
    refine nadd_at (s := { s' with toks := s'.toks + (p.2.draws) }) hS' hx hu (hfew i L (by omega) g hS.nd) fun b h' L' es' ep' t' hsb hS2 c1 c2 => ?_
    have g' : GotN ks (i + 1) L' := by
      rcases Classical.em (p.2 ∈ L.map (·.2)) with c | c
      · rw [c1 c]; exact g.same hp c
      · exact g.more hp (c2 c)
    have hkp2 : ∀ b o, h0.get? b = some o → h'.get? b = some o := fun b o e => (hsb.2 b (fun z => by rw [z, hS0] at e; cases e)).trans (hkp' b o e)
    refine wpAny_pure ⟨plainId_quiet F.plain_set_update_loop _, ih (i + 1) _ (by omega) hlt (W.frame _ s' _ _ hst' (Nat.le_add_right _ _) fun b hb o e => ?_) hkp2 ⟨L', es', ep', t', hS2, g'⟩ fun s'' L2 es2 ep2 t2 hm'' hS'' g'' hkp'' => ?_⟩
    · rw [hsb.2 b (fun h : b = S => hSf (by rw [← h]; exact hb))]; exact e
    · refine hR s'' L2 es2 ep2 t2 (Moved.trans W.gtrans ((hm.mono hsub).then_heap (Nat.le_add_right _ _) fun b o hb e => ?_) hm'') hS'' g'' hkp''
      rw [hsb.2 b (fun h : b = S => hb (by rw [h]; exact List.mem_cons_self))]; exact e

set_option maxRecDepth 100000 in
set_option maxHeartbeats 3200000 in
/-- set(xs) -/
theorem call_set_nt {l : Addr} {items : Array Value} (ks : List KA) {Q : Value → Shared → Prop} (hh : A.handled = none) (hl : s.heap.IsList l items) (hit : items.toList = ks.map fun p => Value.ref p.1)
    (hk : ∀ p ∈ ks, NtK s.heap p.2 p.1) (hfew : FewN ks) (hu : A.units + 16 < cLine)
    (h : ∀ (h' : Heap) (tk : Nat) L es ep t, SetNR w h' s.heap.objs.size L es ep t → GotN ks ks.length L → (∀ b o, s.heap.get? b = some o → h'.get? b = some o) → Q (.ref s.heap.objs.size) { s with heap := h', toks := tk }) :
    wpAny (model P w) A (call (.type "set") [.ref l]) Q E s := by
  have hisz : items.size = ks.length := by
    have q := congrArg List.length hit
    rw [Array.length_toList, List.length_map] at q
    exact q
  obtain ⟨c, tl, hmro⟩ := F.called_set.mro
  have hmade := F.called_set.made
  have hsub := F.called_set.sub
  refine wpAny_call (codeAny_of_tree ?_)
  show wpAny _ _ (callAny (.type "set") _) _ _ _
  refine wpAny_pure ⟨Code.quiet_builtin _ (by decide +kernel), codeAny_builtin F.entry_type_call ?_⟩
  rw [Around.under_plain (weight_type_call_type "set" [.ref l] []) rfl]
  have h1 := F.called_set.notType
  have h2 := F.called_set.canCreate
  have hct := F.typeCall_set_1 (.ref l)
  repeat (any_goals (first | assumption | wp_step))

  refine codeAny_mono (code_set_led1 (.ref l) (E := E) (Q₁ := fun obj s₁ => obj = .ref s.heap.objs.size ∧ s₁ = { s with heap := s.heap.push (set0 w) }) ⟨rfl, rfl⟩) fun r s₁ hr => ?_
  cases r with
  | error e => exact hr
  | ok fl =>
    cases fl with
    | ret obj =>
      obtain ⟨rfl, rfl⟩ := hr
      have hS : (s.heap.push (set0 w)).get? s.heap.objs.size = some (set0 w) := Heap.get?_push_size _ rfl
      have hT : Shared.TypeIs { s with heap := s.heap.push (set0 w) } (.ref s.heap.objs.size) "set" := ⟨_, hS, rfl⟩
      have hli := F.called_set.init.lookup
      have hbi := F.called_set.init.bind (.ref s.heap.objs.size)
      repeat (any_goals (first | assumption | wp_step))

      refine codeAny_mono (codeAny_call_builtin (R := wants (fun r s₂ => r = .none ∧ ∃ h' tk L es ep t, s₂ = { s with heap := h', toks := tk } ∧ SetNR w h' s.heap.objs.size L es ep t ∧ GotN ks ks.length L ∧
          (∀ b o, s.heap.get? b = some o → h'.get? b = some o)) E) F.called_set.init.plain F.entry_set_init (check_set_init_1 hT ?_)) fun r₂ s₂ hr₂ => ?_
      · obtain ⟨ol, hol, hcl, nl, hdl⟩ := hl
        obtain ⟨ocls, odict, odata, oslots⟩ := ol
        simp only at hcl hdl
        subst hcl; subst hdl
        have hol' : (s.heap.push (set0 w)).get? l = some { cls := .type "list", dict := odict, data := .seq items nl, slots := oslots } := Heap.get?_push_of_some _ hol
        have hsls := F.sub_list_set
        have hslf := F.sub_list_frozenset
        have hne : (Value.type "list" == Value.type "dict") = false := by decide
        have hl1 : (s.heap.push (set0 w)).IsList l items := ⟨_, hol', rfl, nl, rfl⟩
        unfold Builtin.«set.__init__» noKeywords Builtin.Frozenset.updateFrom
        generalize hPI : pyIter = PI
        wp_walk
        subst hPI

        refine wpAny_pyIter_list hl1 ?_
        refine wpAny_bind (wpAny_runValue ?_)
        have hlS : l < s.heap.objs.size := Heap.lt_size hol
        have hh3 : A.in1.in1.in1.handled = none := by simp [hh]
        have hz1 : (s.heap.push (set0 w)).objs.size = s.heap.objs.size + 1 := Heap.size_push ..
        have hneI : l ≠ (s.heap.push (set0 w)).objs.size := by
          rw [Heap.size_push]; exact Nat.ne_of_lt (Nat.lt_succ_of_lt hlS)
        have hSf : s.heap.objs.size ∉ [(s.heap.push (set0 w)).objs.size, l] := by
          rw [Heap.size_push]; simp only [List.mem_cons, List.mem_singleton, List.not_mem_nil, or_false, not_or]
          exact ⟨Nat.ne_of_lt (Nat.lt_succ_self _), Nat.ne_of_gt hlS⟩
        have hval : ∀ (i : Nat) (v : Value), items[i]? = some v → ∃ p, ks[i]? = some p ∧ v = .ref p.1 := fun i v hv => by
          have q : items.toList[i]? = some v := by rw [Array.getElem?_toList]; exact hv
          rw [hit, List.getElem?_map] at q
          cases hq : ks[i]? with
          | none => rw [hq] at q; cases q
          | some p =>
            rw [hq] at q
            exact ⟨p, rfl, (Option.some.inj q).symm⟩
        have none_of : ∀ b, s.heap.objs.size ≤ b → s.heap.get? b = none := fun b hb => by
          cases q : s.heap.get? b with
          | none => rfl
          | some o => exact absurd (Nat.lt_of_lt_of_le (Heap.lt_size q) hb) (Nat.lt_irrefl _)
        refine set_update_nt ((Walks.list hh3 _ l hneI items).toS) s.heap.objs.size
          hSf ks hisz hfew hval s.heap hk (none_of _ (Nat.le_refl _)) (fun b hb => none_of b (by
            rw [List.mem_singleton.mp hb, Heap.size_push]
            exact Nat.le_succ _)) (show A.units + 3 + 8 < cLine by omega) (items.size - 0) 0 _ (by omega) (Nat.zero_le _)
          ⟨⟨_, Heap.get?_push_size _ rfl, rfl, rfl⟩, (hl1.push _)⟩ (fun b o e => Heap.get?_push_of_some _ (Heap.get?_push_of_some _ e)) ?hS0 ?hR
        case hS0 =>
          have hget : ((s.heap.push (set0 w)).push { cls := .type "list_iterator", data := .fields #[.ref l, .int 0 0] }).get? s.heap.objs.size
              = some (set0 w) := Heap.get?_push_of_some _ hS
          exact ⟨[], #[], 0, _, setNR_fresh hget, GotN.zero ks⟩
        case hR =>
          intro s' L es ep t hm hS' g' hkp
          obtain ⟨h', g2, d', tk', os'⟩ := s'
          have eg : g2 = s.gens := hm.gens
          have ed : d' = s.drawn := hm.drawn
          have eo : os' = s.os := hm.os
          subst eg; subst ed; subst eo
          show wpAny _ _ _ _ _ _
          refine wpAny_pure ?_
          show wpAny _ _ (ret Value.none) _ _ _
          rw [hisz] at g'
          exact wpAny_pure ⟨rfl, h', tk', L, es, ep, t, rfl, hS', g', hkp⟩

      · cases r₂ with
        | error e => exact hr₂
        | ok fl₂ =>
          cases fl₂ with
          | ret r =>
            obtain ⟨rfl, h', tk, L, es, ep, t, rfl, hS', g', hk'⟩ := hr₂
            repeat (any_goals (first | assumption | wp_step))
            exact h _ _ _ _ _ _ hS' g' hk'
          | _ => exact hr₂.elim
    | _ => exact hr.elim
set_option maxRecDepth 100000 in
set_option maxHeartbeats 3200000 in
theorem call_set_lstI {l : Addr} {items : Array Value} (ns : List Int) {Q : Value → Shared → Prop} (hh : A.handled = none) (hl : s.heap.IsList l items) (hit : IntsAre items.toList ns) (hb : ns.length + 1 < scanBound)
    (h : ∀ (h' : Heap) (tk c : Nat), SetR w h' s.heap.objs.size (fun j => decide (j ∈ ns)) c → c ≤ ns.length → (∀ b o, s.heap.get? b = some o → h'.get? b = some o) → Q (.ref s.heap.objs.size) { s with heap := h', toks := tk }) :
    wpAny (model P w) A (call (.type "set") [.ref l]) Q E s := by
  have hisz : items.size = ns.length := by
    have q := IntsAre.length hit
    rw [Array.length_toList] at q
    exact q
  obtain ⟨c, tl, hmro⟩ := F.called_set.mro
  have hmade := F.called_set.made
  have hsub := F.called_set.sub
  refine wpAny_call (codeAny_of_tree ?_)
  show wpAny _ _ (callAny (.type "set") _) _ _ _
  refine wpAny_pure ⟨Code.quiet_builtin _ (by decide +kernel), codeAny_builtin F.entry_type_call ?_⟩
  rw [Around.under_plain (weight_type_call_type "set" [.ref l] []) rfl]
  have h1 := F.called_set.notType
  have h2 := F.called_set.canCreate
  have hct := F.typeCall_set_1 (.ref l)
  repeat (any_goals (first | assumption | wp_step))

  refine codeAny_mono (code_set_led1 (.ref l) (E := E) (Q₁ := fun obj s₁ => obj = .ref s.heap.objs.size ∧ s₁ = { s with heap := s.heap.push (set0 w) }) ⟨rfl, rfl⟩) fun r s₁ hr => ?_
  cases r with
  | error e => exact hr
  | ok fl =>
    cases fl with
    | ret obj =>
      obtain ⟨rfl, rfl⟩ := hr
      have hS : (s.heap.push (set0 w)).get? s.heap.objs.size = some (set0 w) := Heap.get?_push_size _ rfl
      have hT : Shared.TypeIs { s with heap := s.heap.push (set0 w) } (.ref s.heap.objs.size) "set" := ⟨_, hS, rfl⟩
      have hli := F.called_set.init.lookup
      have hbi := F.called_set.init.bind (.ref s.heap.objs.size)
      repeat (any_goals (first | assumption | wp_step))

      refine codeAny_mono (codeAny_call_builtin (R := wants (fun r s₂ => r = .none ∧ ∃ h' tk c, s₂ = { s with heap := h', toks := tk } ∧ SetR w h' s.heap.objs.size (fun j => decide (j ∈ ns)) c ∧ c ≤ ns.length ∧
          (∀ b o, s.heap.get? b = some o → h'.get? b = some o)) E) F.called_set.init.plain F.entry_set_init (check_set_init_1 hT ?_)) fun r₂ s₂ hr₂ => ?_
      · obtain ⟨ol, hol, hcl, nl, hdl⟩ := hl
        obtain ⟨ocls, odict, odata, oslots⟩ := ol
        simp only at hcl hdl
        subst hcl; subst hdl
        have hol' : (s.heap.push (set0 w)).get? l = some { cls := .type "list", dict := odict, data := .seq items nl, slots := oslots } := Heap.get?_push_of_some _ hol
        have hsls := F.sub_list_set
        have hslf := F.sub_list_frozenset
        have hne : (Value.type "list" == Value.type "dict") = false := by decide
        have hl1 : (s.heap.push (set0 w)).IsList l items := ⟨_, hol', rfl, nl, rfl⟩
        unfold Builtin.«set.__init__» noKeywords Builtin.Frozenset.updateFrom
        generalize hPI : pyIter = PI
        wp_walk
        subst hPI

        refine wpAny_pyIter_list hl1 ?_
        refine wpAny_bind (wpAny_runValue ?_)
        have hlS : l < s.heap.objs.size := Heap.lt_size hol
        have hh3 : A.in1.in1.in1.handled = none := by simp [hh]
        have hz1 : (s.heap.push (set0 w)).objs.size = s.heap.objs.size + 1 := Heap.size_push ..
        have hneI : l ≠ (s.heap.push (set0 w)).objs.size := by
          rw [Heap.size_push]; exact Nat.ne_of_lt (Nat.lt_succ_of_lt hlS)
        have hSf : s.heap.objs.size ∉ [(s.heap.push (set0 w)).objs.size, l] := by
          rw [Heap.size_push]; simp only [List.mem_cons, List.mem_singleton, List.not_mem_nil, or_false, not_or]
          exact ⟨Nat.ne_of_lt (Nat.lt_succ_self _), Nat.ne_of_gt hlS⟩
        have hval : ∀ (i : Nat) (v : Value), items[i]? = some v → ∃ k t, ns[i]? = some k ∧ v = .int k t := fun i v hv => by
          have hi : i < ns.length := by rw [← hisz]; exact (Array.getElem?_eq_some_iff.mp hv).1
          obtain ⟨t, e⟩ := PyProof.Rows.IntsAre.int_at hit i v (by rw [Array.getElem?_toList]; exact hv)
          refine ⟨ns[i], t, List.getElem?_eq_getElem hi, ?_⟩
          rw [e, List.getD_eq_getElem?_getD, List.getElem?_eq_getElem hi] <;> rfl
        refine set_update_ints ((Walks.list hh3 _ l hneI items).toS) s.heap.objs.size
          hSf ns hisz hb hval (items.size - 0) 0 _ (by omega) (Nat.zero_le _)
          ⟨⟨_, Heap.get?_push_size _ rfl, rfl, rfl⟩, (hl1.push _)⟩ ?hS0 ?hR
        case hS0 =>
          have hget : ((s.heap.push (set0 w)).push { cls := .type "list_iterator", data := .fields #[.ref l, .int 0 0] }).get? s.heap.objs.size
              = some (set0 w) := Heap.get?_push_of_some _ hS
          exact ⟨0, Nat.le_refl 0, setR_new_at hget⟩
        case hR =>
          intro s' c' hm hc' hS'
          obtain ⟨h', g2, d', tk', os'⟩ := s'
          have eg : g2 = s.gens := hm.gens
          have ed : d' = s.drawn := hm.drawn
          have eo : os' = s.os := hm.os
          subst eg; subst ed; subst eo
          show wpAny _ _ _ _ _ _
          refine wpAny_pure ?_
          show wpAny _ _ (ret Value.none) _ _ _
          rw [hisz] at hc'
          refine wpAny_pure ⟨rfl, h', tk', c', rfl, hS', hc', fun b o e => ?_⟩
          have hb0 : b < s.heap.objs.size := Heap.lt_size e
          have hb1 : b ≠ s.heap.objs.size := Nat.ne_of_lt hb0
          have hb2 : b ≠ (s.heap.push (set0 w)).objs.size := by
            rw [Heap.size_push]; exact Nat.ne_of_lt (Nat.lt_succ_of_lt hb0)
          exact hm.heap b o (by simp only [List.mem_cons, List.mem_singleton, List.not_mem_nil, or_false, not_or]; exact ⟨hb1, hb2⟩) (Heap.get?_push_of_some _ (Heap.get?_push_of_some _ e))

      · cases r₂ with
        | error e => exact hr₂
        | ok fl₂ =>
          cases fl₂ with
          | ret r =>
            obtain ⟨rfl, h', tk, c', rfl, hS', hc', hk'⟩ := hr₂
            repeat (any_goals (first | assumption | wp_step))
            exact h _ _ _ hS' hc' hk'
          | _ => exact hr₂.elim
    | _ => exact hr.elim

end
end SW
/-! The layer: data as trees, a store of objects that change, defs as functions over both. -/
namespace SW
open PySem L2

/-- data: what never changes is a tree, what changes is a place of the store -/
inductive D where
  | non
  | bl (b : Bool)
  | int (i : Int)
  | str (x : Str)
  | tup (ds : List D)
  | fl (ds : List D)
  | loc (n : Nat)
  | ty (n : String)
  /-- a tuple made by tuple(xs), its object known -/
  | tn (ds : List D)
deriving Inhabited
/-- what stands at a place of the store -/
inductive MO where
  | lst (ds : List D)
  | dK (kvs : List (Key × D))
  | dT (kvs : List (List Key × D))
  /-- keys are tuples of any depth -/
  | dN (kvs : List (NestedKey × D))
  /-- locked dicts (a loop walks them) -/
  | lK (kvs : List (Key × D))
  | lT (kvs : List (List Key × D))
  | lN (kvs : List (NestedKey × D))
  /-- an instance of the class of that name -/
  | ins (c : String) (fs : List (Str × D))
  /-- an exception of the class of that name, caught and held; what it has of its own -/
  | exn (c : String) (fs : List (Str × D))
abbrev Sto := List MO
abbrev Tau := List (Option D)

/-! keys of any depth, without texts -/
mutual
def plainK : NestedKey → Bool
  | .none => true
  | .num _ => true
  | .text _ => false
  | .tup ks => plainKs ks
def plainKs : List NestedKey → Bool
  | [] => true
  | k :: ks => plainK k && plainKs ks
end
mutual
def NkV (H : Hp) : NestedKey → V → Prop
  | .none, v => v = .non
  | .num i, v => v = .int i
  | .text x, v => v = .str x
  | .tup ks, v => ∃ a xs, v = .ref a ∧ H a = some (.tup xs) ∧ NkVs H ks xs
def NkVs (H : Hp) : List NestedKey → List V → Prop
  | [], xs => xs = []
  | k :: ks, xs => ∃ y ys, xs = y :: ys ∧ NkV H k y ∧ NkVs H ks ys
end
abbrev NEnt := NestedKey × Addr × V
def entOk (p : NEnt) (q : NestedKey × Addr × Value) : Prop := p.1 = q.1 ∧ p.2.1 = q.2.1 ∧ RelV p.2.2 q.2.2
/-- a dict with such keys: its entries, where each key stands -/
def dNP (a : Addr) (xs : List NEnt) (h : Heap) : Prop := xs.length ≤ sizeLine ∧ (a == sysModules) = false ∧ ∃ ys : List (NestedKey × Addr × Value), Paired entOk xs ys ∧ (ys.map (·.1)).Nodup ∧
  ∃ o es ep, h.get? a = some o ∧ o.ExactDict ∧ o.data = .dict es ep ∧ ∀ w : World, es.toList = ys.map fun y => (⟨y.1.hash w, .ref y.2.1, y.2.2⟩ : DictEntry)
def dNO (a : Addr) (xs : List NEnt) : HO := .ext (dNP a xs)
def NOk (H : Hp) (x : NEnt) : Prop := NkV H x.1 (.ref x.2.1) ∧ x.1.depth ≤ 8 ∧ plainK x.1 = true
/-- what no def of the layer changes, known to its object -/
def fzo : HO → Bool
  | .lst _ => true
  | .tup _ => true
  | .xd _ => true
  | _ => false
/-- an exception -/
def exHO (a C : Addr) (dO : Option Addr) : HO := .ext fun h => ∃ o, h.get? a = some o ∧ o.cls = .ref C ∧ o.dict = dO ∧ ∃ vs, o.data = .fields vs
/-- what stands at the store's places -/
def RO : Option HO → Prop
  | some (.lst _) => True
  | some (.dK _) => True
  | some (.dT _) => True
  | some (.ext _) => True
  | some (.ins _ _ _) => True
  | some (.frz _ u) => fzo u = false
  | _ => False

section
variable (K : PySem.W.Frag)
/-- a list that nobody writes at -/
def FzL (H : Hp) (a : Addr) (xs : List V) : Prop :=
  (∃ o, H a = some (.frz o (.lst xs))) ∨
    ∃ (o : Obj) (its : Array Value) (n : Nat), K.lookup a = some o ∧ o.cls = .type "list" ∧ o.dict = none ∧ o.data = .seq its n ∧ its.size ≤ sizeLine ∧ Vals xs its.toList
mutual
def RelD (ρ : List Addr) (H : Hp) : D → V → Prop
  | .non, v => v = .non
  | .bl b, v => v = .bl b
  | .int i, v => v = .int i
  | .str x, v => v = .str x
  | .tup ds, v => ∃ a xs, v = .ref a ∧ H a = some (.tup xs) ∧ RelDs ρ H ds xs
  | .fl ds, v => ∃ a xs, v = .ref a ∧ FzL K H a xs ∧ RelDs ρ H ds xs
  | .loc n, v => ∃ a, ρ[n]? = some a ∧ v = .ref a
  | .ty n, v => v = .ty n
  | .tn ds, v => ∃ a o xs, v = .ref a ∧ H a = some (.frz o (.tup xs)) ∧ o.cls = .type "tuple" ∧ o.dict = none ∧ RelDs ρ H ds xs
def RelDs (ρ : List Addr) (H : Hp) : List D → List V → Prop
  | [], xs => xs = []
  | d :: ds, xs => ∃ x ys, xs = x :: ys ∧ RelD ρ H d x ∧ RelDs ρ H ds ys
end
def RelKV {κ : Type} (ρ : List Addr) (H : Hp) (kds : List (κ × D)) (kvs : List (κ × V)) : Prop :=
  kvs.map (·.1) = kds.map (·.1) ∧ RelDs K ρ H (kds.map (·.2)) (kvs.map (·.2))
def RelN (ρ : List Addr) (H : Hp) (kds : List (NestedKey × D)) (xs : List NEnt) : Prop :=
  xs.map (·.1) = kds.map (·.1) ∧ RelDs K ρ H (kds.map (·.2)) (xs.map (·.2.2)) ∧ ∀ x ∈ xs, NOk H x
def ObjR (ρ : List Addr) (H : Hp) (a : Addr) : MO → Prop
  | .lst ds => ∃ xs, H a = some (.lst xs) ∧ RelDs K ρ H ds xs
  | .dK kds => ∃ kvs, H a = some (.dK kvs) ∧ RelKV K ρ H kds kvs
  | .dT kds => ∃ kvs, H a = some (.dT kvs) ∧ RelKV K ρ H kds kvs
  | .dN kds => ∃ xs, H a = some (dNO a xs) ∧ RelN K ρ H kds xs
  | .lK kds => ∃ kvs od, H a = some (.frz od (.dK kvs)) ∧ RelKV K ρ H kds kvs
  | .lT kds => ∃ kvs od, H a = some (.frz od (.dT kvs)) ∧ RelKV K ρ H kds kvs
  | .lN kds => ∃ xs od, H a = some (.frz od (dNO a xs)) ∧ RelN K ρ H kds xs
  | .ins c fs => ∃ C dx kvs, PySem.W.nsIn K mainGlobals c = some (some (.ref C)) ∧ H a = some (.ins C dx kvs) ∧ RelKV K ρ H fs kvs
  | .exn c fs => ∃ C dO, PySem.W.nsIn K mainGlobals c = some (some (.ref C)) ∧ H a = some (exHO a C dO) ∧ (fs = [] ∧ dO = none ∨ fs ≠ [] ∧ ∃ d o kvs, dO = some d ∧ H d = some (.frz o (.xd kvs)) ∧ RelKV K ρ H fs kvs)
structure RelS (ρ : List Addr) (S : Sto) (H : Hp) : Prop where
  len : ρ.length = S.length
  nd : ρ.Nodup
  obj : ∀ (n : Nat) (o : MO), S[n]? = some o → ∃ a, ρ[n]? = some a ∧ ObjR K ρ H a o
def RelT (ρ : List Addr) (H : Hp) (τ : Tau) (σ : St) : Prop :=
  τ.length = σ.length ∧ ∀ (i : Nat) (d : D), τ[i]? = some (some d) → ∃ v, σ[i]? = some (some v) ∧ RelD K ρ H d v
/-- later: the store's objects are those of S', all else that was tracked stands -/
structure Post (ρ : List Addr) (H : Hp) (ρ' : List Addr) (H' : Hp) (S' : Sto) : Prop where
  rel : RelS K ρ' S' H'
  pre : ρ <+: ρ'
  keep : ∀ a o, a ∉ ρ → H a = some o → a ∉ ρ' ∧ H' a = some o
  lck : ∀ a o u, H a = some (.frz o u) → H' a = some (.frz o u)
end

section
variable {K : PySem.W.Frag} {ρ ρ' : List Addr} {H H' : Hp} {S S' : Sto}
theorem ObjR.ro {a : Addr} {o : MO} (h : ObjR K ρ H a o) : RO (H a) := by
  cases o with
  | lst ds => obtain ⟨xs, hx, _⟩ := h; rw [hx]; trivial
  | dK ds => obtain ⟨xs, hx, _⟩ := h; rw [hx]; trivial
  | dT ds => obtain ⟨xs, hx, _⟩ := h; rw [hx]; trivial
  | dN ds => obtain ⟨xs, hx, _⟩ := h; rw [hx]; trivial
  | lK ds => obtain ⟨xs, od, hx, _⟩ := h; rw [hx]; rfl
  | lT ds => obtain ⟨xs, od, hx, _⟩ := h; rw [hx]; rfl
  | lN ds => obtain ⟨xs, od, hx, _⟩ := h; rw [hx]; rfl
  | ins c fs => obtain ⟨C, dx, kvs, _, hx, _⟩ := h; rw [hx]; trivial
  | exn c fs => obtain ⟨C, dO, _, hx, _⟩ := h; rw [hx]; trivial
theorem RelS.mem (R : RelS K ρ S H) {a : Addr} (h : a ∈ ρ) : RO (H a) := by
  obtain ⟨n, hn, e⟩ := List.getElem_of_mem h
  have hl : n < S.length := by rw [← R.len]; exact hn
  obtain ⟨b, hb, ho⟩ := R.obj n S[n] (by simp [hl])
  have : b = a := by
    rw [List.getElem?_eq_getElem hn, e] at hb
    exact (Option.some.inj hb).symm
  subst this
  exact ho.ro
theorem RelS.ne_n (R : RelS K ρ S H) {a : Addr} (h : a ∈ ρ) : H a ≠ none := fun e => by
  have := R.mem h
  rw [e] at this; exact this
theorem RelS.tup (R : RelS K ρ S H) {a : Addr} {xs : List V} (h : H a = some (.tup xs)) : a ∉ ρ := fun m => by
  have := R.mem m
  rw [h] at this; exact this
theorem RelS.frz (R : RelS K ρ S H) {a : Addr} {o : Obj} {u : HO} (hu : fzo u = true) (h : H a = some (.frz o u)) : a ∉ ρ := fun m => by
  have := R.mem m
  rw [h] at this
  rw [show fzo u = false from this] at hu; cases hu

/-- all that never changes stands -/
structure Imm (H H' : Hp) : Prop where
  tup : ∀ a xs, H a = some (.tup xs) → H' a = some (.tup xs)
  frz : ∀ a o u, fzo u = true → H a = some (.frz o u) → H' a = some (.frz o u)
theorem Imm.refl (H : Hp) : Imm H H := ⟨fun _ _ h => h, fun _ _ _ _ h => h⟩
theorem Imm.trans {H1 H2 H3 : Hp} (a : Imm H1 H2) (b : Imm H2 H3) : Imm H1 H3 := ⟨fun _ _ h => b.tup _ _ (a.tup _ _ h), fun _ _ _ hu h => b.frz _ _ _ hu (a.frz _ _ _ hu h)⟩
theorem Imm.sqT (i : Imm H H') {a : Addr} {xs : List V} (h : SqT K H a xs) : SqT K H' a xs := by
  rcases h with (h | ⟨o, h⟩) | h
  · exact .inl (.inl (i.tup _ _ h))
  · exact .inl (.inr ⟨o, i.frz _ _ _ rfl h⟩)
  · exact .inr h
theorem Imm.fzL (i : Imm H H') {a : Addr} {xs : List V} (h : FzL K H a xs) : FzL K H' a xs := by
  rcases h with ⟨o, h⟩ | h
  · exact .inl ⟨o, i.frz _ _ _ rfl h⟩
  · exact .inr h
theorem FzL.sqL {a : Addr} {xs : List V} (h : FzL K H a xs) : SqL K H a xs := by
  rcases h with ⟨o, h⟩ | h
  · exact .inl (.inr ⟨o, h⟩)
  · exact .inr h
theorem Post.imm (p : Post K ρ H ρ' H' S') (R : RelS K ρ S H) : Imm H H' :=
  ⟨fun a xs h => (p.keep a _ (R.tup h) h).2, fun a o u hu h => (p.keep a _ (R.frz hu h) h).2⟩
/-- .. and what is locked is still locked -/
structure ImmL (H H' : Hp) : Prop extends Imm H H' where
  lck : ∀ a o u, H a = some (.frz o u) → H' a = some (.frz o u)
instance : Coe (ImmL H H') (Imm H H') := ⟨ImmL.toImm⟩
theorem ImmL.refl (H : Hp) : ImmL H H := ⟨Imm.refl H, fun _ _ _ h => h⟩
theorem ImmL.trans {H1 H2 H3 : Hp} (a : ImmL H1 H2) (b : ImmL H2 H3) : ImmL H1 H3 := ⟨a.toImm.trans b.toImm, fun _ _ _ h => b.lck _ _ _ (a.lck _ _ _ h)⟩
theorem Post.immL (p : Post K ρ H ρ' H' S') (R : RelS K ρ S H) : ImmL H H' := ⟨p.imm R, p.lck⟩
theorem prefix_get {a : Addr} {n : Nat} (p : ρ <+: ρ') (h : ρ[n]? = some a) : ρ'[n]? = some a := by
  obtain ⟨t, rfl⟩ := p
  rw [List.getElem?_append_left (List.getElem?_eq_some_iff.mp h).1]; exact h
mutual
theorem RelD.mono (i : Imm H H') (p : ρ <+: ρ') : ∀ {d : D} {v : V}, RelD K ρ H d v → RelD K ρ' H' d v
  | .non, _, h => by simpa [RelD] using h
  | .bl _, _, h => by simpa [RelD] using h
  | .int _, _, h => by simpa [RelD] using h
  | .str _, _, h => by simpa [RelD] using h
  | .ty _, _, h => by simpa [RelD] using h
  | .tup ds, _, h => by
    simp only [RelD] at h ⊢
    obtain ⟨a, xs, e, q, r⟩ := h
    exact ⟨a, xs, e, i.tup _ _ q, RelDs.mono i p r⟩
  | .fl ds, _, h => by
    simp only [RelD] at h ⊢
    obtain ⟨a, xs, e, q, r⟩ := h
    exact ⟨a, xs, e, i.fzL q, RelDs.mono i p r⟩
  | .loc n, _, h => by
    simp only [RelD] at h ⊢
    obtain ⟨a, e, q⟩ := h
    exact ⟨a, prefix_get p e, q⟩
  | .tn ds, _, h => by
    simp only [RelD] at h ⊢
    obtain ⟨a, o, xs, e, q, hc, hd, r⟩ := h
    exact ⟨a, o, xs, e, i.frz _ _ _ rfl q, hc, hd, RelDs.mono i p r⟩
theorem RelDs.mono (i : Imm H H') (p : ρ <+: ρ') : ∀ {ds : List D} {vs : List V}, RelDs K ρ H ds vs → RelDs K ρ' H' ds vs
  | [], _, h => by simpa [RelDs] using h
  | d :: ds, _, h => by
    simp only [RelDs] at h ⊢
    obtain ⟨x, ys, e, q, r⟩ := h
    exact ⟨x, ys, e, RelD.mono i p q, RelDs.mono i p r⟩
end
mutual
theorem NkV.mono (i : Imm H H') : ∀ {k : NestedKey} {v : V}, NkV H k v → NkV H' k v
  | .none, _, h => by simpa [NkV] using h
  | .num _, _, h => by simpa [NkV] using h
  | .text _, _, h => by simpa [NkV] using h
  | .tup ks, _, h => by
    simp only [NkV] at h ⊢
    obtain ⟨a, xs, e, q, r⟩ := h
    exact ⟨a, xs, e, i.tup _ _ q, NkVs.mono i r⟩
theorem NkVs.mono (i : Imm H H') : ∀ {ks : List NestedKey} {vs : List V}, NkVs H ks vs → NkVs H' ks vs
  | [], _, h => by simpa [NkVs] using h
  | k :: ks, _, h => by
    simp only [NkVs] at h ⊢
    obtain ⟨x, ys, e, q, r⟩ := h
    exact ⟨x, ys, e, NkV.mono i q, NkVs.mono i r⟩
end
theorem RelN.mono {kds : List (NestedKey × D)} {xs : List NEnt} (i : Imm H H') (p : ρ <+: ρ') (h : RelN K ρ H kds xs) : RelN K ρ' H' kds xs :=
  ⟨h.1, h.2.1.mono i p, fun x hx => let ⟨h1, h2⟩ := h.2.2 x hx; ⟨h1.mono i, h2⟩⟩
theorem RelDs.len : ∀ {ds : List D} {vs : List V}, RelDs K ρ H ds vs → vs.length = ds.length
  | [], _, h => by simp only [RelDs] at h; subst h; rfl
  | d :: ds, _, h => by
    simp only [RelDs] at h
    obtain ⟨x, ys, rfl, _, r⟩ := h
    simp [RelDs.len r]
theorem RelDs.get : ∀ {ds : List D} {vs : List V} {i : Nat} {d : D}, RelDs K ρ H ds vs → ds[i]? = some d → ∃ v, vs[i]? = some v ∧ RelD K ρ H d v
  | [], _, _, _, _, e => by simp at e
  | d :: ds, _, 0, _, h, e => by
    simp only [RelDs] at h
    obtain ⟨x, ys, rfl, q, r⟩ := h
    simp at e; subst e
    exact ⟨x, rfl, q⟩
  | d :: ds, _, i + 1, _, h, e => by
    simp only [RelDs] at h
    obtain ⟨x, ys, rfl, q, r⟩ := h
    obtain ⟨v, e1, e2⟩ := RelDs.get (i := i) r (by simpa using e)
    exact ⟨v, by simpa using e1, e2⟩
theorem RelDs.app : ∀ {ds es : List D} {vs ws : List V}, RelDs K ρ H ds vs → RelDs K ρ H es ws → RelDs K ρ H (ds ++ es) (vs ++ ws)
  | [], _, _, _, h, g => by simp only [RelDs] at h; subst h; exact g
  | d :: ds, _, _, _, h, g => by
    simp only [RelDs] at h
    obtain ⟨x, ys, rfl, q, r⟩ := h
    exact (by simp only [RelDs, List.cons_append]; exact ⟨x, _, rfl, q, RelDs.app r g⟩)
theorem RelDs.nil : RelDs K ρ H [] [] := by simp [RelDs]
theorem RelDs.cons {d : D} {ds : List D} {v : V} {vs : List V} (h : RelD K ρ H d v) (g : RelDs K ρ H ds vs) : RelDs K ρ H (d :: ds) (v :: vs) := by
  simp only [RelDs]; exact ⟨v, vs, rfl, h, g⟩
theorem RelDs.one {d : D} {v : V} (h : RelD K ρ H d v) : RelDs K ρ H [d] [v] := .cons h .nil
/-- place by place -/
theorem RelDs.of : ∀ {ds : List D} {vs : List V}, vs.length = ds.length → (∀ (i : Nat) (d : D) (v : V), ds[i]? = some d → vs[i]? = some v → RelD K ρ H d v) → RelDs K ρ H ds vs
  | [], [], _, _ => .nil
  | d :: ds, v :: vs, hl, h => .cons (h 0 d v rfl rfl) (RelDs.of (by simpa using hl) fun i d v e1 e2 => h (i + 1) d v (by simpa using e1) (by simpa using e2))
theorem RelDs.at {ds : List D} {vs : List V} {i : Nat} {d : D} {v : V} (h : RelDs K ρ H ds vs) (e1 : ds[i]? = some d) (e2 : vs[i]? = some v) : RelD K ρ H d v := by
  obtain ⟨w, e3, r⟩ := h.get e1
  rw [e2] at e3; cases e3; exact r
theorem RelDs.set {ds : List D} {vs : List V} {d : D} {v : V} (h : RelDs K ρ H ds vs) (r : RelD K ρ H d v) (i : Nat) : RelDs K ρ H (ds.set i d) (vs.set i v) := by
  refine RelDs.of (by simp [h.len]) fun j e w e1 e2 => ?_
  rw [List.getElem?_set] at e1 e2
  by_cases hij : i = j
  · subst hij
    rw [if_pos rfl] at e1 e2
    split at e1
    · split at e2
      · cases e1; cases e2; exact r
      · cases e2
    · cases e1
  · rw [if_neg hij] at e1 e2
    exact h.at e1 e2
theorem RelDs.take {ds : List D} {vs : List V} (h : RelDs K ρ H ds vs) (n : Nat) : RelDs K ρ H (ds.take n) (vs.take n) := by
  refine RelDs.of (by simp [h.len]) fun j e w e1 e2 => ?_
  rw [List.getElem?_take] at e1 e2
  split at e1
  · rename_i hj; rw [if_pos hj] at e2; exact h.at e1 e2
  · cases e1
theorem RelDs.drop {ds : List D} {vs : List V} (h : RelDs K ρ H ds vs) (n : Nat) : RelDs K ρ H (ds.drop n) (vs.drop n) := by
  refine RelDs.of (by simp [h.len]) fun j e w e1 e2 => ?_
  rw [List.getElem?_drop] at e1 e2
  exact h.at e1 e2
theorem RelDs.split {ds : List D} {vs : List V} (h : RelDs K ρ H ds vs) {n : Nat} {d : D} {e : List D} (hd : ds = d :: e) : ∃ v ws, vs = v :: ws ∧ RelD K ρ H d v ∧ RelDs K ρ H e ws := by
  subst hd; simpa [RelDs] using h
/-- a tree that is nothing of the store is the same of any -/
theorem RelD.int_ {i : Int} {v : V} (h : RelD K ρ H (.int i) v) : v = .int i := by simpa [RelD] using h
theorem RelD.bl_ {i : Bool} {v : V} (h : RelD K ρ H (.bl i) v) : v = .bl i := by simpa [RelD] using h
theorem RelD.non_ {v : V} (h : RelD K ρ H .non v) : v = .non := by simpa [RelD] using h
theorem RelD.str_ {x : Str} {v : V} (h : RelD K ρ H (.str x) v) : v = .str x := by simpa [RelD] using h
theorem RelD.ty_ {x : String} {v : V} (h : RelD K ρ H (.ty x) v) : v = .ty x := by simpa [RelD] using h
theorem RelD.ty (x : String) : RelD K ρ H (.ty x) (.ty x) := by simp [RelD]
theorem RelD.tup_ {ds : List D} {v : V} (h : RelD K ρ H (.tup ds) v) : ∃ a xs, v = .ref a ∧ H a = some (.tup xs) ∧ RelDs K ρ H ds xs := by simpa [RelD] using h
theorem RelD.fl_ {ds : List D} {v : V} (h : RelD K ρ H (.fl ds) v) : ∃ a xs, v = .ref a ∧ FzL K H a xs ∧ RelDs K ρ H ds xs := by simpa [RelD] using h
theorem RelD.loc_ {n : Nat} {v : V} (h : RelD K ρ H (.loc n) v) : ∃ a, ρ[n]? = some a ∧ v = .ref a := by simpa [RelD] using h
theorem RelD.tn_ {ds : List D} {v : V} (h : RelD K ρ H (.tn ds) v) : ∃ a o xs, v = .ref a ∧ H a = some (.frz o (.tup xs)) ∧ o.cls = .type "tuple" ∧ o.dict = none ∧ RelDs K ρ H ds xs := by simpa [RelD] using h
theorem RelD.int (i : Int) : RelD K ρ H (.int i) (.int i) := by simp [RelD]
theorem RelD.bl (i : Bool) : RelD K ρ H (.bl i) (.bl i) := by simp [RelD]
theorem RelD.non : RelD K ρ H .non .non := by simp [RelD]
theorem RelD.str (x : Str) : RelD K ρ H (.str x) (.str x) := by simp [RelD]
theorem RelD.tup {ds : List D} {a : Addr} {xs : List V} (h : H a = some (.tup xs)) (r : RelDs K ρ H ds xs) : RelD K ρ H (.tup ds) (.ref a) := by simp only [RelD]; exact ⟨a, xs, rfl, h, r⟩
theorem RelD.tn {ds : List D} {a : Addr} {o : Obj} {xs : List V} (h : H a = some (.frz o (.tup xs))) (hc : o.cls = .type "tuple") (hd : o.dict = none) (r : RelDs K ρ H ds xs) : RelD K ρ H (.tn ds) (.ref a) := by simp only [RelD]; exact ⟨a, o, xs, rfl, h, hc, hd, r⟩
theorem RelD.loc {n : Nat} {a : Addr} (h : ρ[n]? = some a) : RelD K ρ H (.loc n) (.ref a) := by simp only [RelD]; exact ⟨a, h, rfl⟩

theorem RelKV.mono {κ : Type} {kds : List (κ × D)} {kvs : List (κ × V)} (i : Imm H H') (p : ρ <+: ρ') (h : RelKV K ρ H kds kvs) : RelKV K ρ' H' kds kvs := ⟨h.1, h.2.mono i p⟩
theorem RelT.mono {τ : Tau} {σ : St} (i : Imm H H') (p : ρ <+: ρ') (h : RelT K ρ H τ σ) : RelT K ρ' H' τ σ :=
  ⟨h.1, fun j d e => let ⟨v, e1, r⟩ := h.2 j d e; ⟨v, e1, r.mono i p⟩⟩
theorem Post.refl (R : RelS K ρ S H) : Post K ρ H ρ H S := ⟨R, List.prefix_rfl, fun _ _ n h => ⟨n, h⟩, fun _ _ _ h => h⟩
theorem Post.trans {ρ2 : List Addr} {H2 : Hp} {S2 : Sto} (a : Post K ρ H ρ' H' S') (b : Post K ρ' H' ρ2 H2 S2) : Post K ρ H ρ2 H2 S2 :=
  ⟨b.rel, a.pre.trans b.pre, fun c o n h => let ⟨n', h'⟩ := a.keep c o n h; b.keep c o n' h', fun c o u h => b.lck c o u (a.lck c o u h)⟩
/-- an object's description in another heap -/
theorem ObjR.mono {a : Addr} {o : MO} (i : Imm H H') (p : ρ <+: ρ') (e : H' a = H a) (h : ObjR K ρ H a o) : ObjR K ρ' H' a o := by
  cases o with
  | lst ds => obtain ⟨xs, h1, h2⟩ := h; exact ⟨xs, by rw [e]; exact h1, h2.mono i p⟩
  | dK ds => obtain ⟨xs, h1, h2⟩ := h; exact ⟨xs, by rw [e]; exact h1, h2.mono i p⟩
  | dT ds => obtain ⟨xs, h1, h2⟩ := h; exact ⟨xs, by rw [e]; exact h1, h2.mono i p⟩
  | dN ds => obtain ⟨xs, h1, h2⟩ := h; exact ⟨xs, by rw [e]; exact h1, h2.mono i p⟩
  | lK ds => obtain ⟨xs, od, h1, h2⟩ := h; exact ⟨xs, od, by rw [e]; exact h1, h2.mono i p⟩
  | lT ds => obtain ⟨xs, od, h1, h2⟩ := h; exact ⟨xs, od, by rw [e]; exact h1, h2.mono i p⟩
  | lN ds => obtain ⟨xs, od, h1, h2⟩ := h; exact ⟨xs, od, by rw [e]; exact h1, h2.mono i p⟩
  | ins c fs => obtain ⟨C, dx, xs, h0, h1, h2⟩ := h; exact ⟨C, dx, xs, h0, by rw [e]; exact h1, h2.mono i p⟩
  | exn c fs =>
    obtain ⟨C, dO, h0, h1, h2⟩ := h
    refine ⟨C, dO, h0, by rw [e]; exact h1, h2.imp id ?_⟩
    rintro ⟨hne, d, o, kvs, e1, h3, r⟩
    exact ⟨hne, d, o, kvs, e1, i.frz _ _ _ rfl h3, r.mono i p⟩
/-- a new object of no place of the store -/
theorem RelS.side (R : RelS K ρ S H) {p : Addr} (hp : H p = none) (o : HO) : Post K ρ H ρ (upd H p o) S := by
  have hne : ∀ a, H a ≠ none → a ≠ p := fun a h e => h (e ▸ hp)
  have im : Imm H (upd H p o) := ⟨fun a xs h => by rw [upd_ne (hne a (by rw [h]; exact nofun))]; exact h, fun a ob u _ h => by rw [upd_ne (hne a (by rw [h]; exact nofun))]; exact h⟩
  refine ⟨⟨R.len, R.nd, fun n ob e => ?_⟩, List.prefix_rfl, fun a ob n h => ⟨n, by rw [upd_ne (hne a (by rw [h]; exact nofun))]; exact h⟩, fun a ob u h => by rw [upd_ne (hne a (by rw [h]; exact nofun))]; exact h⟩
  obtain ⟨a, ha, q⟩ := R.obj n ob e
  refine ⟨a, ha, ?_⟩
  have hap : a ≠ p := hne a (R.ne_n (List.mem_of_getElem? ha))
  exact q.mono im List.prefix_rfl (upd_ne hap)
theorem RelS.new_tup (R : RelS K ρ S H) {p : Addr} (hp : H p = none) {ds : List D} {xs : List V} (r : RelDs K ρ H ds xs) :
    Post K ρ H ρ (upd H p (.tup xs)) S ∧ RelD K ρ (upd H p (.tup xs)) (.tup ds) (.ref p) := by
  have P := R.side hp (.tup xs)
  exact ⟨P, RelD.tup upd_same (r.mono (P.imm R) List.prefix_rfl)⟩
/-- an object that changes is laid anew -/
theorem RelS.new (R : RelS K ρ S H) {p : Addr} (hp : H p = none) {o : MO} {ho : HO}
    (q : ObjR K (ρ ++ [p]) (upd H p ho) p o) : Post K ρ H (ρ ++ [p]) (upd H p ho) (S ++ [o]) ∧ RelD K (ρ ++ [p]) (upd H p ho) (.loc S.length) (.ref p) := by
  have hne : ∀ a, H a ≠ none → a ≠ p := fun a h e => h (e ▸ hp)
  have hpr : p ∉ ρ := fun m => R.ne_n m hp
  have P := R.side hp ho
  have im := P.imm R
  refine ⟨⟨⟨by simp [R.len], ?_, fun n ob e => ?_⟩, List.prefix_append _ _, fun a ob n h => ?_, fun a ob u h => by rw [upd_ne (hne a (by rw [h]; exact nofun))]; exact h⟩, RelD.loc ?_⟩
  · rw [List.nodup_append]
    refine ⟨R.nd, by simp, fun a ha b hb => ?_⟩
    simp at hb; subst hb
    exact fun e => hpr (e ▸ ha)
  · rw [List.getElem?_append] at e
    split at e
    · obtain ⟨a, ha, q'⟩ := R.obj n ob e
      have hap : a ≠ p := hne a (R.ne_n (List.mem_of_getElem? ha))
      exact ⟨a, prefix_get (List.prefix_append _ _) ha, q'.mono im (List.prefix_append _ _) (upd_ne hap)⟩
    · rename_i hn
      have hn' : n = S.length := by
        cases hk : n - S.length with
        | zero => omega
        | succ k => rw [hk] at e; simp at e
      subst hn'
      simp at e; subst e
      exact ⟨p, by rw [← R.len]; simp, q⟩
  · have hap : a ≠ p := hne a (by rw [h]; exact nofun)
    refine ⟨?_, by rw [upd_ne hap]; exact h⟩
    rw [List.mem_append]; rintro (m | m)
    · exact n m
    · simp at m; exact hap m
  · rw [← R.len]; simp
/-- the object at a place is changed -/
theorem RelS.put (R : RelS K ρ S H) {n : Nat} {a : Addr} (hn : ρ[n]? = some a) (mu : Mut (H a)) {o : MO} {ho : HO}
    (q : ObjR K ρ (upd H a ho) a o) : Post K ρ H ρ (upd H a ho) (S.set n o) := by
  have ma : a ∈ ρ := List.mem_of_getElem? hn
  have im : Imm H (upd H a ho) := ⟨fun b xs h => by
      have ne : b ≠ a := fun e => R.tup h (by rw [e]; exact ma)
      rw [upd_ne ne]; exact h, fun b o u hu h => by
      have ne : b ≠ a := fun e => R.frz hu h (by rw [e]; exact ma)
      rw [upd_ne ne]; exact h⟩
  refine ⟨⟨by simp [R.len], R.nd, fun m ob e => ?_⟩, List.prefix_rfl, fun b ob nb h => ⟨nb, by
    have ne : b ≠ a := fun e => nb (by rw [e]; exact ma)
    rw [upd_ne ne]; exact h⟩, fun b ob u h => by
    have ne : b ≠ a := fun e => by rw [← e, h] at mu; exact mu
    rw [upd_ne ne]; exact h⟩
  rw [List.getElem?_set] at e
  split at e
  · rename_i hnm; subst hnm
    split at e
    · cases e; exact ⟨a, hn, q⟩
    · cases e
  · rename_i hnm
    obtain ⟨b, hb, q'⟩ := R.obj m ob e
    refine ⟨b, hb, q'.mono im List.prefix_rfl (upd_ne fun e => hnm ?_)⟩
    subst e
    have l1 := (List.getElem?_eq_some_iff.mp hn).1
    have l2 := (List.getElem?_eq_some_iff.mp hb).1
    exact (List.getElem?_inj l1 R.nd).mp (by rw [hn, hb])
theorem RelS.lst (R : RelS K ρ S H) {n : Nat} {ds : List D} (h : S[n]? = some (.lst ds)) {v : V} (r : RelD K ρ H (.loc n) v) :
    ∃ a xs, v = .ref a ∧ ρ[n]? = some a ∧ H a = some (.lst xs) ∧ RelDs K ρ H ds xs := by
  obtain ⟨a, ha, rfl⟩ := r.loc_
  obtain ⟨b, hb, xs, e, q⟩ := R.obj n _ h
  rw [ha] at hb; cases hb
  exact ⟨a, xs, rfl, ha, e, q⟩
theorem RelS.dK (R : RelS K ρ S H) {n : Nat} {ds : List (Key × D)} (h : S[n]? = some (.dK ds)) {v : V} (r : RelD K ρ H (.loc n) v) :
    ∃ a xs, v = .ref a ∧ ρ[n]? = some a ∧ H a = some (.dK xs) ∧ RelKV K ρ H ds xs := by
  obtain ⟨a, ha, rfl⟩ := r.loc_
  obtain ⟨b, hb, xs, e, q⟩ := R.obj n _ h
  rw [ha] at hb; cases hb
  exact ⟨a, xs, rfl, ha, e, q⟩
theorem RelS.dT (R : RelS K ρ S H) {n : Nat} {ds : List (List Key × D)} (h : S[n]? = some (.dT ds)) {v : V} (r : RelD K ρ H (.loc n) v) :
    ∃ a xs, v = .ref a ∧ ρ[n]? = some a ∧ H a = some (.dT xs) ∧ RelKV K ρ H ds xs := by
  obtain ⟨a, ha, rfl⟩ := r.loc_
  obtain ⟨b, hb, xs, e, q⟩ := R.obj n _ h
  rw [ha] at hb; cases hb
  exact ⟨a, xs, rfl, ha, e, q⟩
theorem RelS.dN (R : RelS K ρ S H) {n : Nat} {ds : List (NestedKey × D)} (h : S[n]? = some (.dN ds)) {v : V} (r : RelD K ρ H (.loc n) v) :
    ∃ a xs, v = .ref a ∧ ρ[n]? = some a ∧ H a = some (dNO a xs) ∧ RelN K ρ H ds xs := by
  obtain ⟨a, ha, rfl⟩ := r.loc_
  obtain ⟨b, hb, xs, e, q⟩ := R.obj n _ h
  rw [ha] at hb; cases hb
  exact ⟨a, xs, rfl, ha, e, q⟩
theorem RelS.lK (R : RelS K ρ S H) {n : Nat} {ds : List (Key × D)} (h : S[n]? = some (.lK ds)) {v : V} (r : RelD K ρ H (.loc n) v) :
    ∃ a xs od, v = .ref a ∧ ρ[n]? = some a ∧ H a = some (.frz od (.dK xs)) ∧ RelKV K ρ H ds xs := by
  obtain ⟨a, ha, rfl⟩ := r.loc_
  obtain ⟨b, hb, xs, od, e, q⟩ := R.obj n _ h
  rw [ha] at hb; cases hb
  exact ⟨a, xs, od, rfl, ha, e, q⟩
theorem RelS.lT (R : RelS K ρ S H) {n : Nat} {ds : List (List Key × D)} (h : S[n]? = some (.lT ds)) {v : V} (r : RelD K ρ H (.loc n) v) :
    ∃ a xs od, v = .ref a ∧ ρ[n]? = some a ∧ H a = some (.frz od (.dT xs)) ∧ RelKV K ρ H ds xs := by
  obtain ⟨a, ha, rfl⟩ := r.loc_
  obtain ⟨b, hb, xs, od, e, q⟩ := R.obj n _ h
  rw [ha] at hb; cases hb
  exact ⟨a, xs, od, rfl, ha, e, q⟩
theorem RelS.lN (R : RelS K ρ S H) {n : Nat} {ds : List (NestedKey × D)} (h : S[n]? = some (.lN ds)) {v : V} (r : RelD K ρ H (.loc n) v) :
    ∃ a xs od, v = .ref a ∧ ρ[n]? = some a ∧ H a = some (.frz od (dNO a xs)) ∧ RelN K ρ H ds xs := by
  obtain ⟨a, ha, rfl⟩ := r.loc_
  obtain ⟨b, hb, xs, od, e, q⟩ := R.obj n _ h
  rw [ha] at hb; cases hb
  exact ⟨a, xs, od, rfl, ha, e, q⟩
theorem RelS.ins (R : RelS K ρ S H) {n : Nat} {c : String} {fs : List (Str × D)} (h : S[n]? = some (.ins c fs)) {v : V} (r : RelD K ρ H (.loc n) v) :
    ∃ a C dx kvs, v = .ref a ∧ ρ[n]? = some a ∧ PySem.W.nsIn K mainGlobals c = some (some (.ref C)) ∧ H a = some (.ins C dx kvs) ∧ RelKV K ρ H fs kvs := by
  obtain ⟨a, ha, rfl⟩ := r.loc_
  obtain ⟨b, hb, C, dx, kvs, e0, e, q⟩ := R.obj n _ h
  rw [ha] at hb; cases hb
  exact ⟨a, C, dx, kvs, rfl, ha, e0, e, q⟩
theorem RelS.exn (R : RelS K ρ S H) {n : Nat} {c : String} {fs : List (Str × D)} (h : S[n]? = some (.exn c fs)) {v : V} (r : RelD K ρ H (.loc n) v) :
    ∃ a C dO, v = .ref a ∧ ρ[n]? = some a ∧ PySem.W.nsIn K mainGlobals c = some (some (.ref C)) ∧ H a = some (exHO a C dO) ∧ (fs = [] ∧ dO = none ∨ fs ≠ [] ∧ ∃ d o kvs, dO = some d ∧ H d = some (.frz o (.xd kvs)) ∧ RelKV K ρ H fs kvs) := by
  obtain ⟨a, ha, rfl⟩ := r.loc_
  obtain ⟨b, hb, C, dO, e0, e, q⟩ := R.obj n _ h
  rw [ha] at hb; cases hb
  exact ⟨a, C, dO, rfl, ha, e0, e, q⟩
end
end SW
namespace SW
open PySem L2

abbrev EvE := Tau → Sto → Option (D × Sto)
abbrev EvT := Tau → Sto → Option (Bool × Sto)
abbrev EvA := Tau → Sto → Option (List D × Sto)
inductive Out where
  | nx (τ : Tau)
  | rt (d : D)
  | bk (τ : Tau)
  | ct (τ : Tau)
  /-- an exception of that class leaves, with what it has of its own -/
  | ex (c : String) (fs : List (Str × D)) (τ : Tau)
abbrev EvS := Tau → Sto → Option (Out × Sto)

section
variable (K : PySem.W.Frag)
/-- where one stands -/
structure At (ρ : List Addr) (τ : Tau) (S : Sto) (σ : St) (H : Hp) : Prop where
  s : RelS K ρ S H
  t : RelT K ρ H τ σ
def tE (f : EvE) : TE := fun σ H Q => ∃ ρ τ S d S', At K ρ τ S σ H ∧ f τ S = some (d, S') ∧ ∀ ρ' v H', Post K ρ H ρ' H' S' → RelD K ρ' H' d v → Q v H'
def tT (f : EvT) : TT := fun σ H Q => ∃ ρ τ S d S', At K ρ τ S σ H ∧ f τ S = some (d, S') ∧ ∀ ρ' H', Post K ρ H ρ' H' S' → Q d H'
def tA (f : EvA) : TA := fun σ H Q => ∃ ρ τ S d S', At K ρ τ S σ H ∧ f τ S = some (d, S') ∧ ∀ ρ' v H', Post K ρ H ρ' H' S' → RelDs K ρ' H' d v → Q v H'
/-- what an exception that leaves asks -/
def ExOk (E : XK) (ρ' : List Addr) (H' : Hp) (c : String) (fs : List (Str × D)) : Prop := ∀ C, PySem.W.nsIn K mainGlobals c = some (some (.ref C)) →
  (fs = [] → E (.ref C) none H') ∧ (fs ≠ [] → ∀ d kvs, H' d = none → RelKV K ρ' (upd H' d (.xd kvs)) fs kvs → E (.ref C) (some d) (upd H' d (.xd kvs)))
/-- what a statement's end asks -/
def OutOk (W : WX) (Dn : Ends) (ρ' : List Addr) (H' : Hp) : Out → Prop
  | .ex c fs τ' => ∀ σ', RelT K ρ' H' τ' σ' → ExOk K (fun cls d H2 => W cls d σ' H2) ρ' H' c fs
  | .nx τ' => ∀ σ', RelT K ρ' H' τ' σ' → Dn.nx σ' H'
  | .rt d => ∀ v, RelD K ρ' H' d v → Dn.rt v H'
  | .bk τ' => ∀ σ', RelT K ρ' H' τ' σ' → Dn.bk σ' H'
  | .ct τ' => ∀ σ', RelT K ρ' H' τ' σ' → Dn.ct σ' H'
def tS (W : WX) (f : EvS) : TS := fun Dn σ H => ∃ ρ τ S o S', At K ρ τ S σ H ∧ f τ S = some (o, S') ∧ ∀ ρ' H', Post K ρ H ρ' H' S' → OutOk K W Dn ρ' H' o
end
abbrev EE (X : Cx) (e : Expr) (f : EvE) : Prop := PE X e (tE X.K f)
abbrev ET (X : Cx) (e : Expr) (f : EvT) : Prop := PT X e (tT X.K f)
abbrev EW (X : Cx) (e : Expr) (f : EvT) : Prop := PW X e (tT X.K f)
abbrev EA (X : Cx) (es : List Expr) (f : EvA) : Prop := PA X es (tA X.K f)
abbrev ES (W : WX) (X : Cx) (s : Stmt) (f : EvS) : Prop := PS X s (tS X.K W f)
abbrev ESs (W : WX) (X : Cx) (s : List Stmt) (f : EvS) : Prop := PSs X s (tS X.K W f)

section
variable {X : Cx} {e : Expr} {es : List Expr} {st : Stmt} {sts : List Stmt}
theorem wkE {t t' : TE} (h : PE X e t) (k : ∀ σ H Q, t' σ H Q → t σ H Q) : PE X e t' := ⟨fun pins s σ H Q I q => h.run pins s σ H Q I (k σ H Q q)⟩
theorem wkT {t t' : TT} (h : PT X e t) (k : ∀ σ H Q, t' σ H Q → t σ H Q) : PT X e t' := ⟨fun pins s σ H Q I q => h.run pins s σ H Q I (k σ H Q q)⟩
theorem wkW {t t' : TT} (h : PW X e t) (k : ∀ σ H Q, t' σ H Q → t σ H Q) : PW X e t' := ⟨fun wh pins s σ H Q I q => h.run wh pins s σ H Q I (k σ H Q q)⟩
theorem wkA {t t' : TA} (h : PA X es t) (k : ∀ σ H Q, t' σ H Q → t σ H Q) : PA X es t' := ⟨fun pos pins s σ H Q I q => h.run pos pins s σ H Q I (k σ H Q q)⟩
theorem wkS {t t' : TS} (h : PS X st t) (k : ∀ D σ H, t' D σ H → t D σ H) : PS X st t' := ⟨fun pins s σ H D I q => h.run pins s σ H D I (k D σ H q)⟩
theorem wkSs {t t' : TS} (h : PSs X sts t) (k : ∀ D σ H, t' D σ H → t D σ H) : PSs X sts t' := ⟨fun pins s σ H D I q => h.run pins s σ H D I (k D σ H q)⟩
/-- two readings of one expression -/
theorem orE {t t' : TE} (h : PE X e t) (h' : PE X e t') : PE X e (fun σ H Q => t σ H Q ∨ t' σ H Q) := ⟨fun pins s σ H Q I q => q.elim (h.run pins s σ H Q I) (h'.run pins s σ H Q I)⟩
theorem orT {t t' : TT} (h : PT X e t) (h' : PT X e t') : PT X e (fun σ H Q => t σ H Q ∨ t' σ H Q) := ⟨fun pins s σ H Q I q => q.elim (h.run pins s σ H Q I) (h'.run pins s σ H Q I)⟩
theorem orO {f : Value → Value → Sem Value} {r r' : R2} (h : OpR X f r) (h' : OpR X f r') : OpR X f (fun x y H Q => r x y H Q ∨ r' x y H Q) :=
  fun pins s σ H x y v u Q I rx ry q => q.elim (h pins s σ H x y v u Q I rx ry) (h' pins s σ H x y v u Q I rx ry)
theorem orC {f : Value} {r r' : List V → Hp → VK → Prop} (h : CallR X f r) (h' : CallR X f r') : CallR X f (fun xs H Q => r xs H Q ∨ r' xs H Q) :=
  fun pins s σ H xs us Q I rx q => q.elim (h pins s σ H xs us Q I rx) (h' pins s σ H xs us Q I rx)
end

section
variable {K : PySem.W.Frag} {ρ ρ' : List Addr} {τ : Tau} {S S' : Sto} {σ : St} {H H' : Hp}
theorem At.go (a : At K ρ τ S σ H) (p : Post K ρ H ρ' H' S') : At K ρ' τ S' σ H' := ⟨p.rel, a.t.mono (p.imm a.s) p.pre⟩
/-- a part is reckoned, and what follows goes on from there -/
theorem goE {f : EvE} {d : D} (a : At K ρ τ S σ H) (e : f τ S = some (d, S')) {Q : VK} (h : ∀ ρ' v H', At K ρ' τ S' σ H' → Post K ρ H ρ' H' S' → RelD K ρ' H' d v → Q v H') : tE K f σ H Q :=
  ⟨ρ, τ, S, d, S', a, e, fun ρ' v H' p r => h ρ' v H' (a.go p) p r⟩
theorem goT {f : EvT} {d : Bool} (a : At K ρ τ S σ H) (e : f τ S = some (d, S')) {Q : Bool → Hp → Prop} (h : ∀ ρ' H', At K ρ' τ S' σ H' → Post K ρ H ρ' H' S' → Q d H') : tT K f σ H Q :=
  ⟨ρ, τ, S, d, S', a, e, fun ρ' H' p => h ρ' H' (a.go p) p⟩
theorem goA {f : EvA} {d : List D} (a : At K ρ τ S σ H) (e : f τ S = some (d, S')) {Q : List V → Hp → Prop} (h : ∀ ρ' v H', At K ρ' τ S' σ H' → Post K ρ H ρ' H' S' → RelDs K ρ' H' d v → Q v H') : tA K f σ H Q :=
  ⟨ρ, τ, S, d, S', a, e, fun ρ' v H' p r => h ρ' v H' (a.go p) p r⟩
theorem At.refl (a : At K ρ τ S σ H) : Post K ρ H ρ H S := Post.refl a.s
end

/-! ### the pieces of expressions -/
def cE (d : D) : EvE := fun _ S => some (d, S)
def vE (i : Nat) : EvE := fun τ S => (τ[i]?.join).map fun d => (d, S)
def b2E (g : D → D → Sto → Option (D × Sto)) (fa fb : EvE) : EvE := fun τ S => (fa τ S).bind fun p => (fb τ p.2).bind fun q => g p.1 q.1 q.2
def u1E (g : D → Sto → Option (D × Sto)) (fa : EvE) : EvE := fun τ S => (fa τ S).bind fun p => g p.1 p.2
def aE (g : List D → Sto → Option (D × Sto)) (fa : EvA) : EvE := fun τ S => (fa τ S).bind fun p => g p.1 p.2
def nilA : EvA := fun _ S => some ([], S)
def consA (fa : EvE) (fr : EvA) : EvA := fun τ S => (fa τ S).bind fun p => (fr τ p.2).bind fun q => some (p.1 :: q.1, q.2)
def tupD (ds : List D) (S : Sto) : Option (D × Sto) := if ds.length ≤ 10000000 then some (.tup ds, S) else none
def lstD (ds : List D) (S : Sto) : Option (D × Sto) := if ds.length ≤ 10000000 then some (.loc S.length, S ++ [.lst ds]) else none
def newD (o : MO) (S : Sto) : D × Sto := (.loc S.length, S ++ [o])
def tB (f : EvE) : EvT := fun τ S => (f τ S).bind fun p => match p.1 with | .bl b => some (b, p.2) | _ => none
def notT (f : EvT) : EvT := fun τ S => (f τ S).map fun p => (!p.1, p.2)
def andT (f g : EvT) : EvT := fun τ S => (f τ S).bind fun p => if p.1 then g τ p.2 else some (false, p.2)
def orT' (f g : EvT) : EvT := fun τ S => (f τ S).bind fun p => if p.1 then some (true, p.2) else g τ p.2
def iteE (c : EvT) (f g : EvE) : EvE := fun τ S => (c τ S).bind fun p => if p.1 then f τ p.2 else g τ p.2
def andE (f g : EvE) : EvE := fun τ S => (f τ S).bind fun p => match p.1 with | .bl b => if b then g τ p.2 else some (.bl false, p.2) | _ => none
def orE' (f g : EvE) : EvE := fun τ S => (f τ S).bind fun p => match p.1 with | .bl b => if b then some (.bl true, p.2) else g τ p.2 | _ => none
def notE (f : EvE) : EvE := fun τ S => (f τ S).bind fun p => match p.1 with | .bl b => some (.bl !b, p.2) | _ => none

/-- a two-place operation, by values: r is what HandS asks, g what is reckoned -/
def Op2 (K : PySem.W.Frag) (r : R2) (g : D → D → Sto → Option (D × Sto)) : Prop :=
  ∀ (ρ : List Addr) (S : Sto) (H : Hp) (x y : D) (v w : V) (d : D) (S' : Sto), RelS K ρ S H → RelD K ρ H x v → RelD K ρ H y w → g x y S = some (d, S') →
    ∀ Q : VK, (∀ ρ' u H', Post K ρ H ρ' H' S' → RelD K ρ' H' d u → Q u H') → r v w H Q
def Op1 (K : PySem.W.Frag) (r : V → Hp → VK → Prop) (g : D → Sto → Option (D × Sto)) : Prop :=
  ∀ (ρ : List Addr) (S : Sto) (H : Hp) (x : D) (v : V) (d : D) (S' : Sto), RelS K ρ S H → RelD K ρ H x v → g x S = some (d, S') →
    ∀ Q : VK, (∀ ρ' u H', Post K ρ H ρ' H' S' → RelD K ρ' H' d u → Q u H') → r v H Q
def OpA (K : PySem.W.Frag) (r : List V → Hp → VK → Prop) (g : List D → Sto → Option (D × Sto)) : Prop :=
  ∀ (ρ : List Addr) (S : Sto) (H : Hp) (x : List D) (v : List V) (d : D) (S' : Sto), RelS K ρ S H → RelDs K ρ H x v → g x S = some (d, S') →
    ∀ Q : VK, (∀ ρ' u H', Post K ρ H ρ' H' S' → RelD K ρ' H' d u → Q u H') → r v H Q

theorem bindE {α β : Type} {x : Option α} {f : α → Option β} {b : β} (h : x.bind f = some b) : ∃ a, x = some a ∧ f a = some b := Option.bind_eq_some_iff.mp h

section
variable {X : Cx} {a b c : Expr} {fa fb fc : EvE} {es : List Expr} {pos : Pos}
theorem ee_cE {e : Expr} {v : V} {d : D} (h : PE X e (tC v)) (hr : ∀ ρ H, RelD X.K ρ H d v) : EE X e (cE d) := wkE h fun σ H Q q => by
  obtain ⟨ρ, τ, S, d', S', A, e, k⟩ := q
  cases e
  exact k ρ v H A.refl (hr ρ H)
theorem ee_int {i : Int} {j pos} : EE X (.Constant (.int i) j pos) (cE (.int i)) := ee_cE pe_int fun _ _ => RelD.int i
theorem ee_bl {i : Bool} {j pos} : EE X (.Constant (.bool i) j pos) (cE (.bl i)) := ee_cE pe_bl fun _ _ => RelD.bl i
theorem ee_non {j pos} : EE X (.Constant .none j pos) (cE .non) := ee_cE pe_non fun _ _ => RelD.non
theorem ee_ty {x : Str} {n : String} (hg : Gl X x) (hm : X.mg x = none) (hv : bootBuiltins x = some (.type n)) (hn : x ≠ "__name__" := by decide) (hd : (x == ("__debug__" : Str)) = false := by decide) : EE X (.Name x pos) (cE (.ty n)) :=
  ee_cE (pe_bltn hg hm hv (v := .ty n) rfl hn hd) fun _ _ => RelD.ty n
theorem ee_v (i : Nat) {x : Str} (h : PE X (.Name x pos) (tVar i)) : EE X (.Name x pos) (vE i) := wkE h fun σ H Q q => by
  obtain ⟨ρ, τ, S, d', S', A, e, k⟩ := q
  cases et : τ[i]? with
  | none => simp [vE, et] at e
  | some o =>
    cases o with
    | none => simp [vE, et] at e
    | some d =>
      simp [vE, et] at e
      obtain ⟨rfl, rfl⟩ := e
      obtain ⟨v, e1, r⟩ := A.t.2 i d et
      exact ⟨v, e1, k ρ v H A.refl r⟩
theorem ee_b2 {r : R2} {g : D → D → Sto → Option (D × Sto)} {e : Expr} (h : PE X a (tE X.K fa) → PE X b (tE X.K fb) → PE X e (tOp r (tE X.K fa) (tE X.K fb))) (hg : Op2 X.K r g) (ha : EE X a fa) (hb : EE X b fb) : EE X e (b2E g fa fb) :=
  wkE (h ha hb) fun σ H Q q => by
    obtain ⟨ρ, τ, S, d, S', A, e, k⟩ := q
    obtain ⟨⟨x, S1⟩, e1, e⟩ := bindE e
    obtain ⟨⟨y, S2⟩, e2, e⟩ := bindE e
    refine goE A e1 fun ρ1 v1 H1 A1 P1 r1 => goE A1 e2 fun ρ2 v2 H2 A2 P2 r2 => ?_
    exact hg ρ2 S2 H2 x y v1 v2 d S' A2.s (r1.mono (P2.imm A1.s) P2.pre) r2 e Q fun ρ3 u H3 P3 r3 => k ρ3 u H3 ((P1.trans P2).trans P3) r3
theorem ee_op {op : Operator} {r : R2} {g : D → D → Sto → Option (D × Sto)} (ho : OpR X (binaryOp op) r) (hg : Op2 X.K r g) (ha : EE X a fa) (hb : EE X b fb) : EE X (.BinOp a op b pos) (b2E g fa fb) :=
  ee_b2 (pe_op ho) hg ha hb
theorem ee_cmp {op : CmpOp} {r : R2} {g : D → D → Sto → Option (D × Sto)} (ho : OpR X (compareOp op) r) (hg : Op2 X.K r g) (ha : EE X a fa) (hb : EE X b fb) (hm : behindInMarks op b = false) : EE X (.Compare a [op] [b] pos) (b2E g fa fb) :=
  ee_b2 (fun h1 h2 => pe_cmpR ho h1 h2 hm) hg ha hb
/-- a test that is a comparison -/
theorem et_cmp {op : CmpOp} {r : R2} {g : D → D → Sto → Option (D × Sto)} (ho : OpR X (compareOp op) r) (hg : Op2 X.K r g) (ha : EE X a fa) (hb : EE X b fb) (hm : behindInMarks op b = false) : ET X (.Compare a [op] [b] pos) (tB (b2E g fa fb)) :=
  wkT (pt_cmpR ho ha hb hm) fun σ H Q q => by
    obtain ⟨ρ, τ, S, d, S', A, e, k⟩ := q
    obtain ⟨⟨z, S3⟩, e0, ez⟩ := bindE e
    obtain ⟨⟨x, S1⟩, e1, e0⟩ := bindE e0
    obtain ⟨⟨y, S2⟩, e2, e0⟩ := bindE e0
    refine goE A e1 fun ρ1 v1 H1 A1 P1 r1 => goE A1 e2 fun ρ2 v2 H2 A2 P2 r2 => ?_
    refine hg ρ2 S2 H2 x y v1 v2 z S3 A2.s (r1.mono (P2.imm A1.s) P2.pre) r2 e0 _ fun ρ3 u H3 P3 r3 => ?_
    cases z with
    | bl b =>
      cases ez
      exact ⟨_, r3.bl_, k ρ3 H3 ((P1.trans P2).trans P3)⟩
    | _ => cases ez
theorem ee_un {op : UnaryOp} {r : V → Hp → VK → Prop} {g : D → Sto → Option (D × Sto)} (ho : UnR X (unaryOp op) r) (hg : Op1 X.K r g) (ha : EE X a fa) : EE X (.UnaryOp op a pos) (u1E g fa) :=
  wkE (pe_un ho ha) fun σ H Q q => by
    obtain ⟨ρ, τ, S, d, S', A, e, k⟩ := q
    obtain ⟨⟨x, S1⟩, e1, e⟩ := bindE e
    refine goE A e1 fun ρ1 v1 H1 A1 P1 r1 => ?_
    exact hg ρ1 S1 H1 x v1 d S' A1.s r1 e Q fun ρ3 u H3 P3 r3 => k ρ3 u H3 (P1.trans P3) r3
/-! lists of arguments, displays -/
theorem ea_nil : EA X [] nilA := wkA pa_nil fun σ H Q q => by
  obtain ⟨ρ, τ, S, d, S', A, e, k⟩ := q
  cases e
  exact k ρ [] H A.refl .nil
theorem ea_cons {fr : EvA} (ha : EE X a fa) (hr : EA X es fr) (hs : starEach (a :: es) X.env = (false, eval a X.env) :: starEach es X.env := by rfl) : EA X (a :: es) (consA fa fr) := wkA (pa_cons ha hr hs) fun σ H Q q => by
  obtain ⟨ρ, τ, S, d, S', A, e, k⟩ := q
  obtain ⟨⟨x, S1⟩, e1, e⟩ := bindE e
  obtain ⟨⟨y, S2⟩, e2, e⟩ := bindE e
  cases e
  refine goE A e1 fun ρ1 v1 H1 A1 P1 r1 => goA A1 e2 fun ρ2 v2 H2 A2 P2 r2 => ?_
  exact k ρ2 _ H2 (P1.trans P2) (.cons (r1.mono (P2.imm A1.s) P2.pre) r2)
theorem line_of {n : Nat} (h : n ≤ 10000000) : n ≤ sizeLine := by rw [sizeLine_eq]; omega
theorem ee_tup {x1} {fr : EvA} (h : EA X es fr) : EE X (.Tuple es x1 pos) (aE tupD fr) := wkE (pe_tup h) fun σ H Q q => by
  obtain ⟨ρ, τ, S, d, S', A, e, k⟩ := q
  obtain ⟨⟨x, S1⟩, e1, e⟩ := bindE e
  simp only [tupD] at e
  split at e
  · rename_i hl
    cases e
    refine goA A e1 fun ρ1 vs H1 A1 P1 r1 => ⟨line_of (by rw [r1.len]; exact hl), fun p hp => ?_⟩
    obtain ⟨P2, r2⟩ := A1.s.new_tup hp r1
    exact k ρ1 _ _ (P1.trans P2) r2
  · cases e
theorem new_lst {K : PySem.W.Frag} {ρ : List Addr} {S : Sto} {H : Hp} (R : RelS K ρ S H) {p : Addr} (hp : H p = none) {ds : List D} {xs : List V} (r : RelDs K ρ H ds xs) :
    Post K ρ H (ρ ++ [p]) (upd H p (.lst xs)) (S ++ [.lst ds]) ∧ RelD K (ρ ++ [p]) (upd H p (.lst xs)) (.loc S.length) (.ref p) :=
  R.new hp ⟨xs, upd_same, r.mono ((R.side hp _).imm R) (List.prefix_append _ _)⟩
theorem ee_lst {fr : EvA} (h : EA X es fr) : EE X (.List es pos) (aE lstD fr) := wkE (pe_lst h) fun σ H Q q => by
  obtain ⟨ρ, τ, S, d, S', A, e, k⟩ := q
  obtain ⟨⟨x, S1⟩, e1, e⟩ := bindE e
  simp only [lstD] at e
  split at e
  · rename_i hl
    cases e
    refine goA A e1 fun ρ1 vs H1 A1 P1 r1 => ⟨line_of (by rw [r1.len]; exact hl), fun p hp => ?_⟩
    obtain ⟨P2, r2⟩ := new_lst A1.s hp r1
    exact k _ _ _ (P1.trans P2) r2
  · cases e
/-- {} whose keys will be ints and texts; whose keys will be tuples -/
def nK : EvE := fun _ S => some (newD (.dK []) S)
def nT : EvE := fun _ S => some (newD (.dT []) S)
theorem ee_nK : EE X (.Dict [] [] pos) nK := wkE pe_dnewK fun σ H Q q => by
  obtain ⟨ρ, τ, S, d, S', A, e, k⟩ := q
  cases e
  intro p hp
  obtain ⟨P2, r2⟩ := A.s.new (o := .dK []) (ho := .dK []) hp ⟨[], upd_same, rfl, .nil⟩
  exact k _ _ _ P2 r2
theorem ee_nT : EE X (.Dict [] [] pos) nT := wkE pe_dnewT fun σ H Q q => by
  obtain ⟨ρ, τ, S, d, S', A, e, k⟩ := q
  cases e
  intro p hp
  obtain ⟨P2, r2⟩ := A.s.new (o := .dT []) (ho := .dT []) hp ⟨[], upd_same, rfl, .nil⟩
  exact k _ _ _ P2 r2
/-! tests, and, or, not, if else -/
theorem et_val {e : Expr} {f : EvE} (h : EE X e f) (he : ∀ whole, isTrue e X.env whole = (do let v ← whole; standAt e.pos; holding [v] (truthy v)) := by intro _; rfl) : ET X e (tB f) := wkT (pt_val h he) fun σ H Q q => by
  obtain ⟨ρ, τ, S, d, S', A, e, k⟩ := q
  obtain ⟨⟨x, S1⟩, e1, e⟩ := bindE e
  refine goE A e1 fun ρ1 v1 H1 A1 P1 r1 => ?_
  cases x with
  | bl b => cases e; exact ⟨_, r1.bl_, k _ _ P1⟩
  | _ => cases e
theorem et_not {f : EvT} (h : ET X a f) : ET X (.UnaryOp .Not a pos) (notT f) := wkT (pt_not h) fun σ H Q q => by
  obtain ⟨ρ, τ, S, d, S', A, e, k⟩ := q
  simp only [notT, Option.map_eq_some_iff] at e
  obtain ⟨⟨x, S1⟩, e1, e⟩ := e
  cases e
  exact goT A e1 fun ρ1 H1 A1 P1 => k ρ1 H1 P1
theorem ew_or1 {f : EvT} (h : ET X a f) : EW X (.BoolOp .Or [a] pos) f := pw_or1 h
theorem ew_or {f g : EvT} {rest : List Expr} (h : ET X a f) (h2 : EW X (.BoolOp .Or (b :: rest) pos) g) : EW X (.BoolOp .Or (a :: b :: rest) pos) (orT' f g) := wkW (pw_or h h2) fun σ H Q q => by
  obtain ⟨ρ, τ, S, d, S', A, e, k⟩ := q
  obtain ⟨⟨x, S1⟩, e1, e⟩ := bindE e
  refine goT A e1 fun ρ1 H1 A1 P1 => ?_
  cases x with
  | false => exact goT A1 e fun ρ2 H2 A2 P2 => k ρ2 H2 (P1.trans P2)
  | true => cases e; exact k _ _ P1
theorem et_w {e : Expr} {f : EvT} (h : EW X e f) : ET X e f := h.pt
theorem ee_ite {f : EvT} (hc : ET X c f) (ha : EE X a fa) (hb : EE X b fb) : EE X (.IfExp c a b pos) (iteE f fa fb) := wkE (pe_ifExp hc ha hb) fun σ H Q q => by
  obtain ⟨ρ, τ, S, d, S', A, e, k⟩ := q
  obtain ⟨⟨x, S1⟩, e1, e⟩ := bindE e
  refine goT A e1 fun ρ1 H1 A1 P1 => ?_
  cases x with
  | true => exact goE A1 e fun ρ2 v2 H2 A2 P2 r2 => k ρ2 v2 H2 (P1.trans P2) r2
  | false => exact goE A1 e fun ρ2 v2 H2 A2 P2 r2 => k ρ2 v2 H2 (P1.trans P2) r2
theorem ee_one {op} {f : EvE} (h : EE X a f) : EE X (.BoolOp op [a] pos) f := pe_one h
theorem ee_and {rest : List Expr} {g : EvE} (ha : EE X a fa) (hb : EE X (.BoolOp .And (b :: rest) pos) g) : EE X (.BoolOp .And (a :: b :: rest) pos) (andE fa g) := wkE (pe_and ha hb) fun σ H Q q => by
  obtain ⟨ρ, τ, S, d, S', A, e, k⟩ := q
  obtain ⟨⟨x, S1⟩, e1, e⟩ := bindE e
  refine goE A e1 fun ρ1 v1 H1 A1 P1 r1 => ?_
  cases x with
  | bl b =>
    refine ⟨b, r1.bl_, ?_⟩
    cases b with
    | true => exact goE A1 e fun ρ2 v2 H2 A2 P2 r2 => k ρ2 v2 H2 (P1.trans P2) r2
    | false => cases e; exact k _ _ _ P1 (RelD.bl _)
  | _ => cases e
theorem ee_not (ha : EE X a fa) : EE X (.UnaryOp .Not a pos) (notE fa) := wkE (pe_not ha) fun σ H Q q => by
  obtain ⟨ρ, τ, S, d, S', A, e, k⟩ := q
  obtain ⟨⟨x, S1⟩, e1, e⟩ := bindE e
  refine goE A e1 fun ρ1 v1 H1 A1 P1 r1 => ?_
  cases x with
  | bl b => cases e; exact ⟨b, r1.bl_, k _ _ _ P1 (RelD.bl _)⟩
  | _ => cases e
end
end SW
/-! Dicts whose keys are tuples of any depth: what the machine does with them. -/
namespace SW
open PySem L2 PyProof.Rows

mutual
theorem plainK_hash (w w' : World) : ∀ k : NestedKey, plainK k = true → k.hash w = k.hash w'
  | .none, _ => rfl
  | .num _, _ => rfl
  | .text _, h => by simp [plainK] at h
  | .tup ks, h => by
    simp only [plainK] at h
    simp only [NestedKey.hash, plainKs_hash w w' ks h]
theorem plainKs_hash (w w' : World) : ∀ ks : List NestedKey, plainKs ks = true → NestedKey.hashes w ks = NestedKey.hashes w' ks
  | [], _ => rfl
  | k :: ks, h => by
    simp only [plainKs, Bool.and_eq_true] at h
    simp only [NestedKey.hashes, plainK_hash w w' k h.1, plainKs_hash w w' ks h.2]
end
section
variable {P : Program} {w : World} {H : Hp} {h : Heap} {a : Addr}
mutual
theorem NkV.is (ok : HOk P w H h) : ∀ {k : NestedKey} {v : V} {u : Value}, NkV H k v → RelV v u → NestedIs h k u
  | .none, v, u, q, r => by
    have q : v = .non := by simpa [NkV] using q
    subst q
    obtain rfl : u = Value.none := r
    exact .none
  | .num i, v, u, q, r => by
    have q : v = .int i := by simpa [NkV] using q
    subst q
    obtain ⟨t, rfl⟩ := r
    exact .int i t
  | .text x, v, u, q, r => by
    have q : v = .str x := by simpa [NkV] using q
    subst q
    obtain ⟨t, rfl⟩ := r
    exact .text x t
  | .tup ks, v, u, q, r => by
    simp only [NkV] at q
    obtain ⟨b, xs, rfl, e, q⟩ := q
    obtain rfl : u = Value.ref b := r
    obtain ⟨_, its, rs, o, h1, h2, n, h3⟩ := (show ObjOk P w H h b (.tup xs) from ok b _ e)
    exact .tup h1 h2 h3 (by simpa using NkVs.is ok q rs)
theorem NkVs.is (ok : HOk P w H h) : ∀ {ks : List NestedKey} {vs : List V} {us : List Value}, NkVs H ks vs → Vals vs us → NestedAll h ks us
  | [], vs, us, q, r => by
    have q : vs = [] := by simpa [NkVs] using q
    subst q
    cases r
    exact .nil
  | k :: ks, vs, us, q, r => by
    simp only [NkVs] at q
    obtain ⟨y, ys, rfl, q1, q2⟩ := q
    cases r with
    | cons r1 r2 => exact .cons (NkV.is ok q1 r1) (NkVs.is ok q2 r2)
end
/-! entries -/
def valN (xs : List NEnt) (k : NestedKey) : Option V := (xs.find? fun x => decide (x.1 = k)).map (·.2.2)
def setN (k : NestedKey) (v : V) (x : NEnt) : NEnt := if x.1 = k then (x.1, x.2.1, v) else x
def putN (xs : List NEnt) (k : NestedKey) (b : Addr) (v : V) : List NEnt := if (valN xs k).isSome then xs.map (setN k v) else xs ++ [(k, b, v)]
abbrev Ents := Paired entOk
theorem Ents.val {xs : List NEnt} {ys : List (NestedKey × Addr × Value)} (r : Ents xs ys) (k : NestedKey) : RelO (valN xs k) ((atKey ys k).map (·.2)) := by
  induction r with
  | nil => exact True.intro
  | @cons p q ps qs e t ih =>
    obtain ⟨e1, e2, e3⟩ := e
    unfold valN atKey at ih ⊢
    rw [List.find?_cons, List.find?_cons, ← e1]
    by_cases z : p.1 = k
    · simp only [z, decide_true, Option.map_some]; exact e3
    · simp only [z, decide_false]; exact ih
theorem Ents.setAll {xs : List NEnt} {ys : List (NestedKey × Addr × Value)} (r : Ents xs ys) (k : NestedKey) {v : V} {u : Value} (rv : RelV v u) : Ents (xs.map (setN k v)) (ys.map (putAt k u)) := by
  induction r with
  | nil => exact .nil
  | @cons p q ps qs e t ih =>
    rw [List.map_cons, List.map_cons]
    refine .cons ?_ ih
    obtain ⟨e1, e2, e3⟩ := e
    unfold setN putAt
    rw [← e1]
    by_cases z : p.1 = k
    · rw [if_pos z, if_pos z]; exact ⟨rfl, e2, rv⟩
    · rw [if_neg z, if_neg z]; exact ⟨e1, e2, e3⟩
theorem Ents.snoc {xs : List NEnt} {ys : List (NestedKey × Addr × Value)} (r : Ents xs ys) {p : NEnt} {q : NestedKey × Addr × Value} (e : entOk p q) : Ents (xs ++ [p]) (ys ++ [q]) := by
  induction r with
  | nil => exact .cons e .nil
  | cons e1 _ ih => exact .cons e1 ih
theorem Ents.put {xs : List NEnt} {ys : List (NestedKey × Addr × Value)} (r : Ents xs ys) (k : NestedKey) (b : Addr) {v : V} {u : Value} (rv : RelV v u) : Ents (putN xs k b v) (storedH ys k b u) := by
  have e := (r.val k).isSome_eq
  rw [Option.isSome_map] at e
  unfold putN storedH
  rw [e]
  split
  · exact r.setAll k rv
  · exact r.snoc ⟨rfl, rfl, rv⟩
theorem putN_len {xs : List NEnt} {k : NestedKey} {b : Addr} {v : V} : (putN xs k b v).length ≤ xs.length + 1 := by
  unfold putN
  split <;> simp
theorem putN_ok {xs : List NEnt} {k : NestedKey} {b : Addr} {v : V} (ok : ∀ x ∈ xs, NOk H x) (hk : NOk H (k, b, v)) : ∀ x ∈ putN xs k b v, NOk H x := by
  intro x hx
  unfold putN at hx
  split at hx
  · obtain ⟨y, hy, rfl⟩ := List.mem_map.mp hx
    have := ok y hy
    unfold setN
    split
    · exact this
    · exact this
  · rcases List.mem_append.mp hx with hx | hx
    · exact ok x hx
    · simp at hx; subst hx; exact hk
/-- a dict that may be read: its entries, and what the machine has of them -/
structure DN (H : Hp) (a : Addr) (xs : List NEnt) : Prop where
  rd : Rd H a (dNO a xs) ∨ (xs = [] ∧ Rd H a (.dK []))
  ok : ∀ x ∈ xs, NOk H x
/-- one that may be written; the empty dict is of any kind -/
structure DW (H : Hp) (a : Addr) (xs : List NEnt) : Prop where
  wr : H a = some (dNO a xs) ∨ (xs = [] ∧ H a = some (.dK []))
  ok : ∀ x ∈ xs, NOk H x
theorem DW.dn (d : DW H a xs) : DN H a xs := ⟨d.wr.elim (fun h => .inl (.inl h)) fun h => .inr ⟨h.1, .inl h.2⟩, d.ok⟩
theorem DW.mut (d : DW H a xs) : Mut (H a) := by
  rcases d.wr with h | ⟨_, h⟩ <;> rw [h] <;> exact True.intro
theorem DN.at (D : DN H a xs) (ok : HOk P w H h) : xs.length ≤ sizeLine ∧ (a == sysModules) = false ∧ ∃ ys, Ents xs ys ∧ h.DictOfH (nestedKind P w) a ys := by
  rcases D.rd with rd | ⟨rfl, rd⟩
  rotate_left
  · obtain ⟨z, y, vs, r, o, es, ep, h1, h2, h3, _, h5, _⟩ := (show ObjOk P w H h a (.dK []) from rd.ok ok)
    cases r
    have : es.toList = [] := by cases q : es.toList with | nil => rfl | cons _ _ => rw [q] at h5; cases h5
    exact ⟨Nat.zero_le _, y, [], .nil, o, es, ep, h1, h2, h3, this, fun x hx => by simp at hx, List.nodup_nil⟩
  obtain ⟨⟨z, y, ys, r, nd, o, es, ep, h1, h2, h3, h4⟩, _, _⟩ := (show ObjOk P w H h a (dNO a xs) from rd.ok ok)
  refine ⟨z, y, ys, r, o, es, ep, h1, h2, h3, h4 w, fun x hx => ?_, nd⟩
  have all : ∀ {l : List NEnt} {m : List (NestedKey × Addr × Value)}, Ents l m → (∀ x ∈ l, NOk H x) → ∀ x ∈ m, (nestedKind P w).is h x.1 x.2.1 := by
    intro l m q
    induction q with
    | nil => intro _ x hx; simp at hx
    | @cons p q ps qs hq t ih =>
      intro okl x hx
      rcases List.mem_cons.mp hx with e | hx
      · subst e
        obtain ⟨n1, n2, _⟩ := okl p List.mem_cons_self
        refine ⟨?_, by rw [← hq.1]; exact n2⟩
        rw [← hq.1, ← hq.2.1]
        exact NkV.is ok n1 rfl
      · exact ih (fun y hy => okl y (List.mem_cons_of_mem _ hy)) x hx
  exact all r D.ok x hx
theorem dNO_mk {xs : List NEnt} {ys : List (NestedKey × Addr × Value)} (z : xs.length ≤ sizeLine) (hd : (a == sysModules) = false) (r : Ents xs ys) (pl : ∀ x ∈ xs, plainK x.1 = true) (D : h.DictOfH (nestedKind P w) a ys) : ObjOk P w H h a (dNO a xs) := by
  obtain ⟨o, es, ep, h1, h2, h3, h4, _, nd⟩ := D
  refine ⟨⟨z, hd, ys, r, nd, o, es, ep, h1, h2, h3, fun w' => ?_⟩, ⟨o, h1⟩, ?_⟩
  · rw [h4]
    refine List.map_congr_left fun y hy => ?_
    have : plainK y.1 = true := by
      have all : ∀ {l : List NEnt} {m : List (NestedKey × Addr × Value)}, Ents l m → (∀ x ∈ l, plainK x.1 = true) → ∀ x ∈ m, plainK x.1 = true := by
        intro l m q
        induction q with
        | nil => intro _ x hx; simp at hx
        | @cons p q ps qs hq t ih =>
          intro okl x hx
          rcases List.mem_cons.mp hx with e | hx
          · subst e
            rw [← hq.1]; exact okl p List.mem_cons_self
          · exact ih (fun y hy => okl y (List.mem_cons_of_mem _ hy)) x hx
      exact all r pl y hy
    show (⟨y.1.hash w, .ref y.2.1, y.2.2⟩ : DictEntry) = _
    rw [plainK_hash w w' y.1 this]
  · rintro h1 h2 ⟨z, hd, ys, r, nd, o, es, ep, g1, g2, g3, g4⟩ st
    exact ⟨z, hd, ys, r, nd, o, es, ep, st o g1, g2, g3, g4⟩
end
section
variable {X : Cx} {pins : List (Addr × Obj)} {σ : L2.St} {H : Hp} {s : Shared} {a b : Addr} {xs : List NEnt} {k : NestedKey} {A : Around} {E : Value → Shared → Prop}
/-- a value that is such a key -/
structure KN (H : Hp) (k : NestedKey) (y : V) (b : Addr) : Prop where
  ref : y = .ref b
  nk : NkV H k (.ref b)
  dep : k.depth ≤ 8
  pl : plainK k = true
theorem KN.is {P : Program} {w : World} {h : Heap} {y : V} (q : KN H k y b) (ok : HOk P w H h) : (nestedKind P w).is h k b := ⟨NkV.is ok q.nk rfl, q.dep⟩
theorem room8 (hu : A.units + 65 < cLine) : (nestedKind X.prog X.w).room A.in1 := by
  show A.in1.units + 8 < cLine
  have : A.in1.units = A.units + 1 := rfl
  omega
def DGN (H : Hp) (a : Addr) (y : V) (r : Option V) : Prop := ∃ xs k b, DN H a xs ∧ KN H k y b ∧ r = valN xs k
theorem n_get {y v : V} {u : Value} {Q : Value → Shared → Prop} (hu : A.units + 65 < cLine) (I : Inv X pins σ H s) (g : DGN H a y (some v)) (ry : RelV y u) (q : ∀ u' s', Inv X pins σ H s' → RelV v u' → Q u' s') : wpAny (model X.prog X.w) A (getItem (.ref a) u) Q E s := by
  obtain ⟨xs, k, b, D, kn, l⟩ := g
  rw [kn.ref] at ry
  obtain rfl : u = Value.ref b := ry
  obtain ⟨_, _, ys, r, dd⟩ := D.at I.hok
  have rv := r.val k
  rw [← l] at rv
  obtain ⟨u', e, ru⟩ := RelO.some_of rv
  obtain ⟨p, hp, hp2⟩ := Option.map_eq_some_iff.mp e
  refine wpAny_getItem_heap (room8 hu) (kn.is I.hok) dd hp ?_
  rw [hp2]
  exact q u' _ (I.tok _) ru
theorem n_notin {y : V} {u : Value} {o : Option V} {Q : Value → Shared → Prop} (hu : A.units + 65 < cLine) (I : Inv X pins σ H s) (g : DGN H a y o) (ry : RelV y u) (q : ∀ s', Inv X pins σ H s' → Q (.bool (!o.isSome)) s') : wpAny (model X.prog X.w) A (compareOp .NotIn u (.ref a)) Q E s := by
  obtain ⟨xs, k, b, D, kn, l⟩ := g
  rw [kn.ref] at ry
  obtain rfl : u = Value.ref b := ry
  obtain ⟨_, hd, ys, r, dd⟩ := D.at I.hok
  refine wpAny_notIn_heap (room8 hu) (kn.is I.hok) hd dd ?_
  have rv := (r.val k).isSome_eq
  rw [Option.isSome_map, ← l] at rv
  rw [← rv]
  exact q _ (I.tok _)
theorem n_type (I : Inv X pins σ H s) (D : DN H a xs) : s.TypeIs (.ref a) "dict" ∧ (∀ b, Value.ref a = .ref b → ∃ ob, s.heap.get? b = some ob ∧ ob.dict = none) ∧ (a == sysModules) = false := by
  obtain ⟨_, hd, ys, _, dd⟩ := D.at I.hok
  refine ⟨dd.typeIs, fun b e => ?_, hd⟩
  cases e
  obtain ⟨ob, _, _, h1, h2, _⟩ := dd
  exact ⟨ob, h1, h2.2.1⟩
theorem n_get1 {y : V} {u : Value} {o : Option V} {Q : Value → Shared → Prop} (hu : A.units + 65 < cLine) (I : Inv X pins σ H s) (g : DGN H a y o) (ry : RelV y u) (q : ∀ u' s', Inv X pins σ H s' → RelV (o.getD .non) u' → Q u' s') : wpAny (model X.prog X.w) A (call (.builtin "dict.get") [.ref a, u]) Q E s := by
  obtain ⟨xs, k, b, D, kn, l⟩ := g
  rw [kn.ref] at ry
  obtain rfl : u = Value.ref b := ry
  obtain ⟨_, hd, ys, r, dd⟩ := D.at I.hok
  refine call_meetsIn PySem.F.slot_dict_get dd.typeIs PySem.F.entry_dict_get (PySem.F.args_dict_get_2 _ _) (meetsH_dict_get (nestedKind X.prog X.w) a b hd) ⟨room8 hu, k, ys, kn.is I.hok, dd, q _ _ (I.tok _) ?_⟩
  rw [l]; exact (r.val k).getD rfl
/-- the object at a is another one now -/
theorem n_write {h' : Heap} {t' : Nat} {k : NestedKey} {v : V} {u : Value} {ys : List (NestedKey × Addr × Value)} (I : Inv X pins σ H s) (W : DW H a xs) (kn : NOk H (k, b, v)) (r : Ents xs ys) (rv : RelV v u) (hl : xs.length < sizeLine) (hd : (a == sysModules) = false)
    (dd : h'.DictOfH (nestedKind X.prog X.w) a (storedH ys k b u)) (hs : Heap.SameBut a s.heap h') : Inv X pins σ (upd H a (dNO a (putN xs k b v))) { s with heap := h', toks := t' } := by
  have he : ∃ q, h'.get? a = some q := let ⟨q, _, _, hq, _⟩ := dd; ⟨q, hq⟩
  refine d_write I W.mut hs he (dNO_mk (by have := putN_len (xs := xs) (k := k) (b := b) (v := v); omega) hd (r.put k b rv) (fun x hx => ?_) dd)
  exact (putN_ok W.ok kn x hx).2.2
def DPN (H : Hp) (a : Addr) (y v : V) (H' : Hp) : Prop := ∃ xs k b, DW H a xs ∧ KN H k y b ∧ xs.length < sizeLine ∧ H' = upd H a (dNO a (putN xs k b v))
theorem n_put {y v : V} {u t : Value} {H' : Hp} {Q : Unit → Shared → Prop} (hu : A.units + 65 < cLine) (I : Inv X pins σ H s) (g : DPN H a y v H') (ry : RelV y u) (rv : RelV v t) (q : ∀ s', Inv X pins σ H' s' → Q () s') : wpAny (model X.prog X.w) A (setItem (.ref a) u t) Q E s := by
  obtain ⟨xs, k, b, W, kn, hl, rfl⟩ := g
  rw [kn.ref] at ry
  obtain rfl : u = Value.ref b := ry
  obtain ⟨z, hd, ys, r, dd⟩ := W.dn.at I.hok
  refine wpAny_setItem_heap (hsz := by rw [← Paired.length r]; exact z) (room8 hu) (kn.is I.hok) dd fun h' dd' hs => q _ ?_
  exact n_write I W ⟨kn.nk, kn.dep, kn.pl⟩ r rv hl hd dd' hs
theorem n_len {Q : Value → Shared → Prop} (I : Inv X pins σ H s) (D : DN H a xs) (q : ∀ t s', Inv X pins σ H s' → Q (.int xs.length t) s') : wpAny (model X.prog X.w) A (call (.builtin "len") [.ref a]) Q E s := by
  obtain ⟨z, hd, ys, r, dd⟩ := D.at I.hok
  have hl : xs.length = ys.length := Paired.length r
  refine call_len_dictH hd dd (by rw [← hl]; rw [sizeLine_eq] at z; omega) ?_
  have := q (s.toks + 1) _ (I.tok (s.toks + 1 + 1))
  rw [hl] at this
  exact this
end
/-! ### readings -/
def rGetN : R2 := fun x y H Q => ∃ a v, x = .ref a ∧ DGN H a y (some v) ∧ Q v H
def rInN (n : Bool → Bool) : R2 := fun y x H Q => ∃ a o, x = .ref a ∧ DGN H a y o ∧ Q (.bl (n o.isSome)) H
def rSetN : V → V → V → Hp → (Hp → Prop) → Prop := fun o i v H Q => ∃ a H4, o = .ref a ∧ DPN H a i v H4 ∧ Q H4
def tOpN (r : R2) (tx ty : TE) : TE := fun σ H Q => tx σ H fun x H1 => ty σ H1 fun y H2 => r x y H2 Q
section
variable {X : Cx} {o i e f : Expr} {pos apos cpos : Pos} {td ty tx : TE}
theorem pe_nget (hu : X.A.units + 65 < cLine) (ho : PE X o td) (hi : PE X i ty) (hs : NoSl i) : PE X (.Subscript o i pos) (tOpN rGetN td ty) := ⟨fun pins s σ H Q I h => by
  refine subD_of PySem.F.slot_dict_getitem.lookup hs (thn (ho.run pins s σ H _ I h) fun u s1 m1 => ?_)
  obtain ⟨x, H1, I1, rx, m1⟩ := m1
  refine thn (hi.run pins s1 σ H1 _ I1 m1) fun iv s2 m2 => ?_
  obtain ⟨y, H2, I2, ry, a, v, rfl, g, m2⟩ := m2
  obtain rfl : u = Value.ref a := rx
  obtain ⟨xs, k, b, D, _, _⟩ := id g
  exact ⟨(n_type I2 D).1, n_get hu I2 g ry fun w' s3 I3 rw' => ⟨v, H2, I3, rw', m2⟩⟩⟩
theorem pc_nnotin (hu : X.A.units + 65 < cLine) (hi : PE X i ty) (ho : PE X o td) : PC X .NotIn i o (tOpN (rInN not) ty td) := ⟨fun pins s σ H Q I h => by
  refine thn (hi.run pins s σ H _ I h) fun iv s1 m1 => ?_
  obtain ⟨y, H1, I1, ry, m1⟩ := m1
  refine thn (ho.run pins s1 σ H1 _ I1 m1) fun u s2 m2 => ?_
  obtain ⟨x, H2, I2, rx, a, ov, rfl, g, m2⟩ := m2
  obtain rfl : u = Value.ref a := rx
  exact n_notin hu I2 g ry fun s3 I3 => ⟨.bl (!ov.isSome), H2, I3, rfl, m2⟩⟩
theorem set_dN (hu : X.A.units + 65 < cLine) : PSet X rSetN := by
  intro pins s σ H o i v ov iv u Q I ro ri rv h
  obtain ⟨a, H4, rfl, g, q⟩ := h
  cases ro
  exact n_put hu I g ri rv fun s' I' => ⟨H4, I', q⟩
/-! methods -/
def tGet1N (td ty : TE) : TE := fun σ H Q => td σ H fun x H1 => ∃ a xs, x = .ref a ∧ DN H1 a xs ∧ ty σ H1 fun y H2 => ∃ o, DGN H2 a y o ∧ Q (o.getD .non) H2
theorem pe_nget1 (hu : X.A.units + 65 < cLine) (ho : PE X o td) (he : PE X e ty) (m : M1 X o "get" apos e cpos) : PE X (.Call (.Attribute o "get" apos) [e] [] cpos) (tGet1N td ty) := ⟨fun pins s σ H Q I h => by
  refine wpAny_Call_method m.base m.few m.line PySem.F.plainAttrs_dict PySem.F.slot_dict_get PySem.F.type_dict_get (thn (ho.run pins s σ H _ I h) fun u s1 m1 => ?_)
  obtain ⟨x, H1, I1, rx, a, xs, rfl, d, m1⟩ := m1
  obtain rfl : u = Value.ref a := rx
  refine ⟨(n_type I1 d).1, (n_type I1 d).2.1, ?_⟩
  rw [m.trees]
  refine Calls.callWith_builtin rfl (Calls.evalArgs_plain (Calls.spliced_cons (thn (he.run pins s1 σ H1 _ I1 m1) fun iv s2 m2 => Calls.spliced_nil ?_)))
  obtain ⟨y, H2, I2, ry, ov, g, m2⟩ := m2
  exact n_get1 hu I2 g ry fun w' s3 I3 rw' => ⟨_, H2, I3, rw', m2⟩⟩
end
end SW
set_option maxHeartbeats 4000000
/-! a tuple, once or not at all -/
namespace SW
open PySem L2 PySem.Spec PyProof.Rows

theorem tuple_mul1 (l : Addr) (items : Array Value) (n : Nat) (sl : Array (Option Value)) (dd : Option Addr) (u : Tok) :
    Meets (Builtin.«tuple.__mul__» ⟨[.ref l, .int 1 u], []⟩) (fun _ R s => s.heap.get? l = some { cls := .type "tuple", dict := dd, data := .seq items n, slots := sl } ∧
      R (.ok (.ret (Value.ref l))) s) :=
  .of_wp fun prog w A R s h => by
    obtain ⟨hp, g, d, tk, os⟩ := s
    obtain ⟨hl, h⟩ := h
    have f1 := AutoSeq1.idx_int
    have c1 : (items.isEmpty || (1 : Int) == 1) = true := by simp
    wp_walk using wpAny_loadPart' hl
    repeat (first
      | (refine wpAny_ite_false (decide_eq_false (by decide)) ?_; wp_walk using wpAny_loadPart' hl)
      | (refine wpAny_ite_true (decide_eq_true c1) ?_; wp_walk using wpAny_loadPart' hl)
      | (refine wpAny_ite_true (by simp) ?_; wp_walk using wpAny_loadPart' hl))
    exact ⟨_, rfl, h⟩
theorem tuple_mul0 (l : Addr) (items : Array Value) (n : Nat) (sl : Array (Option Value)) (dd : Option Addr) (u : Tok) (he : items.isEmpty = false) :
    Meets (Builtin.«tuple.__mul__» ⟨[.ref l, .int 0 u], []⟩) (fun _ R s => s.heap.get? l = some { cls := .type "tuple", dict := dd, data := .seq items n, slots := sl } ∧
      R (.ok (.ret (Value.ref s.heap.objs.size))) { s with heap := s.heap.push { cls := Value.type "tuple", data := Data.seq #[] }, toks := s.toks }) :=
  .of_wp fun prog w A R s h => by
    obtain ⟨hp, g, d, tk, os⟩ := s
    obtain ⟨hl, h⟩ := h
    have f1 := AutoSeq1.idx_int
    have c1 : (items.isEmpty || (0 : Int) == 1) = false := by rw [he]; rfl
    wp_walk using wpAny_loadPart' hl
    repeat (first
      | (refine wpAny_ite_false (decide_eq_false (by rw [c1]; exact Bool.false_ne_true)) ?_; wp_walk using wpAny_loadPart' hl)
      | (refine wpAny_ite_false (decide_eq_false (by decide)) ?_; wp_walk using wpAny_loadPart' hl)
      | (refine wpAny_ite_true (decide_eq_true (by simp)) ?_; wp_walk using wpAny_loadPart' hl))
    exact ⟨_, rfl, h⟩
def rRep01 (K : PySem.W.Frag) : R2 := fun x y H Q => ∃ l k xs, x = .ref l ∧ y = .int k ∧ SqT K H l xs ∧ xs ≠ [] ∧ ((k = 1 ∧ Q (.ref l) H) ∨ (k = 0 ∧ ∀ p, H p = none → Q (.ref p) (upd H p (.tup []))))
theorem op_rep01 {X : Cx} : OpR X (binaryOp .Mult) (rRep01 X.K) := by
  intro pins s σ H x y v u Q I rx ry h
  obtain ⟨l, k, xs, rfl, rfl, hT, hne, q⟩ := h
  cases rx
  obtain ⟨t, rfl⟩ := ry
  obtain ⟨its, r, ⟨⟨cls, dd, data, sl⟩, ho, hc, n, hd⟩, hs⟩ := I.tuple hT
  simp only at hc hd
  subst hc hd
  have hle : its.length = xs.length := r.length.symm
  have hi : its.toArray.isEmpty = false := by
    cases its with
    | nil => exact absurd (List.eq_nil_of_length_eq_zero hle.symm) hne
    | cons a b => rfl
  rcases q with ⟨rfl, q⟩ | ⟨rfl, q⟩
  · exact wpAny_binaryOp_repeat_ref (T := "tuple") (U := "int") (by decide) ⟨_, ho, rfl⟩ (fun s' => typeIs_int s' 1 t) noFill_tuple_mul F.fills_int_mul F.slot_int_rmul repeat_tuple F.slot_int_index.lookup
      (call_meets F.slot_int_rmul (typeIs_int s 1 t) F.entry_int_rmul (F.args_int_rmul_2 _ _) (int_rmul_tuple 1 t l its.toArray n dd sl)
        ⟨ho, rfl, ⟨_, ho, rfl⟩, call_meets F.slot_tuple_mul ⟨_, ho, rfl⟩ F.entry_tuple_mul (F.args_tuple_mul_2 _ _) (tuple_mul1 l its.toArray n sl dd t) ⟨ho, ⟨.ref l, H, I, rfl, q⟩⟩⟩)
  · refine wpAny_binaryOp_repeat_ref (T := "tuple") (U := "int") (by decide) ⟨_, ho, rfl⟩ (fun s' => typeIs_int s' 0 t) noFill_tuple_mul F.fills_int_mul F.slot_int_rmul repeat_tuple F.slot_int_index.lookup
      (call_meets F.slot_int_rmul (typeIs_int s 0 t) F.entry_int_rmul (F.args_int_rmul_2 _ _) (int_rmul_tuple 0 t l its.toArray n dd sl)
        ⟨ho, rfl, ⟨_, ho, rfl⟩, call_meets F.slot_tuple_mul ⟨_, ho, rfl⟩ F.entry_tuple_mul (F.args_tuple_mul_2 _ _) (tuple_mul0 l its.toArray n sl dd t hi) ⟨ho, ?_⟩⟩)
    refine ⟨.ref s.heap.objs.size, _, I.laid (t' := s.toks) (o := .tup []) (fun b ob q => Heap.get?_push_of_some _ q) (Nat.le_refl _) ?_, rfl, q _ (I.hok.fresh (Nat.le_refl _))⟩
    exact ⟨by rw [sizeLine_eq]; simp, [], .nil, IsTup.new _ _⟩
end SW
namespace SW
open PySem L2

/-- where rules may be used: nothing is being handled, and there is room for k calls -/
structure Ok (X : Cx) (k : Nat) : Prop where
  calm : X.calm = true
  room : Room k X.A
theorem Ok.blk {X : Cx} {k : Nat} (o : Ok X k) {s : Shared} {H : Hp} {scope : Scope} {cenv : Env} {fp : List Addr} : Ok (X.blk s H scope cenv fp) k := ⟨o.calm, o.room⟩
theorem Ok.units {X : Cx} {k : Nat} (o : Ok X k) : X.A.units + 65 < cLine := by have := o.room.un; omega

/-! ### integers, texts, lists, tuples by operators -/
def small64 (i : Int) : Bool := decide (-(2 ^ 64) < i) && decide (i < 2 ^ 64)
def intsOf : List D → Option (List Int)
  | [] => some []
  | .int i :: ds => (intsOf ds).map (i :: ·)
  | _ => none
def isNilD : List D → Bool
  | [] => true
  | _ => false
def addD : D → D → Sto → Option (D × Sto)
  | .int i, .int j, S => some (.int (i + j), S)
  | .str x, .str y, S => if x.length + y.length ≤ 10000000 then some (.str (x ++ y), S) else none
  | .tup a, .tup b, S => if a.length + b.length ≤ 10000000 then some (.tup (a ++ b), S) else none
  | .loc m, .loc n, S => match S[m]?, S[n]? with
    | some (.lst a), some (.lst b) => if a.length + b.length ≤ 10000000 then some (newD (.lst (a ++ b)) S) else none
    | _, _ => none
  | .fl a, .loc n, S => match S[n]? with
    | some (.lst b) => if a.length + b.length ≤ 10000000 then some (newD (.lst (a ++ b)) S) else none
    | _ => none
  | _, _, _ => none
def subD : D → D → Sto → Option (D × Sto)
  | .int i, .int j, S => some (.int (i - j), S)
  | _, _, _ => none
def mulD : D → D → Sto → Option (D × Sto)
  | .int i, .int j, S => if small64 i || small64 j then some (.int (i * j), S) else none
  | .loc m, .int k, S => match S[m]? with
    | some (.lst a) => if -(2 ^ 63) ≤ k ∧ k < 2 ^ 63 ∧ a.length * k.toNat ≤ 10000000 then some (newD (.lst (List.replicate k.toNat a).flatten) S) else none
    | _ => none
  | .tup ds, .int k, S => if isNilD ds then none else if k = 1 then some (.tup ds, S) else if k = 0 then some (.tup [], S) else none
  | _, _, _ => none
def modD : D → D → Sto → Option (D × Sto)
  | .int i, .int j, S => if 0 < j then some (.int (i % j), S) else none
  | _, _, _ => none
def fdivD : D → D → Sto → Option (D × Sto)
  | .int i, .int j, S => if 0 < j ∧ j < 1073741824 then some (.int (i / j), S) else none
  | _, _, _ => none
def powD : D → D → Sto → Option (D × Sto)
  | .int i, .int j, S => if 0 ≤ j ∧ j ≤ 1000000 ∧ i.natAbs < 2 ^ 64 then some (.int (i ^ j.toNat), S) else none
  | _, _, _ => none
/-! comparisons -/
def ltD : D → D → Sto → Option (D × Sto)
  | .int i, .int j, S => some (.bl (decide (i < j)), S)
  | .tup a, .tup b, S => match intsOf a, intsOf b with
    | some ns, some ms => some (.bl (HT.lexLt ns ms), S)
    | _, _ => none
  | _, _, _ => none
def gtD : D → D → Sto → Option (D × Sto)
  | .int i, .int j, S => some (.bl (decide (j < i)), S)
  | _, _, _ => none
def geD : D → D → Sto → Option (D × Sto)
  | .int i, .int j, S => some (.bl (decide (j ≤ i)), S)
  | _, _, _ => none
def lexLe (ns ms : List Int) : Bool := Ob.lexAt (fun j => decide (ns.getD j 0 = ms.getD j 0)) (fun j => decide (ns.getD j 0 ≤ ms.getD j 0)) (decide (ns.length ≤ ms.length)) 0 (min ns.length ms.length)
def leD : D → D → Sto → Option (D × Sto)
  | .int i, .int j, S => some (.bl (decide (i ≤ j)), S)
  | .tup a, .tup b, S => match intsOf a, intsOf b with
    | some ns, some ms => some (.bl (lexLe ns ms), S)
    | _, _ => none
  | _, _, _ => none
def isNonD : D → Bool
  | .non => true
  | _ => false
/-- is, is not: None, or two truths -/
def isD : D → D → Sto → Option (D × Sto)
  | x, .non, S => some (.bl (isNonD x), S)
  | .bl a, .bl b, S => some (.bl (decide (a = b)), S)
  | _, _, _ => none
def isNotD : D → D → Sto → Option (D × Sto)
  | x, .non, S => some (.bl (!isNonD x), S)
  | .bl a, .bl b, S => some (.bl (!decide (a = b)), S)
  | _, _, _ => none
/-! data as the model's own trees: lists are looked up in the store, n deep -/
mutual
def pyD (g : Nat → Option PyData) : D → Option PyData
  | .non => some .none
  | .bl b => some (.bool b)
  | .int i => some (.int i)
  | .str x => some (.str x)
  | .tup ds => (pyDs g ds).map .tuple
  | .fl ds => (pyDs g ds).map .list
  | .loc n => g n
  | .ty _ => none
  | .tn _ => none
def pyDs (g : Nat → Option PyData) : List D → Option (List PyData)
  | [] => some []
  | d :: ds => (pyD g d).bind fun p => (pyDs g ds).map (p :: ·)
end
def pyL (S : Sto) : Nat → Nat → Option PyData
  | 0, _ => none
  | n + 1, k => match S[k]? with
    | some (.lst ds) => (pyDs (pyL S n) ds).map .list
    | _ => none
def pyOf (S : Sto) (d : D) : Option PyData := (pyD (pyL S 4) d).bind fun p => if SeqAt.shaped p then some p else none
def eqD (x y : D) (S : Sto) : Option (D × Sto) := (pyOf S x).bind fun p => (pyOf S y).map fun q => (.bl (PyData.eqv p q), S)
def neD (x y : D) (S : Sto) : Option (D × Sto) := (pyOf S x).bind fun p => (pyOf S y).map fun q => (.bl (!PyData.eqv p q), S)

section
variable {X : Cx} {K : PySem.W.Frag} {ρ : List Addr} {S : Sto} {H : Hp}
mutual
theorem dp_of {g : Nat → Option PyData} (R : RelS K ρ S H) (hg : ∀ n p v, g n = some p → RelD K ρ H (.loc n) v → Dp K H v p) : ∀ (d : D) (v : V) (p : PyData), RelD K ρ H d v → pyD g d = some p → Dp K H v p
  | .non, _, _, r, e => by rw [r.non_]; cases e; exact .non
  | .bl b, _, _, r, e => by rw [r.bl_]; cases e; exact .bl b
  | .int b, _, _, r, e => by rw [r.int_]; cases e; exact .int b
  | .str b, _, _, r, e => by rw [r.str_]; cases e; exact .str b
  | .ty b, _, _, r, e => by cases e
  | .tn b, _, _, r, e => by cases e
  | .loc n, _, _, r, e => hg n _ _ e r
  | .tup ds, _, _, r, e => by
    obtain ⟨a, xs, rfl, h, q⟩ := r.tup_
    simp only [pyD, Option.map_eq_some_iff] at e
    obtain ⟨ps, e, rfl⟩ := e
    exact .tup (SqT.of h) (dps_of R hg ds xs ps q e)
  | .fl ds, _, _, r, e => by
    obtain ⟨a, xs, rfl, h, q⟩ := r.fl_
    simp only [pyD, Option.map_eq_some_iff] at e
    obtain ⟨ps, e, rfl⟩ := e
    exact .lst h.sqL (dps_of R hg ds xs ps q e)
theorem dps_of {g : Nat → Option PyData} (R : RelS K ρ S H) (hg : ∀ n p v, g n = some p → RelD K ρ H (.loc n) v → Dp K H v p) : ∀ (ds : List D) (vs : List V) (ps : List PyData), RelDs K ρ H ds vs → pyDs g ds = some ps → DpAll K H vs ps
  | [], _, _, r, e => by cases e; simp only [RelDs] at r; subst r; exact .nil
  | d :: ds, _, _, r, e => by
    simp only [RelDs] at r
    obtain ⟨x, ys, rfl, r1, r2⟩ := r
    simp only [pyDs] at e
    obtain ⟨p, e1, e⟩ := bindE e
    rw [Option.map_eq_some_iff] at e
    obtain ⟨ps, e2, rfl⟩ := e
    exact .cons (dp_of R hg d x p r1 e1) (dps_of R hg ds ys ps r2 e2)
end
theorem dp_L (R : RelS K ρ S H) : ∀ (m n : Nat) (p : PyData) (v : V), pyL S m n = some p → RelD K ρ H (.loc n) v → Dp K H v p
  | 0, _, _, _, e, _ => by cases e
  | m + 1, n, p, v, e, r => by
    simp only [pyL] at e
    split at e
    · rename_i ds eo
      rw [Option.map_eq_some_iff] at e
      obtain ⟨ps, e, rfl⟩ := e
      obtain ⟨a, xs, rfl, _, h, q⟩ := R.lst eo r
      exact .lst (SqL.of h) (dps_of R (fun n p v => dp_L R m n p v) ds xs ps q e)
    · cases e
theorem dp_py (R : RelS K ρ S H) {d : D} {v : V} {p : PyData} (r : RelD K ρ H d v) (e : pyOf S d = some p) : Dp K H v p ∧ SeqAt.shaped p = true := by
  obtain ⟨q, e1, e⟩ := bindE e
  split at e
  · cases e
    rename_i h
    exact ⟨dp_of R (fun n p v => dp_L R 4 n p v) d v _ r e1, h⟩
  · cases e
theorem op2_eq : Op2 K (rEqD K) eqD := fun ρ S H x y v w d S' R r1 r2 e Q k => by
  obtain ⟨p, e1, e⟩ := bindE e
  rw [Option.map_eq_some_iff] at e
  obtain ⟨q, e2, e⟩ := e
  cases e
  obtain ⟨h1, s1⟩ := dp_py R r1 e1
  obtain ⟨h2, s2⟩ := dp_py R r2 e2
  exact ⟨p, q, h1, h2, s1, s2, k _ _ _ (Post.refl R) (RelD.bl _)⟩
theorem op2_ne : Op2 K (rNeD K) neD := fun ρ S H x y v w d S' R r1 r2 e Q k => by
  obtain ⟨p, e1, e⟩ := bindE e
  rw [Option.map_eq_some_iff] at e
  obtain ⟨q, e2, e⟩ := e
  cases e
  obtain ⟨h1, s1⟩ := dp_py R r1 e1
  obtain ⟨h2, s2⟩ := dp_py R r2 e2
  exact ⟨p, q, h1, h2, s1, s2, k _ _ _ (Post.refl R) (RelD.bl _)⟩
theorem intsOf_rel {ds : List D} : ∀ {xs : List V} {ns : List Int}, RelDs K ρ H ds xs → intsOf ds = some ns → xs = ns.map V.int := by
  induction ds with
  | nil => intro xs ns r e; cases e; simp only [RelDs] at r; subst r; rfl
  | cons d ds ih =>
    intro xs ns r e
    cases d with
    | int i =>
      simp only [intsOf, Option.map_eq_some_iff] at e
      obtain ⟨ns, e, rfl⟩ := e
      simp only [RelDs] at r
      obtain ⟨x, ys, rfl, r1, r2⟩ := r
      rw [r1.int_, ih r2 e]; rfl
    | _ => cases e
/-- an answer that is flat, the store as it was -/
abbrev kRefl (R : RelS K ρ S H) {Q : VK} {v : V} {d : D} (k : ∀ ρ' u H', Post K ρ H ρ' H' S → RelD K ρ' H' d u → Q u H') (r : RelD K ρ H d v) : Q v H := k ρ v H (Post.refl R) r

/-- a list that is read (frozen too) and one that is tracked -/
def rCatF (K : PySem.W.Frag) : R2 := fun x y H Q => ∃ l b xs zs, x = .ref l ∧ y = .ref b ∧ SqL K H l xs ∧ H b = some (.lst zs) ∧ xs.length + zs.length ≤ sizeLine ∧ ∀ p, H p = none → Q (.ref p) (upd H p (.lst (xs ++ zs)))
theorem op_catF : OpR X (binaryOp .Add) (rCatF X.K) := by
  intro pins s σ H x y v u Q I rx ry h
  obtain ⟨l, b, xs, zs, rfl, rfl, hH, hB, hz, q⟩ := h
  cases rx
  cases ry
  obtain ⟨its, r, ⟨⟨cls, dd, data, sl⟩, n, e, hc, _, hd⟩, hl⟩ := I.list hH
  obtain ⟨its2, r2, ⟨⟨cls2, dd2, data2, sl2⟩, n2, e2, hc2, _, hd2⟩, hl2⟩ := I.list (SqL.of hB)
  simp only at hc hd hc2 hd2
  subst hc hd hc2 hd2
  have z1 := r.length
  have z2 := r2.length
  refine concat_meets ⟨_, e, rfl⟩ ⟨_, e2, rfl⟩ noFill_list_add seq_list_add PySem.F.slot_list_add PySem.F.entry_list_add (PySem.F.args_list_add_2 _ _) (PyProof.Rows.list_addW l b its.toArray its2.toArray n n2 dd dd2 sl sl2 (by rw [List.size_toArray, List.size_toArray]; omega)) ⟨e, e2, ?_⟩
  have ea : its.toArray ++ its2.toArray = (its ++ its2).toArray := by simp
  rw [ea]
  exact ⟨.ref _, _, I.lnew (t' := s.toks) (r.append r2) (by rw [List.length_append]; omega), rfl, q _ I.fresh⟩
def rAddE (K : PySem.W.Frag) : R2 := fun x y H Q => (rI0 (fun i j => .int (i + j)) x y H Q ∨ (∃ i j, x = .str i ∧ y = .str j ∧ i.length + j.length ≤ sizeLine ∧ Q (.str (i ++ j)) H)) ∨ (rCatA K x y H Q ∨ (rCat x y H Q ∨ rCatF K x y H Q))
theorem opr_add : OpR X (binaryOp .Add) (rAddE X.K) := orO (orO op_add op_add_str) (orO op_catA (orO op_cat op_catF))
theorem op2_add : Op2 K (rAddE K) addD := fun ρ S H x y v w d S' R r1 r2 e Q k => by
  cases x <;> cases y <;> simp only [addD] at e <;> try cases e
  · rw [r1.int_, r2.int_]
    exact .inl (.inl ⟨_, _, rfl, rfl, kRefl R k (RelD.int _)⟩)
  · split at e
    · rename_i hl; cases e
      rw [r1.str_, r2.str_]
      exact .inl (.inr ⟨_, _, rfl, rfl, line_of hl, kRefl R k (RelD.str _)⟩)
    · cases e
  · split at e
    · rename_i hl; cases e
      obtain ⟨a, xs, rfl, h1, q1⟩ := r1.tup_
      obtain ⟨b, ys, rfl, h2, q2⟩ := r2.tup_
      have l1 := q1.len
      have l2 := q2.len
      refine .inr (.inl ⟨a, b, xs, ys, rfl, rfl, SqT.of h1, SqT.of h2, line_of (by omega), fun z => ?_, fun z1 z2 => ?_, fun z1 z2 p hp => ?_⟩)
      · subst z
        have q := q1.app q2
        exact kRefl R k (RelD.tup h2 q)
      · subst z2
        have q := q1.app q2
        rw [List.append_nil] at q
        exact kRefl R k (RelD.tup h1 q)
      · obtain ⟨P, r⟩ := R.new_tup hp (q1.app q2)
        exact k _ _ _ P r
    · cases e
  · split at e
    · rename_i b e2
      split at e
      · rename_i hl; cases e
        obtain ⟨a', xs, rfl, h1, q1⟩ := r1.fl_
        obtain ⟨b', ys, rfl, _, h2, q2⟩ := R.lst e2 r2
        have l1 := q1.len
        have l2 := q2.len
        refine .inr (.inr (.inr ⟨a', b', xs, ys, rfl, rfl, h1.sqL, h2, line_of (by omega), fun p hp => ?_⟩))
        obtain ⟨P, r⟩ := new_lst R hp (q1.app q2)
        exact k _ _ _ P r
      · cases e
    · cases e
  · split at e
    · rename_i a b e1 e2
      split at e
      · rename_i hl; cases e
        obtain ⟨a', xs, rfl, _, h1, q1⟩ := R.lst e1 r1
        obtain ⟨b', ys, rfl, _, h2, q2⟩ := R.lst e2 r2
        have l1 := q1.len
        have l2 := q2.len
        refine .inr (.inr (.inl ⟨a', b', xs, ys, rfl, rfl, h1, h2, line_of (by omega), fun p hp => ?_⟩))
        obtain ⟨P, r⟩ := new_lst R hp (q1.app q2)
        exact k _ _ _ P r
      · cases e
    · cases e
theorem op2_sub : Op2 K (rI0 fun i j => .int (i - j)) subD := fun ρ S H x y v w d S' R r1 r2 e Q k => by
  cases x <;> cases y <;> simp only [subD] at e <;> try cases e
  rw [r1.int_, r2.int_]
  exact ⟨_, _, rfl, rfl, kRefl R k (RelD.int _)⟩
def rMulE (K : PySem.W.Frag) : R2 := fun x y H Q => (rI CMul (fun i j => .int (i * j)) x y H Q ∨ rRep x y H Q) ∨ rRep01 K x y H Q
theorem opr_mul : OpR X (binaryOp .Mult) (rMulE X.K) := orO (orO op_mul op_rep) op_rep01
theorem rep_rel {ds : List D} {xs : List V} (h : RelDs K ρ H ds xs) : ∀ n : Nat, RelDs K ρ H (List.replicate n ds).flatten (List.replicate n xs).flatten
  | 0 => .nil
  | n + 1 => by simp only [List.replicate_succ, List.flatten_cons]; exact h.app (rep_rel h n)
theorem op2_mul : Op2 K (rMulE K) mulD := fun ρ S H x y v w d S' R r1 r2 e Q k => by
  cases x <;> cases y <;> simp only [mulD] at e <;> try cases e
  · split at e
    · rename_i hl; cases e
      rw [r1.int_, r2.int_]
      refine .inl (.inl ⟨_, _, rfl, rfl, ?_, kRefl R k (RelD.int _)⟩)
      simp only [small64, Bool.or_eq_true, Bool.and_eq_true, decide_eq_true_eq] at hl
      exact hl
    · cases e
  · rename_i ds kk
    split at e
    · cases e
    · rename_i hne
      obtain ⟨a', xs, rfl, h1, q1⟩ := r1.tup_
      rw [r2.int_]
      have hx : xs ≠ [] := fun z => hne (by
        subst z
        cases ds with
        | nil => rfl
        | cons d ds => simp [RelDs] at q1)
      split at e
      · rename_i h
        subst h; cases e
        exact .inr ⟨a', 1, xs, rfl, rfl, SqT.of h1, hx, .inl ⟨rfl, kRefl R k r1⟩⟩
      · split at e
        · rename_i h
          subst h; cases e
          refine .inr ⟨a', 0, xs, rfl, rfl, SqT.of h1, hx, .inr ⟨rfl, fun p hp => ?_⟩⟩
          obtain ⟨P, r⟩ := R.new_tup hp (ds := []) (xs := []) .nil
          exact k _ _ _ P r
        · cases e
  · split at e
    · rename_i a e1
      split at e
      · rename_i hl; cases e
        obtain ⟨a', xs, rfl, _, h1, q1⟩ := R.lst e1 r1
        rw [r2.int_]
        refine .inl (.inr ⟨a', _, xs, rfl, rfl, h1, hl.1, hl.2.1, line_of (by rw [q1.len]; exact hl.2.2), fun p hp => ?_⟩)
        obtain ⟨P, r⟩ := new_lst R hp (rep_rel q1 _)
        exact k _ _ _ P r
      · cases e
    · cases e
theorem op2_mod : Op2 K (rI (fun _ j => j ≠ 0) fun i j => .int (i.fmod j)) modD := fun ρ S H x y v w d S' R r1 r2 e Q k => by
  cases x <;> cases y <;> simp only [modD] at e <;> try cases e
  split at e
  · rename_i i j hl; cases e
    rw [r1.int_, r2.int_]
    exact ⟨_, _, rfl, rfl, by omega, by
      show Q (.int (i.fmod j)) H
      rw [Int.fmod_eq_emod_of_nonneg _ (by omega)]; exact kRefl R k (RelD.int _)⟩
  · cases e
theorem op2_fdiv : Op2 K (rI CDiv fun i j => .int (i / j)) fdivD := fun ρ S H x y v w d S' R r1 r2 e Q k => by
  cases x <;> cases y <;> simp only [fdivD] at e <;> try cases e
  split at e
  · rename_i hl; cases e
    rw [r1.int_, r2.int_]
    exact ⟨_, _, rfl, rfl, hl, kRefl R k (RelD.int _)⟩
  · cases e
theorem op2_pow : Op2 K (rI CPow fun i j => .int (i ^ j.toNat)) powD := fun ρ S H x y v w d S' R r1 r2 e Q k => by
  cases x <;> cases y <;> simp only [powD] at e <;> try cases e
  split at e
  · rename_i hl; cases e
    rw [r1.int_, r2.int_]
    exact ⟨_, _, rfl, rfl, hl, kRefl R k (RelD.int _)⟩
  · cases e
def rLtE (K : PySem.W.Frag) : R2 := fun x y H Q => rI0 (fun i j => .bl (decide (i < j))) x y H Q ∨ rLtT K x y H Q
theorem opr_lt {k : Nat} (hc : Ok X k) : OpR X (compareOp .Lt) (rLtE X.K) := orO op_lt (op_ltT hc.room.units0)
theorem op2_lt : Op2 K (rLtE K) ltD := fun ρ S H x y v w d S' R r1 r2 e Q k => by
  cases x <;> cases y <;> simp only [ltD] at e <;> try cases e
  · rw [r1.int_, r2.int_]
    exact .inl ⟨_, _, rfl, rfl, kRefl R k (RelD.bl _)⟩
  · split at e
    · rename_i ns ms e1 e2; cases e
      obtain ⟨a, xs, rfl, h1, q1⟩ := r1.tup_
      obtain ⟨b, ys, rfl, h2, q2⟩ := r2.tup_
      rw [intsOf_rel q1 e1] at h1
      rw [intsOf_rel q2 e2] at h2
      exact .inr ⟨a, b, ns, ms, rfl, rfl, SqT.of h1, SqT.of h2, kRefl R k (RelD.bl _)⟩
    · cases e
def rLeE (K : PySem.W.Frag) : R2 := fun x y H Q => rI0 (fun i j => .bl (decide (i ≤ j))) x y H Q ∨ rLeT K x y H Q
theorem opr_le {k : Nat} (hc : Ok X k) : OpR X (compareOp .LtE) (rLeE X.K) := orO op_le (op_leT hc.room.units0)
theorem op2_le : Op2 K (rLeE K) leD := fun ρ S H x y v w d S' R r1 r2 e Q k => by
  cases x <;> cases y <;> simp only [leD] at e <;> try cases e
  · rw [r1.int_, r2.int_]
    exact .inl ⟨_, _, rfl, rfl, kRefl R k (RelD.bl _)⟩
  · split at e
    · rename_i ns ms e1 e2; cases e
      obtain ⟨a, xs, rfl, h1, q1⟩ := r1.tup_
      obtain ⟨b, ys, rfl, h2, q2⟩ := r2.tup_
      rw [intsOf_rel q1 e1] at h1
      rw [intsOf_rel q2 e2] at h2
      exact .inr ⟨a, b, ns, ms, rfl, rfl, SqT.of h1, SqT.of h2, kRefl R k (RelD.bl _)⟩
    · cases e
theorem op2_gt : Op2 K (rI0 fun i j => .bl (decide (j < i))) gtD := fun ρ S H x y v w d S' R r1 r2 e Q k => by
  cases x <;> cases y <;> simp only [gtD] at e <;> try cases e
  rw [r1.int_, r2.int_]
  exact ⟨_, _, rfl, rfl, kRefl R k (RelD.bl _)⟩
theorem op2_ge : Op2 K (rI0 fun i j => .bl (decide (j ≤ i))) geD := fun ρ S H x y v w d S' R r1 r2 e Q k => by
  cases x <;> cases y <;> simp only [geD] at e <;> try cases e
  rw [r1.int_, r2.int_]
  exact ⟨_, _, rfl, rfl, kRefl R k (RelD.bl _)⟩
theorem isNon_rel {d : D} {v : V} (r : RelD K ρ H d v) : decide (v = .non) = isNonD d := by
  cases d with
  | non => rw [r.non_]; rfl
  | bl b => rw [r.bl_]; rfl
  | int b => rw [r.int_]; rfl
  | str b => rw [r.str_]; rfl
  | ty b => rw [r.ty_]; rfl
  | tn b => obtain ⟨a, o, xs, rfl, _⟩ := r.tn_; rfl
  | tup b => obtain ⟨a, xs, rfl, _⟩ := r.tup_; rfl
  | fl b => obtain ⟨a, xs, rfl, _⟩ := r.fl_; rfl
  | loc b => obtain ⟨a, _, rfl⟩ := r.loc_; rfl
def rIsE : R2 := fun x y H Q => (y = .non ∧ Q (.bl (decide (x = .non))) H) ∨ ∃ a b, x = .bl a ∧ y = .bl b ∧ Q (.bl (decide (a = b))) H
theorem opr_is : OpR X (compareOp .Is) rIsE := orO op_isN op_is_bl
theorem op2_is : Op2 K rIsE isD := fun ρ S H x y v w d S' R r1 r2 e Q k => by
  cases y with
  | non =>
    have e' : some ((D.bl (isNonD x)), S) = some (d, S') := by rw [← e]; cases x <;> rfl
    cases e'
    exact .inl ⟨r2.non_, by rw [isNon_rel r1]; exact kRefl R k (RelD.bl _)⟩
  | bl b =>
    cases x <;> try cases e
    rw [r1.bl_, r2.bl_]
    exact .inr ⟨_, _, rfl, rfl, kRefl R k (RelD.bl _)⟩
  | _ => cases x <;> cases e
def rIsNotE : R2 := fun x y H Q => (y = .non ∧ Q (.bl (!decide (x = .non))) H) ∨ ∃ a b, x = .bl a ∧ y = .bl b ∧ Q (.bl (!decide (a = b))) H
theorem opr_isnot : OpR X (compareOp .IsNot) rIsNotE := orO op_notN op_isnot_bl
theorem op2_isnot : Op2 K rIsNotE isNotD := fun ρ S H x y v w d S' R r1 r2 e Q k => by
  cases y with
  | non =>
    have e' : some ((D.bl (!isNonD x)), S) = some (d, S') := by rw [← e]; cases x <;> rfl
    cases e'
    exact .inl ⟨r2.non_, by rw [isNon_rel r1]; exact kRefl R k (RelD.bl _)⟩
  | bl b =>
    cases x <;> try cases e
    rw [r1.bl_, r2.bl_]
    exact .inr ⟨_, _, rfl, rfl, kRefl R k (RelD.bl _)⟩
  | _ => cases x <;> cases e
def negD : D → Sto → Option (D × Sto)
  | .int i, S => some (.int (-i), S)
  | _, _ => none
theorem op1_neg : Op1 K (rU fun i => .int (-i)) negD := fun ρ S H x v d S' R r e Q k => by
  cases x <;> cases e
  rw [r.int_]
  exact ⟨_, rfl, kRefl R k (RelD.int _)⟩
end
end SW
namespace SW
open PySem L2

/-! ### dicts -/
section
variable {κ : Type} [DecidableEq κ]
def lk (kvs : List (κ × D)) (k : κ) : Option D := (kvs.find? fun kv => decide (kv.1 = k)).map (·.2)
def ptK (kvs : List (κ × D)) (k : κ) (v : D) : List (κ × D) :=
  if (kvs.any fun kv => decide (kv.1 = k)) = true then kvs.map (fun kv => if kv.1 = k then (kv.1, v) else kv) else kvs ++ [(k, v)]
variable {K : PySem.W.Frag} {ρ : List Addr} {H : Hp}
theorem RelKV.nil : RelKV K ρ H ([] : List (κ × D)) [] := ⟨rfl, .nil⟩
theorem RelKV.split {k : κ} {d : D} {kds : List (κ × D)} {kvs : List (κ × V)} (h : RelKV K ρ H ((k, d) :: kds) kvs) : ∃ v r, kvs = (k, v) :: r ∧ RelD K ρ H d v ∧ RelKV K ρ H kds r := by
  obtain ⟨h1, h2⟩ := h
  cases kvs with
  | nil => simp at h1
  | cons p r =>
    simp only [List.map_cons, List.cons.injEq] at h1
    simp only [List.map_cons, RelDs] at h2
    obtain ⟨x, ys, e, r1, r2⟩ := h2
    cases e
    obtain ⟨a, b⟩ := p
    obtain ⟨rfl, h1⟩ := h1
    exact ⟨b, r, rfl, r1, h1, r2⟩
theorem RelKV.cons {k : κ} {d : D} {v : V} {kds : List (κ × D)} {kvs : List (κ × V)} (r : RelD K ρ H d v) (h : RelKV K ρ H kds kvs) : RelKV K ρ H ((k, d) :: kds) ((k, v) :: kvs) :=
  ⟨by simp [h.1], by simp only [List.map_cons, RelDs]; exact ⟨v, _, rfl, r, h.2⟩⟩
theorem RelKV.nil_ {kvs : List (κ × V)} (h : RelKV K ρ H ([] : List (κ × D)) kvs) : kvs = [] := by
  have := h.1; simpa using this
theorem RelKV.lk {k : κ} : ∀ {kds : List (κ × D)} {kvs : List (κ × V)}, RelKV K ρ H kds kvs → (∀ d, SW.lk kds k = some d → ∃ v, valV kvs k = some v ∧ RelD K ρ H d v) ∧ (SW.lk kds k = none → valV kvs k = none)
  | [], kvs, h => by rw [h.nil_]; exact ⟨fun d e => (nomatch e), fun _ => rfl⟩
  | (j, d) :: kds, kvs, h => by
    obtain ⟨v, r, rfl, h1, h2⟩ := h.split
    have ih := RelKV.lk (k := k) h2
    by_cases e : j = k
    · have e1 : SW.lk ((j, d) :: kds) k = some d := by simp [SW.lk, List.find?_cons, e]
      have e2 : valV ((j, v) :: r) k = some v := valV_pos (p := (j, v)) e
      rw [e1, e2]
      refine ⟨fun d' q => ?_, fun q => nomatch q⟩
      cases q
      exact ⟨v, rfl, h1⟩
    · have e1 : SW.lk ((j, d) :: kds) k = SW.lk kds k := by simp [SW.lk, List.find?_cons, e]
      have e2 : valV ((j, v) :: r) k = valV r k := valV_neg (p := (j, v)) e
      rw [e1, e2]
      exact ih
theorem RelKV.isSome {k : κ} {kds : List (κ × D)} {kvs : List (κ × V)} (h : RelKV K ρ H kds kvs) : (valV kvs k).isSome = (SW.lk kds k).isSome := by
  obtain ⟨h1, h2⟩ := h.lk (k := k)
  cases e : SW.lk kds k with
  | none => rw [h2 e]; rfl
  | some d => obtain ⟨v, ev, _⟩ := h1 d e; rw [ev]; rfl
theorem RelKV.any {k : κ} {kds : List (κ × D)} {kvs : List (κ × V)} (h : RelKV K ρ H kds kvs) : (kvs.any fun kv => decide (kv.1 = k)) = (kds.any fun kv => decide (kv.1 = k)) := by
  have h1 : (kvs.map (·.1)).any (fun x => decide (x = k)) = (kds.map (·.1)).any (fun x => decide (x = k)) := by rw [h.1]
  rw [List.any_map, List.any_map] at h1
  exact h1
theorem RelKV.app {as bs : List (κ × D)} {vs ws : List (κ × V)} (h : RelKV K ρ H as vs) (g : RelKV K ρ H bs ws) : RelKV K ρ H (as ++ bs) (vs ++ ws) :=
  ⟨by simp [h.1, g.1], by rw [List.map_append, List.map_append]; exact h.2.app g.2⟩
theorem RelKV.upd {k : κ} {d : D} {v : V} (r : RelD K ρ H d v) : ∀ {kds : List (κ × D)} {kvs : List (κ × V)}, RelKV K ρ H kds kvs →
    RelKV K ρ H (kds.map fun kv => if kv.1 = k then (kv.1, d) else kv) (kvs.map fun kv => if kv.1 = k then (kv.1, v) else kv)
  | [], kvs, h => by rw [h.nil_]; exact .nil
  | (j, e) :: kds, kvs, h => by
    obtain ⟨w, r', rfl, h1, h2⟩ := h.split
    have ih := RelKV.upd (k := k) r h2
    simp only [List.map_cons]
    by_cases e : j = k
    · rw [if_pos e, if_pos e]; exact .cons r ih
    · rw [if_neg e, if_neg e]; exact .cons h1 ih
theorem RelKV.put {k : κ} {d : D} {v : V} {kds : List (κ × D)} {kvs : List (κ × V)} (h : RelKV K ρ H kds kvs) (r : RelD K ρ H d v) : RelKV K ρ H (ptK kds k d) (putK kvs k v) := by
  unfold ptK putK
  rw [h.any]
  split
  · exact h.upd r
  · exact h.app (.cons r .nil)
theorem RelKV.len {kds : List (κ × D)} {kvs : List (κ × V)} (h : RelKV K ρ H kds kvs) : kvs.length = kds.length := by
  have := congrArg List.length h.1; simpa using this
end
def kOf : D → Option Key
  | .int i => some (.inl i)
  | .str x => some (.inr x)
  | _ => none
def ksOf : List D → Option (List Key)
  | [] => some []
  | d :: ds => (kOf d).bind fun k => (ksOf ds).map (k :: ·)
def tOf : D → Option (List Key)
  | .tup ds => ksOf ds
  | _ => none
section
variable {X : Cx} {K : PySem.W.Frag} {ρ : List Addr} {S : Sto} {H : Hp}
theorem kOf_rel {d : D} {v : V} {k : Key} (r : RelD K ρ H d v) (e : kOf d = some k) : v = kV k := by
  cases d <;> cases e
  · exact r.int_
  · exact r.str_
theorem ksOf_rel {ds : List D} : ∀ {vs : List V} {ks : List Key}, RelDs K ρ H ds vs → ksOf ds = some ks → vs = ks.map kV := by
  induction ds with
  | nil => intro vs ks r e; cases e; simp only [RelDs] at r; subst r; rfl
  | cons d ds ih =>
    intro vs ks r e
    obtain ⟨k, e1, e⟩ := bindE e
    rw [Option.map_eq_some_iff] at e
    obtain ⟨ks', e2, rfl⟩ := e
    simp only [RelDs] at r
    obtain ⟨x, ys, rfl, r1, r2⟩ := r
    rw [kOf_rel r1 e1, ih r2 e2]; rfl
theorem tOf_rel {d : D} {v : V} {ks : List Key} (r : RelD K ρ H d v) (e : tOf d = some ks) : ∃ b, v = .ref b ∧ H b = some (.tup (ks.map kV)) := by
  cases d <;> simp only [tOf] at e <;> try cases e
  obtain ⟨a, xs, rfl, h, q⟩ := r.tup_
  rw [ksOf_rel q e] at h
  exact ⟨a, rfl, h⟩

/-! ### o[i] -/
def ixD : D → D → Sto → Option (D × Sto)
  | .tup ds, .int i, S => (atI ds i).map fun d => (d, S)
  | .fl ds, .int i, S => (atI ds i).map fun d => (d, S)
  | .tn ds, .int i, S => (atI ds i).map fun d => (d, S)
  | .str z, .int i, S => if z.length ≤ 10000000 then (atI z.cps.toList i).map fun c => (.str ⟨#[c]⟩, S) else none
  | .loc n, .int i, S => match S[n]? with
    | some (.lst ds) => (atI ds i).map fun d => (d, S)
    | _ => none
  | _, _, _ => none
def dgD : D → D → Sto → Option (D × Sto)
  | .loc n, y, S => match S[n]? with
    | some (.dK kvs) => (kOf y).bind fun k => (lk kvs k).map fun d => (d, S)
    | some (.dT kvs) => (tOf y).bind fun k => (lk kvs k).map fun d => (d, S)
    | some (.lK kvs) => (kOf y).bind fun k => (lk kvs k).map fun d => (d, S)
    | some (.lT kvs) => (tOf y).bind fun k => (lk kvs k).map fun d => (d, S)
    | _ => none
  | _, _, _ => none
theorem at_rel {ds : List D} {xs : List V} {i : Int} {d : D} (q : RelDs K ρ H ds xs) (e : atI ds i = some d) : ∃ v, atI xs i = some v ∧ RelD K ρ H d v := by
  unfold atI at e ⊢
  obtain ⟨j, e1, e2⟩ := bindE e
  obtain ⟨v, e3, r⟩ := q.get e2
  rw [q.len, e1]
  exact ⟨v, e3, r⟩
theorem op2_ix : Op2 K (rIx K) ixD := fun ρ S H x y v w d S' R r1 r2 e Q k => by
  cases y with
  | int i =>
    rw [r2.int_]
    cases x <;> simp only [ixD] at e <;> try cases e
    · split at e
      · rename_i hl
        rw [Option.map_eq_some_iff] at e
        obtain ⟨c, e1, e2⟩ := e
        cases e2
        rw [r1.str_]
        exact .inr (.inr ⟨_, _, _, rfl, rfl, line_of hl, e1, kRefl R k (RelD.str _)⟩)
      · cases e
    · rw [Option.map_eq_some_iff] at e
      obtain ⟨c, e1, e2⟩ := e
      cases e2
      obtain ⟨a, xs, rfl, h1, q1⟩ := r1.tup_
      obtain ⟨u, e3, r⟩ := at_rel q1 e1
      exact .inr (.inl ⟨a, xs, _, u, rfl, rfl, SqT.of h1, e3, kRefl R k r⟩)
    · rw [Option.map_eq_some_iff] at e
      obtain ⟨c, e1, e2⟩ := e
      cases e2
      obtain ⟨a, xs, rfl, h1, q1⟩ := r1.fl_
      obtain ⟨u, e3, r⟩ := at_rel q1 e1
      exact .inl ⟨a, xs, _, u, rfl, rfl, h1.sqL, e3, kRefl R k r⟩
    · split at e
      · rename_i ds eo
        rw [Option.map_eq_some_iff] at e
        obtain ⟨c, e1, e2⟩ := e
        cases e2
        obtain ⟨a, xs, rfl, _, h1, q1⟩ := R.lst eo r1
        obtain ⟨u, e3, r⟩ := at_rel q1 e1
        exact .inl ⟨a, xs, _, u, rfl, rfl, SqL.of h1, e3, kRefl R k r⟩
      · cases e
    · rw [Option.map_eq_some_iff] at e
      obtain ⟨c, e1, e2⟩ := e
      cases e2
      obtain ⟨a, o, xs, rfl, h1, _, _, q1⟩ := r1.tn_
      obtain ⟨u, e3, r⟩ := at_rel q1 e1
      exact .inr (.inl ⟨a, xs, _, u, rfl, rfl, .inl (.inr ⟨o, h1⟩), e3, kRefl R k r⟩)
  | _ => cases x <;> cases e
/-- what a dict holds -/
def dHas (n : Nat) (y : D) (S : Sto) : Option (Option D) := match S[n]? with
  | some (.dK kvs) => (kOf y).map fun k => lk kvs k
  | some (.dT kvs) => (tOf y).map fun k => lk kvs k
  | some (.lK kvs) => (kOf y).map fun k => lk kvs k
  | some (.lT kvs) => (tOf y).map fun k => lk kvs k
  | _ => none
theorem dHas_rel (R : RelS K ρ S H) {n : Nat} {y : D} {v w : V} {o : Option D} (r1 : RelD K ρ H (.loc n) v) (r2 : RelD K ρ H y w) (e : dHas n y S = some o) :
    ∃ a u, v = .ref a ∧ DGet H a w u ∧ u.isSome = o.isSome ∧ ∀ d, o = some d → ∃ z, u = some z ∧ RelD K ρ H d z := by
  unfold dHas at e
  split at e
  · rename_i kvs eo
    rw [Option.map_eq_some_iff] at e
    obtain ⟨k, e1, rfl⟩ := e
    obtain ⟨a, xs, rfl, _, h, q⟩ := R.dK eo r1
    rw [kOf_rel r2 e1]
    refine ⟨a, _, rfl, DGet.k h, q.isSome, fun d e => ?_⟩
    obtain ⟨z, e3, r⟩ := (q.lk (k := k)).1 d e
    exact ⟨z, e3, r⟩
  · rename_i kvs eo
    rw [Option.map_eq_some_iff] at e
    obtain ⟨k, e1, rfl⟩ := e
    obtain ⟨a, xs, rfl, _, h, q⟩ := R.dT eo r1
    obtain ⟨b, rfl, hb⟩ := tOf_rel r2 e1
    refine ⟨a, _, rfl, DGet.t h hb, q.isSome, fun d e => ?_⟩
    obtain ⟨z, e3, r⟩ := (q.lk (k := k)).1 d e
    exact ⟨z, e3, r⟩
  · rename_i kvs eo
    rw [Option.map_eq_some_iff] at e
    obtain ⟨k, e1, rfl⟩ := e
    obtain ⟨a, xs, od, rfl, _, h, q⟩ := R.lK eo r1
    rw [kOf_rel r2 e1]
    refine ⟨a, _, rfl, .inl ⟨xs, k, .inr ⟨od, h⟩, rfl, rfl⟩, q.isSome, fun d e => ?_⟩
    obtain ⟨z, e3, r⟩ := (q.lk (k := k)).1 d e
    exact ⟨z, e3, r⟩
  · rename_i kvs eo
    rw [Option.map_eq_some_iff] at e
    obtain ⟨k, e1, rfl⟩ := e
    obtain ⟨a, xs, od, rfl, _, h, q⟩ := R.lT eo r1
    obtain ⟨b, rfl, hb⟩ := tOf_rel r2 e1
    refine ⟨a, _, rfl, .inr ⟨xs, k, b, .inr ⟨od, h⟩, rfl, hb, rfl⟩, q.isSome, fun d e => ?_⟩
    obtain ⟨z, e3, r⟩ := (q.lk (k := k)).1 d e
    exact ⟨z, e3, r⟩
  · cases e
/-! keys of any depth -/
mutual
def nkOf : D → Option NestedKey
  | .non => some .none
  | .int i => some (.num i)
  | .tup ds => (nksOf ds).map .tup
  | _ => none
def nksOf : List D → Option (List NestedKey)
  | [] => some []
  | d :: ds => (nkOf d).bind fun k => (nksOf ds).map (k :: ·)
end
mutual
theorem nkOf_rel : ∀ {d : D} {v : V} {k : NestedKey}, RelD K ρ H d v → nkOf d = some k → NkV H k v ∧ plainK k = true
  | .non, _, _, r, e => by
    simp only [nkOf, Option.some.injEq] at e
    subst e
    exact ⟨by simp only [NkV]; exact r.non_, rfl⟩
  | .int i, _, _, r, e => by
    simp only [nkOf, Option.some.injEq] at e
    subst e
    exact ⟨by simp only [NkV]; exact r.int_, rfl⟩
  | .tup ds, _, _, r, e => by
    simp only [nkOf, Option.map_eq_some_iff] at e
    obtain ⟨ks, e, rfl⟩ := e
    obtain ⟨a, xs, rfl, h, q⟩ := r.tup_
    obtain ⟨h1, h2⟩ := nksOf_rel q e
    exact ⟨by simp only [NkV]; exact ⟨a, xs, rfl, h, h1⟩, by simp only [plainK]; exact h2⟩
  | .bl _, _, _, _, e => by simp [nkOf] at e
  | .str _, _, _, _, e => by simp [nkOf] at e
  | .fl _, _, _, _, e => by simp [nkOf] at e
  | .loc _, _, _, _, e => by simp [nkOf] at e
  | .ty _, _, _, _, e => by simp [nkOf] at e
  | .tn _, _, _, _, e => by simp [nkOf] at e
theorem nksOf_rel : ∀ {ds : List D} {vs : List V} {ks : List NestedKey}, RelDs K ρ H ds vs → nksOf ds = some ks → NkVs H ks vs ∧ plainKs ks = true
  | [], _, _, r, e => by
    simp only [nksOf, Option.some.injEq] at e
    subst e
    simp only [RelDs] at r
    exact ⟨by simp only [NkVs]; exact r, rfl⟩
  | d :: ds, _, _, r, e => by
    simp only [nksOf] at e
    obtain ⟨k, e1, e⟩ := bindE e
    obtain ⟨ks, e2, rfl⟩ := Option.map_eq_some_iff.mp e
    simp only [RelDs] at r
    obtain ⟨x, ys, rfl, r1, r2⟩ := r
    obtain ⟨h1, h2⟩ := nkOf_rel r1 e1
    obtain ⟨h3, h4⟩ := nksOf_rel r2 e2
    exact ⟨by simp only [NkVs]; exact ⟨x, ys, rfl, h1, h3⟩, by simp only [plainKs, h2, h4, Bool.and_self]⟩
end
def nkT (d : D) : Option NestedKey := match d with
  | .tup ds => (nksOf ds).bind fun ks => if (NestedKey.tup ks).depth ≤ 8 then some (.tup ks) else none
  | _ => none
theorem nkT_rel {d : D} {v : V} {k : NestedKey} (r : RelD K ρ H d v) (e : nkT d = some k) : ∃ b, KN H k v b := by
  cases d <;> simp only [nkT] at e <;> try cases e
  obtain ⟨ks, e1, e⟩ := bindE e
  split at e
  · rename_i hd
    cases e
    obtain ⟨a, xs, rfl, h, q⟩ := r.tup_
    obtain ⟨h1, h2⟩ := nksOf_rel q e1
    exact ⟨a, rfl, by simp only [NkV]; exact ⟨a, xs, rfl, h, h1⟩, hd, by simp only [plainK]; exact h2⟩
  · cases e
theorem RelN.dn {a : Addr} {kds : List (NestedKey × D)} {xs : List NEnt} (q : RelN K ρ H kds xs) (h : Rd H a (dNO a xs)) : DN H a xs := ⟨.inl h, q.2.2⟩
theorem RelN.split {k : NestedKey} {d : D} {kds : List (NestedKey × D)} {xs : List NEnt} (q : RelN K ρ H ((k, d) :: kds) xs) : ∃ b v r, xs = (k, b, v) :: r ∧ RelD K ρ H d v ∧ RelN K ρ H kds r := by
  obtain ⟨h1, h2, h3⟩ := q
  cases xs with
  | nil => simp at h1
  | cons p r =>
    obtain ⟨k', b, v⟩ := p
    simp only [List.map_cons, List.cons.injEq] at h1
    obtain ⟨rfl, h1⟩ := h1
    simp only [List.map_cons, RelDs] at h2
    obtain ⟨x, ys, e, r1, r2⟩ := h2
    cases e
    exact ⟨b, v, r, rfl, r1, h1, r2, fun x hx => h3 x (List.mem_cons_of_mem _ hx)⟩
theorem RelN.lk {k : NestedKey} : ∀ {kds : List (NestedKey × D)} {xs : List NEnt}, RelN K ρ H kds xs → (∀ d, SW.lk kds k = some d → ∃ v, valN xs k = some v ∧ RelD K ρ H d v) ∧ (SW.lk kds k = none → valN xs k = none)
  | [], xs, h => by
    have : xs = [] := by have := h.1; simpa using this
    subst this
    exact ⟨fun d e => (nomatch e), fun _ => rfl⟩
  | (j, d) :: kds, xs, h => by
    obtain ⟨b, v, r, rfl, h1, h2⟩ := h.split
    have ih := RelN.lk (k := k) h2
    by_cases e : j = k
    · have e1 : SW.lk ((j, d) :: kds) k = some d := by simp [SW.lk, List.find?_cons, e]
      have e2 : valN ((j, b, v) :: r) k = some v := by simp [valN, List.find?_cons, e]
      rw [e1, e2]
      exact ⟨fun d' q => by cases q; exact ⟨v, rfl, h1⟩, fun q => nomatch q⟩
    · have e1 : SW.lk ((j, d) :: kds) k = SW.lk kds k := by simp [SW.lk, List.find?_cons, e]
      have e2 : valN ((j, b, v) :: r) k = valN r k := by simp [valN, List.find?_cons, e]
      rw [e1, e2]
      exact ih
theorem RelN.isSome {k : NestedKey} {kds : List (NestedKey × D)} {xs : List NEnt} (h : RelN K ρ H kds xs) : (valN xs k).isSome = (SW.lk kds k).isSome := by
  obtain ⟨h1, h2⟩ := h.lk (k := k)
  cases e : SW.lk kds k with
  | none => rw [h2 e]; rfl
  | some d => obtain ⟨v, ev, _⟩ := h1 d e; rw [ev]; rfl
theorem RelN.nil0 : RelN K ρ H [] [] := ⟨rfl, .nil, fun x hx => by simp at hx⟩
/-- a dict of the store with such keys, to be read -/
def nAt : MO → Option (List (NestedKey × D))
  | .dN kvs => some kvs
  | .lN kvs => some kvs
  | .dK [] => some []
  | .lK [] => some []
  | _ => none
/-- .. to be written -/
def nWr : MO → Option (List (NestedKey × D))
  | .dN kvs => some kvs
  | .dK [] => some []
  | _ => none
theorem nAt_rel (R : RelS K ρ S H) {n : Nat} {o : MO} {kvs : List (NestedKey × D)} {v : V} (ho : S[n]? = some o) (e : nAt o = some kvs) (r : RelD K ρ H (.loc n) v) : ∃ a xs, v = .ref a ∧ DN H a xs ∧ RelN K ρ H kvs xs := by
  unfold nAt at e
  split at e
  · cases e
    obtain ⟨a, xs, rfl, _, h, q⟩ := R.dN ho r
    exact ⟨a, xs, rfl, q.dn (.inl h), q⟩
  · cases e
    obtain ⟨a, xs, od, rfl, _, h, q⟩ := R.lN ho r
    exact ⟨a, xs, rfl, q.dn (.inr ⟨od, h⟩), q⟩
  · cases e
    obtain ⟨a, xs, rfl, _, h, q⟩ := R.dK ho r
    rw [q.nil_] at h
    exact ⟨a, [], rfl, ⟨.inr ⟨rfl, .inl h⟩, fun x hx => by simp at hx⟩, .nil0⟩
  · cases e
    obtain ⟨a, xs, od, rfl, _, h, q⟩ := R.lK ho r
    rw [q.nil_] at h
    exact ⟨a, [], rfl, ⟨.inr ⟨rfl, .inr ⟨od, h⟩⟩, fun x hx => by simp at hx⟩, .nil0⟩
  · cases e
theorem nWr_rel (R : RelS K ρ S H) {n : Nat} {o : MO} {kvs : List (NestedKey × D)} {v : V} (ho : S[n]? = some o) (e : nWr o = some kvs) (r : RelD K ρ H (.loc n) v) : ∃ a xs, v = .ref a ∧ ρ[n]? = some a ∧ DW H a xs ∧ RelN K ρ H kvs xs := by
  unfold nWr at e
  split at e
  · cases e
    obtain ⟨a, xs, rfl, hn, h, q⟩ := R.dN ho r
    exact ⟨a, xs, rfl, hn, ⟨.inl h, q.2.2⟩, q⟩
  · cases e
    obtain ⟨a, xs, rfl, hn, h, q⟩ := R.dK ho r
    rw [q.nil_] at h
    exact ⟨a, [], rfl, hn, ⟨.inr ⟨rfl, h⟩, fun x hx => by simp at hx⟩, .nil0⟩
  · cases e
/-- what such a dict holds -/
def nHas (n : Nat) (y : D) (S : Sto) : Option (Option D) := (S[n]?).bind fun o => (nAt o).bind fun kvs => (nkT y).map fun k => lk kvs k
theorem nHas_rel (R : RelS K ρ S H) {n : Nat} {y : D} {v w : V} {o : Option D} (r1 : RelD K ρ H (.loc n) v) (r2 : RelD K ρ H y w) (e : nHas n y S = some o) :
    ∃ a u, v = .ref a ∧ DGN H a w u ∧ u.isSome = o.isSome ∧ ∀ d, o = some d → ∃ z, u = some z ∧ RelD K ρ H d z := by
  obtain ⟨ob, eo, e⟩ := bindE e
  obtain ⟨kvs, ek, e⟩ := bindE e
  obtain ⟨k, e1, rfl⟩ := Option.map_eq_some_iff.mp e
  obtain ⟨a, xs, rfl, dn, q⟩ := nAt_rel R eo ek r1
  obtain ⟨b, kn⟩ := nkT_rel r2 e1
  exact ⟨a, _, rfl, ⟨xs, k, b, dn, kn, rfl⟩, q.isSome, fun d e => (q.lk (k := k)).1 d e⟩
def gnD : D → D → Sto → Option (D × Sto)
  | .loc n, y, S => (nHas n y S).bind fun o => o.map fun d => (d, S)
  | _, _, _ => none
theorem op2_gn : Op2 K rGetN gnD := fun ρ S H x y v w d S' R r1 r2 e Q k => by
  cases x <;> simp only [gnD] at e <;> try cases e
  obtain ⟨o, e1, e⟩ := bindE e
  obtain ⟨d', rfl, e⟩ := Option.map_eq_some_iff.mp e
  cases e
  obtain ⟨a, u, rfl, g, _, hz⟩ := nHas_rel R r1 r2 e1
  obtain ⟨z, rfl, r⟩ := hz d rfl
  exact ⟨a, z, rfl, g, kRefl R k r⟩
def inDN (n : Bool → Bool) (x y : D) (S : Sto) : Option (D × Sto) := match y with
  | .loc m => (nHas m x S).map fun o => (.bl (n o.isSome), S)
  | _ => none
theorem op2_inDN {n : Bool → Bool} : Op2 K (rInN n) (inDN n) := fun ρ S H x y v w d S' R r1 r2 e Q k => by
  cases y <;> try cases e
  rename_i m
  simp only [inDN, Option.map_eq_some_iff] at e
  obtain ⟨o, e1, e⟩ := e
  cases e
  obtain ⟨a, u, rfl, g, hs, _⟩ := nHas_rel R r2 r1 e1
  exact ⟨a, u, rfl, g, by rw [hs]; exact kRefl R k (RelD.bl _)⟩
def rDg : R2 := fun x y H Q => ∃ a v, x = .ref a ∧ DGet H a y (some v) ∧ Q v H
theorem op2_dg : Op2 K rDg dgD := fun ρ S H x y v w d S' R r1 r2 e Q k => by
  cases x <;> simp only [dgD] at e <;> try cases e
  rename_i n
  have e' : ∃ o, dHas n y S = some o ∧ o = some d ∧ S = S' := by
    unfold dHas
    split at e
    · rename_i eo
      obtain ⟨k, e1, e⟩ := bindE e
      rw [Option.map_eq_some_iff] at e
      obtain ⟨c, e1', e2⟩ := e
      cases e2
      simp only [eo, e1, Option.map_some]
      exact ⟨_, rfl, e1', trivial⟩
    · rename_i eo
      obtain ⟨k, e1, e⟩ := bindE e
      rw [Option.map_eq_some_iff] at e
      obtain ⟨c, e1', e2⟩ := e
      cases e2
      simp only [eo, e1, Option.map_some]
      exact ⟨_, rfl, e1', trivial⟩
    · rename_i eo
      obtain ⟨k, e1, e⟩ := bindE e
      rw [Option.map_eq_some_iff] at e
      obtain ⟨c, e1', e2⟩ := e
      cases e2
      simp only [eo, e1, Option.map_some]
      exact ⟨_, rfl, e1', trivial⟩
    · rename_i eo
      obtain ⟨k, e1, e⟩ := bindE e
      rw [Option.map_eq_some_iff] at e
      obtain ⟨c, e1', e2⟩ := e
      cases e2
      simp only [eo, e1, Option.map_some]
      exact ⟨_, rfl, e1', trivial⟩
    · cases e
  obtain ⟨o, e1, rfl, rfl⟩ := e'
  obtain ⟨a, u, rfl, g, _, hz⟩ := dHas_rel R r1 r2 e1
  obtain ⟨z, rfl, r⟩ := hz d rfl
  exact ⟨a, z, rfl, g, kRefl R k r⟩

/-- a subscript: of a list, a tuple, a text; of a dict -/
def sbD (x y : D) (S : Sto) : Option (D × Sto) := (ixD x y S).orElse fun _ => (dgD x y S).orElse fun _ => gnD x y S
/-! ### one reading or another -/
variable {fa fb : EvE} {a b e : Expr} {pos : Pos}
theorem b2_or {g g1 g2 : D → D → Sto → Option (D × Sto)} (hs : ∀ x y S o, g x y S = some o → g1 x y S = some o ∨ g2 x y S = some o) {σ : St} {H : Hp} {Q : VK} (h : tE K (b2E g fa fb) σ H Q) : tE K (b2E g1 fa fb) σ H Q ∨ tE K (b2E g2 fa fb) σ H Q := by
  obtain ⟨ρ, τ, S, d, S', A, e, k⟩ := h
  obtain ⟨⟨x, S1⟩, e1, e⟩ := bindE e
  obtain ⟨⟨y, S2⟩, e2, e⟩ := bindE e
  rcases hs _ _ _ _ e with q | q
  · exact .inl ⟨ρ, τ, S, d, S', A, by show ((fa τ S).bind fun p => (fb τ p.2).bind fun q => g1 p.1 q.1 q.2) = _; rw [e1]; show ((fb τ S1).bind fun q => g1 x q.1 q.2) = _; rw [e2]; exact q, k⟩
  · exact .inr ⟨ρ, τ, S, d, S', A, by show ((fa τ S).bind fun p => (fb τ p.2).bind fun q => g2 p.1 q.1 q.2) = _; rw [e1]; show ((fb τ S1).bind fun q => g2 x q.1 q.2) = _; rw [e2]; exact q, k⟩
theorem b2_orT {g g1 g2 : D → D → Sto → Option (D × Sto)} (hs : ∀ x y S o, g x y S = some o → g1 x y S = some o ∨ g2 x y S = some o) {σ : St} {H : Hp} {Q : Bool → Hp → Prop} (h : tT K (tB (b2E g fa fb)) σ H Q) : tT K (tB (b2E g1 fa fb)) σ H Q ∨ tT K (tB (b2E g2 fa fb)) σ H Q := by
  obtain ⟨ρ, τ, S, d, S', A, e, k⟩ := h
  obtain ⟨⟨z, S3⟩, e0, ez⟩ := bindE e
  obtain ⟨⟨x, S1⟩, e1, e⟩ := bindE e0
  obtain ⟨⟨y, S2⟩, e2, e⟩ := bindE e
  rcases hs _ _ _ _ e with q | q
  · refine .inl ⟨ρ, τ, S, d, S', A, ?_, k⟩
    have : b2E g1 fa fb τ S = some (z, S3) := by
      show ((fa τ S).bind fun p => (fb τ p.2).bind fun q => g1 p.1 q.1 q.2) = _; rw [e1]; show ((fb τ S1).bind fun q => g1 x q.1 q.2) = _; rw [e2]; exact q
    show (Option.bind _ _) = _
    rw [this]; exact ez
  · refine .inr ⟨ρ, τ, S, d, S', A, ?_, k⟩
    have : b2E g2 fa fb τ S = some (z, S3) := by
      show ((fa τ S).bind fun p => (fb τ p.2).bind fun q => g2 p.1 q.1 q.2) = _; rw [e1]; show ((fb τ S1).bind fun q => g2 x q.1 q.2) = _; rw [e2]; exact q
    show (Option.bind _ _) = _
    rw [this]; exact ez
theorem orElse_some {α : Type} {x : Option α} {y : Unit → Option α} {o : α} (h : x.orElse y = some o) : x = some o ∨ y () = some o := by
  cases x with
  | none => exact .inr h
  | some z => exact .inl h
theorem ee_sub {k : Nat} (hc : Ok X k) (ha : EE X a fa) (hb : EE X b fb) (hs : PlainIx b := by exact fun _ _ => rfl) : EE X (.Subscript a b pos) (b2E sbD fa fb) :=
  wkE (orE (ee_b2 (fun h1 h2 => pe_ix ix_seq h1 h2 hs) op2_ix ha hb) (wkE (orE (ee_b2 (r := rDg) (fun h1 h2 => pe_dget (by have := hc.units; omega) h1 h2 hs) op2_dg ha hb) (ee_b2 (r := rGetN) (fun h1 h2 => pe_nget hc.units h1 h2 hs) op2_gn ha hb)) fun σ H Q q =>
    b2_or (g := fun x y S => (dgD x y S).orElse fun _ => gnD x y S) (fun x y S o h => orElse_some h) q)) fun σ H Q q => b2_or (fun x y S o h => orElse_some h) q

/-! ### in, not in -/
def flV : D → Option V
  | .non => some .non
  | .bl b => some (.bl b)
  | .int i => some (.int i)
  | .str x => some (.str x)
  | _ => none
def flVs : List D → Option (List V)
  | [] => some []
  | d :: ds => (flV d).bind fun v => (flVs ds).map (v :: ·)
theorem flV_rel {d : D} {v w : V} (r : RelD K ρ H d v) (e : flV d = some w) : v = w ∧ flatV w = true := by
  cases d <;> cases e
  · exact ⟨r.non_, rfl⟩
  · exact ⟨r.bl_, rfl⟩
  · exact ⟨r.int_, rfl⟩
  · exact ⟨r.str_, rfl⟩
theorem flVs_rel {ds : List D} : ∀ {vs ws : List V}, RelDs K ρ H ds vs → flVs ds = some ws → vs = ws ∧ ws.all flatV = true := by
  induction ds with
  | nil => intro vs ks r e; cases e; simp only [RelDs] at r; subst r; exact ⟨rfl, rfl⟩
  | cons d ds ih =>
    intro vs ks r e
    obtain ⟨k, e1, e⟩ := bindE e
    rw [Option.map_eq_some_iff] at e
    obtain ⟨ks', e2, rfl⟩ := e
    simp only [RelDs] at r
    obtain ⟨x, ys, rfl, r1, r2⟩ := r
    obtain ⟨rfl, f1⟩ := flV_rel r1 e1
    obtain ⟨rfl, f2⟩ := ih r2 e2
    exact ⟨rfl, by simp [f1, f2]⟩
/-- in a list, a tuple; the answer through a function (not) -/
def inSq (n : Bool → Bool) (x y : D) (S : Sto) : Option (D × Sto) := match y with
  | .tup ds => (flV x).bind fun v => (flVs ds).map fun vs => (.bl (n (inV v vs)), S)
  | y => (pyOf S x).bind fun p => (pyOf S y).bind fun q => match q with
    | .list qs => some (.bl (n (qs.any fun z => PyData.eqv z p)), S)
    | _ => none
def inDc (n : Bool → Bool) (x y : D) (S : Sto) : Option (D × Sto) := match y with
  | .loc m => (dHas m x S).map fun o => (.bl (n o.isSome), S)
  | _ => none
def inDd (n : Bool → Bool) (x y : D) (S : Sto) : Option (D × Sto) := (inDc n x y S).orElse fun _ => inDN n x y S
def notInD (x y : D) (S : Sto) : Option (D × Sto) := (inSq not x y S).orElse fun _ => inDd not x y S
theorem op2_notInSq : Op2 K (fun x y H Q => rNotInD K x y H Q ∨ rIn K true x y H Q) (inSq not) := fun ρ S H x y v w d S' R r1 r2 e Q k => by
  have lst : ((pyOf S x).bind fun p => (pyOf S y).bind fun q => match q with
    | .list qs => some (D.bl (not (qs.any fun z => PyData.eqv z p)), S)
    | _ => none) = some (d, S') → rNotInD K v w H Q := fun e => by
    obtain ⟨p, e1, e⟩ := bindE e
    obtain ⟨q, e2, e⟩ := bindE e
    obtain ⟨h1, s1⟩ := dp_py R r1 e1
    obtain ⟨h2, s2⟩ := dp_py R r2 e2
    cases q <;> cases e
    exact ⟨p, _, h1, h2, s1, s2, kRefl R k (RelD.bl _)⟩
  cases y with
  | tup ds =>
    obtain ⟨u, e1, e⟩ := bindE e
    rw [Option.map_eq_some_iff] at e
    obtain ⟨us, e2, e⟩ := e
    cases e
    obtain ⟨a, xs, rfl, h, q⟩ := r2.tup_
    obtain ⟨rfl, f1⟩ := flV_rel r1 e1
    obtain ⟨rfl, f2⟩ := flVs_rel q e2
    exact .inr ⟨a, xs, rfl, .inr (SqT.of h), f1, f2, kRefl R k (RelD.bl _)⟩
  | _ => exact .inl (lst e)
def rDIn (n : Bool → Bool) : R2 := fun y x H Q => ∃ a o, x = .ref a ∧ DGet H a y o ∧ Q (.bl (n o.isSome)) H
theorem op2_inDc {n : Bool → Bool} : Op2 K (rDIn n) (inDc n) := fun ρ S H x y v w d S' R r1 r2 e Q k => by
  cases y <;> try cases e
  rename_i m
  simp only [inDc, Option.map_eq_some_iff] at e
  obtain ⟨o, e1, e⟩ := e
  cases e
  obtain ⟨a, u, rfl, g, hs, _⟩ := dHas_rel R r2 r1 e1
  exact ⟨a, u, rfl, g, by rw [hs]; exact kRefl R k (RelD.bl _)⟩
/-- a test that is a comparison, from its form as a test -/
theorem et_b2 {r : R2} {g : D → D → Sto → Option (D × Sto)} (h : PE X a (tE X.K fa) → PE X b (tE X.K fb) → PT X e (tTest (tOp r (tE X.K fa) (tE X.K fb)))) (hg : Op2 X.K r g) (ha : EE X a fa) (hb : EE X b fb) : ET X e (tB (b2E g fa fb)) :=
  wkT (h ha hb) fun σ H Q q => by
    obtain ⟨ρ, τ, S, d, S', A, e, k⟩ := q
    obtain ⟨⟨z, S3⟩, e0, ez⟩ := bindE e
    obtain ⟨⟨x, S1⟩, e1, e0⟩ := bindE e0
    obtain ⟨⟨y, S2⟩, e2, e0⟩ := bindE e0
    refine goE A e1 fun ρ1 v1 H1 A1 P1 r1 => goE A1 e2 fun ρ2 v2 H2 A2 P2 r2 => ?_
    refine hg ρ2 S2 H2 x y v1 v2 z S3 A2.s (r1.mono (P2.imm A1.s) P2.pre) r2 e0 _ fun ρ3 u H3 P3 r3 => ?_
    cases z with
    | bl b =>
      cases ez
      exact ⟨_, r3.bl_, k ρ3 H3 ((P1.trans P2).trans P3)⟩
    | _ => cases ez
theorem et_notin {k : Nat} (hc : Ok X k) (ha : EE X a fa) (hb : EE X b fb) (hm : behindInMarks .NotIn b = false := by rfl) : ET X (.Compare a [.NotIn] [b] pos) (tB (b2E notInD fa fb)) :=
  wkT (orT (et_b2 (fun h1 h2 => pt_cmpR (orO (op_notInD hc.units) op_notIn_seq) h1 h2 hm) op2_notInSq ha hb) (wkT (orT (et_b2 (r := rDIn not) (fun h1 h2 => pt_cmp (pc_dnotin (by have := hc.units; omega) h1 h2) hm) op2_inDc ha hb) (et_b2 (r := rInN not) (fun h1 h2 => pt_cmp (pc_nnotin hc.units h1 h2) hm) op2_inDN ha hb)) fun σ H Q q => b2_orT (g := inDd not) (fun x y S o h => orElse_some h) q)) fun σ H Q q =>
    b2_orT (fun x y S o h => orElse_some h) q
end
end SW
namespace SW
open PySem L2

/-! ### slots -/
def wipeT (τ : Tau) : List Nat → Tau
  | [] => τ
  | v :: vs => (wipeT τ vs).set v none
section
variable {X : Cx} {W : WX} {K : PySem.W.Frag} {ρ ρ' : List Addr} {S S' : Sto} {H H' : Hp} {τ : Tau} {σ : St}
theorem RelT.set (h : RelT K ρ H τ σ) {d : D} {v : V} (r : RelD K ρ H d v) (i : Nat) : RelT K ρ H (τ.set i (some d)) (σ.set i (some v)) := by
  refine ⟨by simp [h.1], fun j e q => ?_⟩
  rw [List.getElem?_set] at q
  split at q
  · rename_i hij; subst hij
    split at q
    · rename_i hl; cases q
      exact ⟨v, by rw [List.getElem?_set_self (by rw [← h.1]; exact hl)], r⟩
    · cases q
  · rename_i hij
    obtain ⟨w, e1, r1⟩ := h.2 j e q
    exact ⟨w, by rw [List.getElem?_set_ne hij]; exact e1, r1⟩
theorem RelT.unset (h : RelT K ρ H τ σ) (i : Nat) : RelT K ρ H (τ.set i none) (σ.set i none) := by
  refine ⟨by simp [h.1], fun j e q => ?_⟩
  rw [List.getElem?_set] at q
  split at q
  · split at q <;> cases q
  · rename_i hij
    obtain ⟨w, e1, r1⟩ := h.2 j e q
    exact ⟨w, by rw [List.getElem?_set_ne hij]; exact e1, r1⟩
theorem RelT.wipe (h : RelT K ρ H τ σ) : ∀ vs : List Nat, RelT K ρ H (wipeT τ vs) (L2.wipe σ vs)
  | [] => h
  | v :: vs => by unfold wipeT L2.wipe; exact (RelT.wipe h vs).unset v
theorem wipe_set (σ : St) (i : Nat) (o : Option V) : ∀ {vs : List Nat}, i ∈ vs → wipe (σ.set i o) vs = wipe σ vs
  | v :: vs, h => by
    unfold L2.wipe
    by_cases e : i ∈ vs
    · rw [wipe_set σ i o e]
    · have hv : i = v := by
        rcases List.mem_cons.mp h with q | q
        · exact q
        · exact absurd q e
      subst hv
      have : ∀ vs : List Nat, i ∉ vs → wipe (σ.set i o) vs = (wipe σ vs).set i o := by
        intro vs
        induction vs with
        | nil => intro _; rfl
        | cons w ws ih =>
          intro hn
          simp only [List.mem_cons, not_or] at hn
          unfold L2.wipe
          rw [ih hn.2, List.set_comm _ _ (fun z => hn.1 z)]
      rw [this vs e, List.set_set]
theorem wipe_wipe (σ : St) (vs : List Nat) : ∀ ws : List Nat, (∀ w ∈ ws, w ∈ vs) → wipe (wipe σ ws) vs = wipe σ vs
  | [], _ => rfl
  | w :: ws, h => by
    have e : wipe σ (w :: ws) = (wipe σ ws).set w none := rfl
    rw [e, wipe_set _ w none (h w (by simp)), wipe_wipe σ vs ws fun z hz => h z (by simp [hz])]

/-! ### targets made of names -/
inductive Pat where
  | nm (i : Nat)
  | tp (ps : List Pat)
mutual
def Pat.bind : Pat → D → Tau → Option Tau
  | .nm i, d, τ => some (τ.set i (some d))
  | .tp ps, .tup ds, τ => Pat.binds ps ds τ
  | .tp _, _, _ => none
def Pat.binds : List Pat → List D → Tau → Option Tau
  | [], [], τ => some τ
  | p :: ps, d :: ds, τ => (Pat.bind p d τ).bind (Pat.binds ps ds)
  | _, _, _ => none
end
mutual
def trP (K : PySem.W.Frag) : Pat → TG
  | .nm i => gName i
  | .tp ps => gTup K ps.length (trPs K ps)
def trPs (K : PySem.W.Frag) : List Pat → TGs
  | [] => gNil
  | p :: ps => gCons (trP K p) (trPs K ps)
end
mutual
def Pat.slots : Pat → List Nat
  | .nm i => [i]
  | .tp ps => Pat.slotss ps
def Pat.slotss : List Pat → List Nat
  | [] => []
  | p :: ps => Pat.slots p ++ Pat.slotss ps
end
mutual
theorem pat_ok : ∀ (p : Pat) (d : D) (v : V) (τ τ' : Tau) (σ : St), RelD K ρ H d v → Pat.bind p d τ = some τ' → RelT K ρ H τ σ →
    ∃ σ', (∀ Q, Q σ' H → trP K p v σ H Q) ∧ RelT K ρ H τ' σ' ∧ ∀ vs : List Nat, (∀ i ∈ p.slots, i ∈ vs) → wipe σ' vs = wipe σ vs
  | .nm i, d, v, τ, τ', σ, r, e, t => by
    simp only [Pat.bind, Option.some.injEq] at e
    subst e
    exact ⟨σ.set i (some v), fun Q q => by simp only [trP]; exact q, t.set r i, fun vs h => wipe_set σ i _ (h i (by simp [Pat.slots]))⟩
  | .tp ps, d, v, τ, τ', σ, r, e, t => by
    cases d <;> simp only [Pat.bind] at e <;> try cases e
    obtain ⟨a, xs, rfl, h, q⟩ := r.tup_
    obtain ⟨σ', k1, k2, k3, k4⟩ := pats_ok ps _ xs τ τ' σ q e t
    refine ⟨σ', fun Q z => ?_, k2, fun vs hv => k4 vs (by simpa [Pat.slots] using hv)⟩
    simp only [trP]
    exact ⟨a, xs, rfl, SqT.of h, k3, k1 Q z⟩
theorem pats_ok : ∀ (ps : List Pat) (ds : List D) (vs : List V) (τ τ' : Tau) (σ : St), RelDs K ρ H ds vs → Pat.binds ps ds τ = some τ' → RelT K ρ H τ σ →
    ∃ σ', (∀ Q, Q σ' H → trPs K ps vs σ H Q) ∧ RelT K ρ H τ' σ' ∧ vs.length = ps.length ∧ ∀ ws : List Nat, (∀ i ∈ Pat.slotss ps, i ∈ ws) → wipe σ' ws = wipe σ ws
  | [], ds, vs, τ, τ', σ, r, e, t => by
    cases ds with
    | nil =>
      simp only [Pat.binds, Option.some.injEq] at e
      subst e
      simp only [RelDs] at r; subst r
      exact ⟨σ, fun Q q => by simp only [trPs]; exact ⟨rfl, q⟩, t, rfl, fun _ _ => rfl⟩
    | cons d ds => simp [Pat.binds] at e
  | p :: ps, ds, vs, τ, τ', σ, r, e, t => by
    cases ds with
    | nil => simp [Pat.binds] at e
    | cons d ds =>
      simp only [Pat.binds] at e
      obtain ⟨τ1, e1, e2⟩ := bindE e
      simp only [RelDs] at r
      obtain ⟨x, ys, rfl, r1, r2⟩ := r
      obtain ⟨σ1, a1, a2, a3⟩ := pat_ok p d x τ τ1 σ r1 e1 t
      obtain ⟨σ2, b1, b2, b3, b4⟩ := pats_ok ps ds ys τ1 τ' σ1 r2 e2 a2
      refine ⟨σ2, fun Q q => ?_, b2, by simp [b3], fun ws hw => ?_⟩
      · simp only [trPs]
        exact ⟨x, ys, rfl, a1 _ (b1 Q q)⟩
      · rw [b4 ws fun i hi => hw i (by simp [Pat.slotss, hi]), a3 ws fun i hi => hw i (by simp [Pat.slotss, hi])]
end
theorem eg_nm {i : Nat} {x : Str} {pos : Pos} (h : PG X (.Name x pos) (gName i)) : PG X (.Name x pos) (trP X.K (.nm i)) := by simp only [trP]; exact h
theorem egs_nil : PGs X [] (trPs X.K []) := by simp only [trPs]; exact pgs_nil
theorem egs_cons {e : Expr} {es : List Expr} {p : Pat} {ps : List Pat} (h1 : PG X e (trP X.K p)) (h2 : PGs X es (trPs X.K ps))
    (hs : (assignEach (e :: es) X.env).map (·.2) = assign e X.env :: (assignEach es X.env).map (·.2) := by rfl) : PGs X (e :: es) (trPs X.K (p :: ps)) := by
  simp only [trPs]; exact pgs_cons h1 h2 hs
theorem eg_tp {es : List Expr} {k : Nat} {ps : List Pat} {pos : Pos} (hc : X.calm = true) (h : PGs X es (trPs X.K ps))
    (hn : (assignEach es X.env).length = ps.length := by rfl) (hst : (assignEach es X.env).findIdx? (·.1) = none := by rfl) : PG X (.Tuple es k pos) (trP X.K (.tp ps)) := by
  simp only [trP]; exact pg_tup hc h hn hst

/-! ### targets -/
abbrev EvG := D → Tau → Sto → Option (Tau × Sto)
abbrev EvGs := List D → Tau → Sto → Option (Tau × Sto)
def tG (K : PySem.W.Frag) (g : EvG) : TG := fun v σ H Q => ∃ ρ τ S d τ' S', At K ρ τ S σ H ∧ RelD K ρ H d v ∧ g d τ S = some (τ', S') ∧ ∀ ρ' σ' H', Post K ρ H ρ' H' S' → RelT K ρ' H' τ' σ' → Q σ' H'
def tGs (K : PySem.W.Frag) (g : EvGs) : TGs := fun v σ H Q => ∃ ρ τ S d τ' S', At K ρ τ S σ H ∧ RelDs K ρ H d v ∧ g d τ S = some (τ', S') ∧ ∀ ρ' σ' H', Post K ρ H ρ' H' S' → RelT K ρ' H' τ' σ' → Q σ' H'
theorem wkG {e : Expr} {t t' : TG} (h : PG X e t) (k : ∀ v σ H Q, t' v σ H Q → t v σ H Q) : PG X e t' := ⟨fun pins s σ H v u Q I r q => h.run pins s σ H v u Q I r (k v σ H Q q)⟩
theorem wkGs {e : List Expr} {t t' : TGs} (h : PGs X e t) (k : ∀ v σ H Q, t' v σ H Q → t v σ H Q) : PGs X e t' := ⟨fun pins s σ H v u Q I r q => h.run pins s σ H v u Q I r (k v σ H Q q)⟩
def patG (p : Pat) : EvG := fun d τ S => (p.bind d τ).map fun τ' => (τ', S)
theorem eG_pat {e : Expr} {p : Pat} (h : PG X e (trP X.K p)) : PG X e (tG X.K (patG p)) := wkG h fun v σ H Q q => by
  obtain ⟨ρ, τ, S, d, τ', S', A, r, e, k⟩ := q
  simp only [patG, Option.map_eq_some_iff] at e
  obtain ⟨τ1, e1, e2⟩ := e
  cases e2
  obtain ⟨σ', k1, k2, _⟩ := pat_ok p d v τ _ σ r e1 A.t
  exact k1 Q (k ρ σ' H A.refl k2)
def nilG : EvGs := fun ds τ S => match ds with | [] => some (τ, S) | _ => none
def consG (g : EvG) (gs : EvGs) : EvGs := fun ds τ S => match ds with | d :: ds => (g d τ S).bind fun p => gs ds p.1 p.2 | _ => none
def tupG (gs : EvGs) : EvG := fun d τ S => match d with | .tup ds => gs ds τ S | _ => none
theorem eGs_nil : PGs X [] (tGs X.K nilG) := wkGs pgs_nil fun v σ H Q q => by
  obtain ⟨ρ, τ, S, d, τ', S', A, r, e, k⟩ := q
  cases d with
  | nil => cases e; simp only [RelDs] at r; exact ⟨r, k _ _ _ A.refl A.t⟩
  | cons _ _ => cases e
theorem eGs_cons {e : Expr} {es : List Expr} {g : EvG} {gs : EvGs} (h1 : PG X e (tG X.K g)) (h2 : PGs X es (tGs X.K gs))
    (hs : (assignEach (e :: es) X.env).map (·.2) = assign e X.env :: (assignEach es X.env).map (·.2) := by rfl) : PGs X (e :: es) (tGs X.K (consG g gs)) := wkGs (pgs_cons h1 h2 hs) fun v σ H Q q => by
  obtain ⟨ρ, τ, S, d, τ', S', A, r, e, k⟩ := q
  cases d with
  | nil => cases e
  | cons d ds =>
    obtain ⟨⟨τ1, S1⟩, e1, e2⟩ := bindE e
    simp only [RelDs] at r
    obtain ⟨x, ys, rfl, r1, r2⟩ := r
    refine ⟨x, ys, rfl, ρ, τ, S, d, τ1, S1, A, r1, e1, fun ρ1 σ1 H1 P1 t1 => ⟨ρ1, τ1, S1, ds, τ', S', ⟨P1.rel, t1⟩, r2.mono (P1.imm A.s) P1.pre, e2, fun ρ2 σ2 H2 P2 t2 => k ρ2 σ2 H2 (P1.trans P2) t2⟩⟩
/-- the length of what is stored is seen by the targets -/
theorem eG_tup {es : List Expr} {k n : Nat} {gs : EvGs} {pos : Pos} (hc : X.calm = true) (h : PGs X es (tGs X.K gs)) (hl : ∀ ds τ S o, gs ds τ S = some o → ds.length = n)
    (hn : (assignEach es X.env).length = n := by rfl) (hst : (assignEach es X.env).findIdx? (·.1) = none := by rfl) : PG X (.Tuple es k pos) (tG X.K (tupG gs)) := wkG (pg_tup hc h hn hst) fun v σ H Q q => by
  obtain ⟨ρ, τ, S, d, τ', S', A, r, e, k⟩ := q
  cases d <;> simp only [tupG] at e <;> try cases e
  obtain ⟨a, xs, rfl, h, q⟩ := r.tup_
  exact ⟨a, xs, rfl, SqT.of h, by rw [q.len]; exact hl _ _ _ _ e, ρ, τ, S, _, τ', S', A, q, e, k⟩
theorem len_nilG : ∀ ds τ S o, nilG ds τ S = some o → ds.length = 0 := fun ds τ S o h => by
  cases ds with
  | nil => rfl
  | cons _ _ => cases h
theorem len_consG {g : EvG} {gs : EvGs} {n : Nat} (h : ∀ ds τ S o, gs ds τ S = some o → ds.length = n) : ∀ ds τ S o, consG g gs ds τ S = some o → ds.length = n + 1 := fun ds τ S o e => by
  cases ds with
  | nil => cases e
  | cons d ds =>
    obtain ⟨⟨τ1, S1⟩, e1, e2⟩ := bindE e
    rw [List.length_cons, h _ _ _ _ e2]
/-! o[i] = v -/
def stD (o i v : D) (S : Sto) : Option Sto := match o with
  | .loc n => match S[n]? with
    | some (.lst ds) => (match i with | .int k => some k | _ => none).bind fun k => (ixN ds.length k).map fun j => S.set n (.lst (ds.set j v))
    | some (.dK kvs) => match kOf i with
      | some k => if kvs.length ≤ 10000000 then some (S.set n (.dK (ptK kvs k v))) else none
      | none => if kvs.isEmpty then (nkT i).map fun k => S.set n (.dN (ptK [] k v)) else none
    | some (.dT kvs) => (tOf i).bind fun k => if kvs.length ≤ 10000000 then some (S.set n (.dT (ptK kvs k v))) else none
    | some (.dN kvs) => (nkT i).bind fun k => if kvs.length ≤ 10000000 then some (S.set n (.dN (ptK kvs k v))) else none
    | _ => none
  | _ => none
def rSetD : V → V → V → Hp → (Hp → Prop) → Prop := fun o i v H Q => ∃ a H4, o = .ref a ∧ DPut H a i v H4 ∧ Q H4
theorem set_dict {k : Nat} (hc : Ok X k) : PSet X rSetD := by
  intro pins s σ H o i v ov iv u Q I ro ri rv h
  obtain ⟨a, H4, rfl, g, q⟩ := h
  cases ro
  exact d_setItem (by have := hc.units; omega) I g ri rv fun s' I' => ⟨H4, I', q⟩
theorem set_any {k : Nat} (hc : Ok X k) : PSet X (fun o i v H Q => rSetL o i v H Q ∨ rSetD o i v H Q ∨ rSetN o i v H Q) := by
  intro pins s σ H o i v ov iv u Q I ro ri rv h
  rcases h with h | h | h
  · exact set_list pins s σ H o i v ov iv u Q I ro ri rv h
  · exact set_dict hc pins s σ H o i v ov iv u Q I ro ri rv h
  · exact set_dN hc.units pins s σ H o i v ov iv u Q I ro ri rv h
theorem line_lt {n : Nat} (h : n ≤ 10000000) : n < sizeLine := by rw [sizeLine_eq]; omega
theorem immPut (R : RelS K ρ S H) {n : Nat} {a : Addr} (hn : ρ[n]? = some a) (ho : HO) : Imm H (upd H a ho) := by
  have ma : a ∈ ρ := List.mem_of_getElem? hn
  refine ⟨fun b xs h => ?_, fun b o u hu h => ?_⟩
  · have ne : b ≠ a := fun e => R.tup h (by rw [e]; exact ma)
    rw [upd_ne ne]; exact h
  · have ne : b ≠ a := fun e => R.frz hu h (by rw [e]; exact ma)
    rw [upd_ne ne]; exact h
theorem put_lst (R : RelS K ρ S H) {n : Nat} {a : Addr} (hn : ρ[n]? = some a) (mu : Mut (H a)) {ds : List D} {xs : List V} (r : RelDs K ρ H ds xs) : Post K ρ H ρ (upd H a (.lst xs)) (S.set n (.lst ds)) :=
  R.put hn mu ⟨xs, upd_same, r.mono (immPut R hn _) List.prefix_rfl⟩
theorem RelN.len {kds : List (NestedKey × D)} {xs : List NEnt} (q : RelN K ρ H kds xs) : xs.length = kds.length := by
  have := congrArg List.length q.1
  simpa using this
theorem RelN.put {kds : List (NestedKey × D)} {xs : List NEnt} {kk : NestedKey} {b : Addr} {w y : V} {d : D} (q : RelN K ρ H kds xs) (r : RelD K ρ H d w) (kn : KN H kk y b) : RelN K ρ H (ptK kds kk d) (putN xs kk b w) := by
  have hs := q.isSome (k := kk)
  have ha : (kds.any fun kv => decide (kv.1 = kk)) = (SW.lk kds kk).isSome := by
    clear hs q
    induction kds with
    | nil => rfl
    | cons p l ih =>
      rw [List.any_cons, ih]
      by_cases e : p.1 = kk <;> simp [SW.lk, List.find?_cons, e]
  have ok : ∀ x ∈ putN xs kk b w, NOk H x := putN_ok q.2.2 ⟨kn.nk, kn.dep, kn.pl⟩
  by_cases hc : (SW.lk kds kk).isSome = true
  · have e1 : putN xs kk b w = xs.map (setN kk w) := by unfold putN; rw [hs, if_pos hc]
    have e2 : ptK kds kk d = kds.map fun kv => if kv.1 = kk then (kv.1, d) else kv := by unfold ptK; rw [ha, if_pos hc]
    refine ⟨?_, ?_, ok⟩
    · rw [e1, e2, List.map_map, List.map_map]
      have e1 : xs.map ((fun x => x.1) ∘ setN kk w) = xs.map (·.1) := List.map_congr_left fun x _ => by
        show (setN kk w x).1 = x.1
        unfold setN; split <;> rfl
      have e2 : kds.map ((fun x => x.1) ∘ fun kv => if kv.1 = kk then (kv.1, d) else kv) = kds.map (·.1) := List.map_congr_left fun x _ => by
        show (if x.1 = kk then (x.1, d) else x).1 = x.1
        split <;> rfl
      rw [e1, e2]; exact q.1
    · rw [e1, e2]
      clear hs ha ok hc e1 e2
      induction kds generalizing xs with
      | nil =>
        have : xs = [] := by have := q.1; simpa using this
        subst this; exact .nil
      | cons p l ih =>
        obtain ⟨p1, p2⟩ := p
        obtain ⟨b', v', r', rfl, h1, h2⟩ := q.split
        have := ih h2
        simp only [List.map_cons]
        unfold setN
        by_cases e : p1 = kk
        · simp only [e, if_true]; exact .cons r this
        · simp only [e, if_false]; exact .cons h1 this
  · have e1 : putN xs kk b w = xs ++ [(kk, b, w)] := by unfold putN; rw [hs, if_neg hc]
    have e2 : ptK kds kk d = kds ++ [(kk, d)] := by unfold ptK; rw [ha, if_neg hc]
    refine ⟨?_, ?_, ok⟩
    · rw [e1, e2, List.map_append, List.map_append, q.1]; rfl
    · rw [e1, e2, List.map_append, List.map_append]
      exact q.2.1.app (.one r)
theorem stD_ok (R : RelS K ρ S H) {o i v : D} {x y z : V} (r1 : RelD K ρ H o x) (r2 : RelD K ρ H i y) (r3 : RelD K ρ H v z) (e : stD o i v S = some S') {Q : Hp → Prop} (k : ∀ H', Post K ρ H ρ H' S' → Q H') :
    rSetL x y z H Q ∨ rSetD x y z H Q ∨ rSetN x y z H Q := by
  cases o <;> simp only [stD] at e <;> try cases e
  split at e
  · rename_i ds eo
    obtain ⟨kk, e1, e⟩ := bindE e
    obtain rfl : i = .int kk := by
      split at e1
      · cases e1; rfl
      · cases e1
    obtain ⟨j, e2, e⟩ := Option.map_eq_some_iff.mp e
    subst e
    obtain ⟨a, xs, rfl, hn, h, q⟩ := R.lst eo r1
    rw [r2.int_]
    exact .inl ⟨a, xs, _, j, rfl, rfl, h, by rw [q.len]; exact e2, k _ (put_lst R hn (by rw [h]; trivial) (q.set r3 j))⟩
  · rename_i kvs eo
    split at e
    rotate_left
    · split at e
      · rename_i hk
        obtain ⟨kk, e1, e⟩ := Option.map_eq_some_iff.mp e
        subst e
        have hk : kvs = [] := List.isEmpty_iff.mp hk
        subst hk
        obtain ⟨a, xs, rfl, hn, W, q⟩ := nWr_rel R eo rfl r1
        obtain ⟨b, kn⟩ := nkT_rel r2 e1
        exact .inr (.inr ⟨a, _, rfl, ⟨xs, kk, b, W, kn, line_lt (by rw [q.len]; simp), rfl⟩, k _ (R.put hn W.mut (o := .dN (ptK [] kk v)) ⟨_, upd_same, (q.put r3 kn).mono (immPut R hn _) List.prefix_rfl⟩)⟩)
      · cases e
    rename_i kk e1
    split at e
    · rename_i hl; cases e
      obtain ⟨a, xs, rfl, hn, h, q⟩ := R.dK eo r1
      rw [kOf_rel r2 e1]
      exact .inr (.inl ⟨a, _, rfl, DPut.k h (line_lt (by rw [q.len]; exact hl)), k _ (R.put hn (by rw [h]; trivial) ⟨_, upd_same, (q.put r3).mono (immPut R hn _) List.prefix_rfl⟩)⟩)
    · cases e
  · rename_i kvs eo
    obtain ⟨kk, e1, e⟩ := bindE e
    split at e
    · rename_i hl; cases e
      obtain ⟨a, xs, rfl, hn, h, q⟩ := R.dT eo r1
      obtain ⟨b, rfl, hb⟩ := tOf_rel r2 e1
      exact .inr (.inl ⟨a, _, rfl, DPut.t h hb (line_lt (by rw [q.len]; exact hl)), k _ (R.put hn (by rw [h]; trivial) ⟨_, upd_same, (q.put r3).mono (immPut R hn _) List.prefix_rfl⟩)⟩)
    · cases e
  · rename_i kvs eo
    obtain ⟨kk, e1, e⟩ := bindE e
    split at e
    · rename_i hl; cases e
      obtain ⟨a, xs, rfl, hn, h, q⟩ := R.dN eo r1
      obtain ⟨b, kn⟩ := nkT_rel r2 e1
      exact .inr (.inr ⟨a, _, rfl, ⟨xs, kk, b, ⟨.inl h, q.2.2⟩, kn, line_lt (by rw [q.len]; exact hl), rfl⟩, k _ (R.put hn (by rw [h]; trivial) ⟨_, upd_same, (q.put r3 kn).mono (immPut R hn _) List.prefix_rfl⟩)⟩)
    · cases e
  · cases e
def subG (fo fi : EvE) : EvG := fun d τ S => (fo τ S).bind fun p => (fi τ p.2).bind fun q => (stD p.1 q.1 d q.2).map fun S' => (τ, S')
theorem eG_sub {k : Nat} {o i : Expr} {fo fi : EvE} {pos : Pos} (hc : Ok X k) (ho : EE X o fo) (hi : EE X i fi)
    (ha : ∀ v, assign (.Subscript o i pos) X.env v = (do
      let ov ← holding [v] (eval o X.env)
      let iv ← holding [v, ov] (eval i X.env)
      standAt pos
      holding [v, ov, iv] (setItem ov iv v)
      release [v, ov, iv] []) := by intro _; rfl) : PG X (.Subscript o i pos) (tG X.K (subG fo fi)) := wkG (pg_sub ho hi (set_any hc) ha) fun v σ H Q q => by
  obtain ⟨ρ, τ, S, d, τ', S', A, r, e, k⟩ := q
  obtain ⟨⟨x, S1⟩, e1, e⟩ := bindE e
  obtain ⟨⟨y, S2⟩, e2, e⟩ := bindE e
  rw [Option.map_eq_some_iff] at e
  obtain ⟨S3, e3, e⟩ := e
  cases e
  refine goE A e1 fun ρ1 v1 H1 A1 P1 r1 => goE A1 e2 fun ρ2 v2 H2 A2 P2 r2 => ?_
  have P12 := P1.trans P2
  refine stD_ok A2.s (r1.mono (P2.imm A1.s) P2.pre) r2 (r.mono (P12.imm A.s) P12.pre) e3 fun H3 P3 => ?_
  exact k ρ2 σ H3 (P12.trans P3) (A2.t.mono (P3.imm A2.s) P3.pre)

/-! ### statements -/
def nxS : EvS := fun τ S => some (.nx τ, S)
def brS : EvS := fun τ S => some (.bk τ, S)
def ctS : EvS := fun τ S => some (.ct τ, S)
def seqS (f g : EvS) : EvS := fun τ S => (f τ S).bind fun p => match p.1 with | .nx τ' => g τ' p.2 | o => some (o, p.2)
def exS (f : EvE) : EvS := fun τ S => (f τ S).map fun p => (.nx τ, p.2)
def rtS (f : EvE) : EvS := fun τ S => (f τ S).map fun p => (.rt p.1, p.2)
def ifS (c : EvT) (f g : EvS) : EvS := fun τ S => (c τ S).bind fun p => if p.1 then f τ p.2 else g τ p.2
def asS (f : EvE) (g : EvG) : EvS := fun τ S => (f τ S).bind fun p => (g p.1 τ p.2).map fun q => (.nx q.1, q.2)
/-- a, b = e1, e2: two names, no pair is made -/
def parS (i j : Nat) (f : EvA) : EvS := fun τ S => (f τ S).bind fun p => match p.1 with | [v, w] => some (.nx ((τ.set i (some v)).set j (some w)), p.2) | _ => none
theorem ess_nil : ESs W X [] nxS := wkSs pss_nil fun D σ H q => by
  obtain ⟨ρ, τ, S, o, S', A, e, k⟩ := q
  cases e
  exact k ρ H A.refl σ A.t
theorem ess_one {st : Stmt} {f : EvS} (h : ES W X st f) : ESs W X [st] f := pss_one h
theorem ess_cons {st : Stmt} {rest : List Stmt} {f g : EvS} (h : ES W X st f) (h2 : ESs W X rest g) : ESs W X (st :: rest) (seqS f g) := wkSs (pss_cons h h2) fun D σ H q => by
  obtain ⟨ρ, τ, S, o, S', A, e, k⟩ := q
  obtain ⟨⟨o1, S1⟩, e1, e⟩ := bindE e
  refine ⟨ρ, τ, S, o1, S1, A, e1, fun ρ1 H1 P1 => ?_⟩
  cases o1 with
  | nx τ1 => exact fun σ1 t1 => ⟨ρ1, τ1, S1, o, S', ⟨P1.rel, t1⟩, e, fun ρ2 H2 P2 => k ρ2 H2 (P1.trans P2)⟩
  | rt d => cases e; exact k ρ1 H1 P1
  | bk τ1 => cases e; exact k ρ1 H1 P1
  | ct τ1 => cases e; exact k ρ1 H1 P1
  | ex c fs τ1 => cases e; exact k ρ1 H1 P1
theorem es_expr {e : Expr} {f : EvE} {pos : Pos} (h : EE X e f) (hs : swapsWith e none pos.line X.env = pure false := by rfl) : ES W X (.Expr e pos) (exS f) := wkS (ps_expr h hs) fun D σ H q => by
  obtain ⟨ρ, τ, S, o, S', A, e, k⟩ := q
  simp only [exS, Option.map_eq_some_iff] at e
  obtain ⟨⟨x, S1⟩, e1, e⟩ := e
  cases e
  exact goE A e1 fun ρ1 v1 H1 A1 P1 r1 => k ρ1 H1 P1 σ A1.t
theorem es_ret {e : Expr} {f : EvE} {pos : Pos} (h : EE X e f) : ES W X (.Return (some e) pos) (rtS f) := wkS (ps_ret h) fun D σ H q => by
  obtain ⟨ρ, τ, S, o, S', A, e, k⟩ := q
  simp only [rtS, Option.map_eq_some_iff] at e
  obtain ⟨⟨x, S1⟩, e1, e⟩ := e
  cases e
  exact goE A e1 fun ρ1 v1 H1 A1 P1 r1 => k ρ1 H1 P1 v1 r1
def retN : EvS := fun _ S => some (.rt .non, S)
theorem es_if {c : Expr} {a b : List Stmt} {f : EvT} {g h : EvS} {pos : Pos} (hc : ET X c f) (ha : ESs W X a g) (hb : ESs W X b h) : ES W X (.If c a b pos) (ifS f g h) := wkS (ps_if hc ha hb) fun D σ H q => by
  obtain ⟨ρ, τ, S, o, S', A, e, k⟩ := q
  obtain ⟨⟨x, S1⟩, e1, e⟩ := bindE e
  refine goT A e1 fun ρ1 H1 A1 P1 => ?_
  cases x with
  | true => exact ⟨ρ1, τ, S1, o, S', A1, e, fun ρ2 H2 P2 => k ρ2 H2 (P1.trans P2)⟩
  | false => exact ⟨ρ1, τ, S1, o, S', A1, e, fun ρ2 H2 P2 => k ρ2 H2 (P1.trans P2)⟩
theorem asS_ok {f : EvE} {g : EvG} {t : TE} {D : Ends} {σ : St} {H : Hp} (ht : ∀ σ H Q, tE K f σ H Q → t σ H Q) (q : tS K W (asS f g) D σ H) : tAsg t (tG K g) D σ H := by
  obtain ⟨ρ, τ, S, o, S', A, e, k⟩ := q
  obtain ⟨⟨x, S1⟩, e1, e⟩ := bindE e
  rw [Option.map_eq_some_iff] at e
  obtain ⟨⟨τ2, S2⟩, e2, e⟩ := e
  cases e
  refine ht σ H _ (goE A e1 fun ρ1 v1 H1 A1 P1 r1 => ?_)
  exact ⟨ρ1, τ, S1, x, τ2, _, A1, r1, e2, fun ρ2 σ2 H2 P2 t2 => k ρ2 H2 (P1.trans P2) σ2 t2⟩
theorem es_asg {tg e : Expr} {f : EvE} {g : EvG} {pos : Pos} (he : EE X e f) (hg : PG X tg (tG X.K g)) (hs : swapsWithSole [tg] e pos.line X.env = pure false := by rfl) (hw : swappedStores [tg] e X.env = pure none := by rfl)
    (h1 : (assignEach [tg] X.env).map (·.2) = [assign tg X.env] := by rfl) : ES W X (.Assign [tg] e pos) (asS f g) := wkS (ps_asg he hg hs hw h1) fun D σ H q => asS_ok (fun _ _ _ z => z) q
theorem nameG {i : Nat} {v : V} {σ : St} {H : Hp} {Q : St → Hp → Prop} (h : tG K (patG (.nm i)) v σ H Q) : gName i v σ H Q := by
  obtain ⟨ρ, τ, S, d, τ', S', A, r, e, k⟩ := h
  simp only [patG, Pat.bind, Option.map_some, Option.some.injEq] at e
  cases e
  exact k ρ _ H A.refl (A.t.set r i)
theorem tAsg_mono {t : TE} {g g' : TG} {D : Ends} {σ : St} {H : Hp} (hm : ∀ σ H (Q Q' : VK), (∀ v H', Q v H' → Q' v H') → t σ H Q → t σ H Q') (hg : ∀ v σ H Q, g v σ H Q → g' v σ H Q) (h : tAsg t g D σ H) : tAsg t g' D σ H :=
  hm σ H _ _ (fun v H' q => hg v σ H' _ q) h
theorem tE_mono {f : EvE} (σ : St) (H : Hp) (Q Q' : VK) (h : ∀ v H', Q v H' → Q' v H') (q : tE K f σ H Q) : tE K f σ H Q' := by
  obtain ⟨ρ, τ, S, d, S', A, e, k⟩ := q
  exact ⟨ρ, τ, S, d, S', A, e, fun ρ' v H' P r => h v H' (k ρ' v H' P r)⟩
/-- name = e -/
def stS (i : Nat) (f : EvE) : EvS := asS f (patG (.nm i))
theorem es_set {i : Nat} {x : Str} {e : Expr} {f : EvE} {pos pos' : Pos} (hN : X.N.Nodup) (hi : X.N[i]? = some x) (hx : Loc X.env.scope x) (he : EE X e f) (hs : swapsWith e (some (.Name x pos')) pos.line X.env = pure false := by rfl) (hf : X.fn x = true ∨ X.env.scope.names.lookup x = some .local := by first | exact .inl rfl | exact .inr rfl | assumption) :
    ES W X (.Assign [.Name x pos'] e pos) (stS i f) := wkS (ps_set hN hi hx he hs hf) fun D σ H q =>
  tAsg_mono tE_mono (fun v σ H Q => nameG) (asS_ok (t := tE X.K f) (fun _ _ _ z => z) q)
theorem es_par {i j : Nat} {x y : Str} {a b : Expr} {f : EvA} {px py pt pos : Pos} {kt k2 pt2} (h : PS X (.Assign [.Tuple [.Name x px, .Name y py] kt pt] (.Tuple [a, b] k2 pt2) pos) (tPar i j (tA X.K f))) :
    ES W X (.Assign [.Tuple [.Name x px, .Name y py] kt pt] (.Tuple [a, b] k2 pt2) pos) (parS i j f) := wkS h fun D σ H q => by
  obtain ⟨ρ, τ, S, o, S', A, e, k⟩ := q
  obtain ⟨⟨x, S1⟩, e1, e⟩ := bindE e
  refine goA A e1 fun ρ1 v1 H1 A1 P1 r1 => ?_
  rcases x with _ | ⟨d1, _ | ⟨d2, _ | ⟨d3, r⟩⟩⟩ <;> cases e
  simp only [RelDs] at r1
  obtain ⟨x1, y1, rfl, q1, x2, y2, rfl, q2, rfl⟩ := r1
  exact ⟨x1, x2, rfl, k ρ1 H1 P1 _ ((A1.t.set q1 i).set q2 j)⟩
/-- name op= e -/
def augS (i : Nat) (g : D → D → Sto → Option (D × Sto)) (f : EvE) : EvS := fun τ S => (τ[i]?.join).bind fun x => (f τ S).bind fun p => (g x p.1 p.2).map fun q => (.nx (τ.set i (some q.1)), q.2)
theorem es_aug {i : Nat} {st : Stmt} {f : EvE} {r : R2} {g : D → D → Sto → Option (D × Sto)} (h : PS X st (tAug i (tE X.K f) r)) (hg : Op2 X.K r g) : ES W X st (augS i g f) := wkS h fun D σ H q => by
  obtain ⟨ρ, τ, S, o, S', A, e, k⟩ := q
  obtain ⟨x, e0, e⟩ := bindE e
  obtain ⟨⟨y, S1⟩, e1, e⟩ := bindE e
  rw [Option.map_eq_some_iff] at e
  obtain ⟨⟨z, S2⟩, e2, e⟩ := e
  cases e
  have e0' : τ[i]? = some (some x) := by
    cases q : τ[i]? with
    | none => rw [q] at e0; cases e0
    | some o => rw [q] at e0; cases o <;> cases e0; rfl
  obtain ⟨v, ev, rv⟩ := A.t.2 i x e0'
  refine ⟨v, ev, goE A e1 fun ρ1 v1 H1 A1 P1 r1 => ?_⟩
  refine hg ρ1 S1 H1 x y v v1 z _ A1.s (rv.mono (P1.imm A.s) P1.pre) r1 e2 _ fun ρ2 u H2 P2 r2 => ?_
  exact k ρ2 H2 (P1.trans P2) _ ((A1.t.mono (P2.imm A1.s) P2.pre).set r2 i)
/-! while -/
def whE (c : EvT) (b : EvS) : Nat → Tau → Sto → Option (Out × Sto)
  | 0, _, _ => none
  | n + 1, τ, S => (c τ S).bind fun p => if p.1 then (b τ p.2).bind fun q => (match q.1 with
      | .nx τ2 => whE c b n τ2 q.2
      | .ct τ2 => whE c b n τ2 q.2
      | .bk τ2 => some (.nx τ2, q.2)
      | .rt d => some (.rt d, q.2)
      | .ex c fs τ2 => some (.ex c fs τ2, q.2)) else some (.nx τ, p.2)
def fuel : Nat := 1000000
def whS (c : EvT) (b : EvS) : EvS := whE c b fuel
theorem es_while {c : Expr} {body : List Stmt} {fc : EvT} {fb : EvS} {pos : Pos} (hp : PassesOwn (model X.prog X.w) X.A X.env X.xe) (hc : ET X c fc) (hb : ESs W X body fb) : ES W X (.While c body [] pos) (whS fc fb) := wkS (ps_while hp hc hb) fun D σ H q => by
  obtain ⟨ρ, τ, S, o, S', A, e, k⟩ := q
  refine ⟨fun m σ1 H1 => ∃ ρ1 τ1 S1, At X.K ρ1 τ1 S1 σ1 H1 ∧ Post X.K ρ H ρ1 H1 S1 ∧ whE fc fb m τ1 S1 = some (o, S'), ⟨fuel, ρ, τ, S, A, A.refl, e⟩, ?_⟩
  rintro m σ1 H1 ⟨ρ1, τ1, S1, A1, P1, e1⟩
  cases m with
  | zero => cases e1
  | succ m =>
    obtain ⟨⟨x, S2⟩, e2, e1⟩ := bindE e1
    refine goT A1 e2 fun ρ2 H2 A2 P2 => ?_
    cases x with
    | false => cases e1; exact k ρ2 H2 (P1.trans P2) σ1 A2.t
    | true =>
      rw [if_pos rfl] at e1 ⊢
      obtain ⟨⟨o3, S3⟩, e3, e1⟩ := bindE e1
      refine ⟨fun σ' H' => ∃ ρ1 τ1 S1, At X.K ρ1 τ1 S1 σ' H' ∧ Post X.K ρ H ρ1 H' S1 ∧ whE fc fb m τ1 S1 = some (o, S'), fun σ' H' q => ⟨m, Nat.lt_succ_self m, q⟩, ρ2, τ1, S2, o3, S3, A2, e3, fun ρ3 H3 P3 => ?_⟩
      have PP := (P1.trans P2).trans P3
      cases o3 with
      | nx τ3 => exact fun σ3 t3 => ⟨ρ3, τ3, S3, ⟨P3.rel, t3⟩, PP, e1⟩
      | ct τ3 => exact fun σ3 t3 => ⟨ρ3, τ3, S3, ⟨P3.rel, t3⟩, PP, e1⟩
      | bk τ3 => cases e1; exact fun σ3 t3 => k ρ3 H3 PP σ3 t3
      | rt d => cases e1; exact fun v r => k ρ3 H3 PP v r
      | ex c fs τ3 => cases e1; exact fun σ3 t3 => k ρ3 H3 PP σ3 t3
end
end SW
namespace SW
open PySem L2

/-! ### what is walked -/
structure Src where
  len : Nat
  get : Sto → Nat → Option D
  fin : Sto → Bool
abbrev EvI := Tau → Sto → Option (Src × Sto)
def Src.fixed (ds : List D) : Src := ⟨ds.length, fun _ i => ds[i]?, fun _ => true⟩
def lenAt (S : Sto) (n : Nat) : Option Nat := match S[n]? with | some (.lst ds) => some ds.length | _ => none
def itemAt (S : Sto) (n i : Nat) : Option D := match S[n]? with | some (.lst ds) => ds[i]? | _ => none
def Src.live (n l : Nat) : Src := ⟨l, fun S i => if lenAt S n = some l then itemAt S n i else none, fun S => lenAt S n = some l⟩
/-- a list, a tuple -/
def srcOf (d : D) (S : Sto) : Option Src := match d with
  | .tup ds => some (.fixed ds)
  | .fl ds => some (.fixed ds)
  | .loc n => (lenAt S n).map fun l => .live n l
  | _ => none
structure Walks (K : PySem.W.Frag) (ρ0 : List Addr) (H0 : Hp) (J : It) (s : Src) : Prop where
  go : ∀ (ρ : List Addr) (S : Sto) (H : Hp) (i : Nat) (d : D), RelS K ρ S H → ρ0 <+: ρ → ImmL H0 H → i < s.len → s.get S i = some d → J.go i H ∧ ∀ x H', J.yld i H x H' → Post K ρ H ρ H' S ∧ RelD K ρ H' d x
  stop : ∀ (ρ : List Addr) (S : Sto) (H : Hp), RelS K ρ S H → ρ0 <+: ρ → ImmL H0 H → s.fin S = true → J.stop s.len H
def tI (K : PySem.W.Frag) (f : EvI) : TI := fun σ H R => ∃ ρ τ S s S', At K ρ τ S σ H ∧ f τ S = some (s, S') ∧ ∀ ρ' J H', Post K ρ H ρ' H' S' → Walks K ρ' H' J s → R J H'
abbrev EI (X : Cx) (tg e : Expr) (f : EvI) : Prop := PI X tg e (tI X.K f)
section
variable {X : Cx} {W : WX} {K : PySem.W.Frag} {ρ ρ' : List Addr} {S S' : Sto} {H H' : Hp} {τ : Tau} {σ : St} {tg e : Expr}
theorem wkI {t t' : TI} (h : PI X tg e t) (k : ∀ σ H R, t' σ H R → t σ H R) : PI X tg e t' := ⟨fun pins s σ H R I q => h.run pins s σ H R I (k σ H R q)⟩
theorem orI {t t' : TI} (h : PI X tg e t) (h' : PI X tg e t') : PI X tg e (fun σ H R => t σ H R ∨ t' σ H R) := ⟨fun pins s σ H R I q => q.elim (h.run pins s σ H R I) (h'.run pins s σ H R I)⟩
theorem lenAt_some {n l : Nat} (h : lenAt S n = some l) : ∃ ds, S[n]? = some (.lst ds) ∧ ds.length = l := by
  unfold lenAt at h
  split at h
  · rename_i ds e; exact ⟨ds, e, Option.some.inj h⟩
  · cases h
/-- the list at a place of the store, as it stands -/
theorem walk_live {n l : Nat} {a : Addr} (R0 : RelS K ρ S H) (ha : ρ[n]? = some a) (hl : lenAt S n = some l) (hx : ∀ (X : Nat), True) : Walks K ρ H (Itl K a) (.live n l) where
  go := fun ρ1 S1 H1 i d R1 p1 i1 hi hg => by
    simp only [Src.live] at hg
    split at hg
    · rename_i hl1
      obtain ⟨ds, e1, e2⟩ := lenAt_some hl1
      simp only [itemAt, e1] at hg
      obtain ⟨b, hb, xs, h1, q1⟩ := R1.obj n _ e1
      rw [prefix_get p1 ha] at hb; cases hb
      obtain ⟨v, hv, r⟩ := q1.get hg
      refine ⟨⟨xs, v, SqL.of h1, hv⟩, fun x H' ⟨eH, k⟩ => ?_⟩
      subst eH
      have := k xs (SqL.of h1)
      rw [hv] at this; cases this
      exact ⟨Post.refl R1, r⟩
    · cases hg
  stop := fun ρ1 S1 H1 R1 p1 i1 hf => by
    simp only [Src.live, decide_eq_true_eq] at hf
    obtain ⟨ds, e1, e2⟩ := lenAt_some hf
    obtain ⟨b, hb, xs, h1, q1⟩ := R1.obj n _ e1
    rw [prefix_get p1 ha] at hb; cases hb
    exact ⟨xs, SqL.of h1, by rw [q1.len, e2]; exact Nat.le_refl _⟩
theorem walk_tup {a : Addr} {xs : List V} {ds : List D} (h : H a = some (.tup xs)) (q : RelDs K ρ H ds xs) : Walks K ρ H (Itt K a) (.fixed ds) where
  go := fun ρ1 S1 H1 i d R1 p1 i1 hi hg => by
    obtain ⟨v, hv, r⟩ := (q.mono i1.toImm p1).get hg
    have h1 := i1.tup _ _ h
    refine ⟨⟨xs, v, SqT.of h1, hv⟩, fun x H' ⟨eH, k⟩ => ?_⟩
    subst eH
    have := k xs (SqT.of h1)
    rw [hv] at this; cases this
    exact ⟨Post.refl R1, r⟩
  stop := fun ρ1 S1 H1 R1 p1 i1 hf => ⟨xs, SqT.of (i1.tup _ _ h), by rw [q.len]; exact Nat.le_refl _⟩
theorem walk_fl {a : Addr} {xs : List V} {ds : List D} (h : FzL K H a xs) (q : RelDs K ρ H ds xs) : Walks K ρ H (Itl K a) (.fixed ds) where
  go := fun ρ1 S1 H1 i d R1 p1 i1 hi hg => by
    obtain ⟨v, hv, r⟩ := (q.mono i1.toImm p1).get hg
    have h1 := (i1.fzL h).sqL
    refine ⟨⟨xs, v, h1, hv⟩, fun x H' ⟨eH, k⟩ => ?_⟩
    subst eH
    have := k xs h1
    rw [hv] at this; cases this
    exact ⟨Post.refl R1, r⟩
  stop := fun ρ1 S1 H1 R1 p1 i1 hf => ⟨xs, (i1.fzL h).sqL, by rw [q.len]; exact Nat.le_refl _⟩
/-- for x in a list or a tuple -/
def sqI (f : EvE) : EvI := fun τ S => (f τ S).bind fun p => (srcOf p.1 p.2).map fun s => (s, p.2)
theorem ei_seq {f : EvE} (h : EE X e f) : EI X tg e (sqI f) := wkI (orI (pi_list h) (pi_tup h)) fun σ H R q => by
  obtain ⟨ρ, τ, S, s, S', A, e, k⟩ := q
  obtain ⟨⟨d, S1⟩, e1, e⟩ := bindE e
  obtain ⟨s', e2, e⟩ := Option.map_eq_some_iff.mp e
  cases e
  cases d <;> simp only [srcOf] at e2 <;> try cases e2
  · refine .inr (goE A e1 fun ρ1 v1 H1 A1 P1 r1 => ?_)
    obtain ⟨a, xs, rfl, h, q⟩ := r1.tup_
    exact ⟨a, rfl, ⟨xs, SqT.of h⟩, k _ _ _ P1 (walk_tup h q)⟩
  · refine .inl (goE A e1 fun ρ1 v1 H1 A1 P1 r1 => ?_)
    obtain ⟨a, xs, rfl, h, q⟩ := r1.fl_
    exact ⟨a, rfl, ⟨xs, h.sqL⟩, k _ _ _ P1 (walk_fl h q)⟩
  · obtain ⟨l, e3, e4⟩ := Option.map_eq_some_iff.mp e2
    subst e4
    refine .inl (goE A e1 fun ρ1 v1 H1 A1 P1 r1 => ?_)
    obtain ⟨ds, e5, e6⟩ := lenAt_some e3
    obtain ⟨a, xs, rfl, ha, h, q⟩ := A1.s.lst e5 r1
    exact ⟨a, rfl, ⟨xs, SqL.of h⟩, k _ _ _ P1 (walk_live A1.s ha e3 fun _ => trivial)⟩
/-! ranges -/
def rng (lo : Int) (n : Nat) : List D := (List.range n).map fun (i : Nat) => D.int (lo + (i : Int))
theorem rng_len (lo : Int) (n : Nat) : (rng lo n).length = n := by simp [rng]
theorem rng_get (lo : Int) (n i : Nat) : (rng lo n)[i]? = if i < n then some (.int (lo + (i : Int))) else none := by
  unfold rng
  rw [List.getElem?_map]
  by_cases h : i < n
  · rw [List.getElem?_range h, if_pos h]; rfl
  · rw [List.getElem?_eq_none (by simpa using h), if_neg h]; rfl
theorem walk_rng {lo : Int} {n : Nat} : Walks K ρ H (Itr lo n) (.fixed (rng lo n)) where
  go := fun ρ1 S1 H1 i d R1 p1 i1 hi hg => by
    simp only [Src.fixed, rng_len] at hi
    simp only [Src.fixed, rng_get, if_pos hi, Option.some.injEq] at hg
    subst hg
    refine ⟨hi, fun x H' ⟨eH, k⟩ => ?_⟩
    subst eH k
    exact ⟨Post.refl R1, RelD.int _⟩
  stop := fun ρ1 S1 H1 R1 p1 i1 hf => by simp only [Src.fixed, rng_len]; exact Nat.le_refl _
def big62 (i : Int) : Bool := decide (-(2 ^ 62) ≤ i) && decide (i < 2 ^ 62)
theorem big62_ok {i : Int} (h : big62 i = true) : -(2 ^ 62) ≤ i ∧ i < 2 ^ 62 := by simpa [big62] using h
def rgI1 (f : EvE) : EvI := fun τ S => (f τ S).bind fun p => match p.1 with | .int j => if big62 j then some (.fixed (rng 0 j.toNat), p.2) else none | _ => none
def rgI2 (f g : EvE) : EvI := fun τ S => (f τ S).bind fun p => (g τ p.2).bind fun q => match p.1, q.1 with
  | .int i, .int j => if big62 i && big62 j then some (.fixed (rng i (j - i).toNat), q.2) else none
  | _, _ => none
theorem ei_range1 {a : Expr} {fa : EvE} {p pos : Pos} (hg : Gl X "range") (hm : X.mg "range" = none) (ha : EE X a fa) (hs : starEach [a] X.env = [(false, eval a X.env)] := by rfl) : EI X tg (.Call (.Name "range" p) [a] [] pos) (rgI1 fa) :=
  wkI (pi_range1 hg hm (ea_cons ha ea_nil hs) hs) fun σ H R q => by
    obtain ⟨ρ, τ, S, s, S', A, e, k⟩ := q
    obtain ⟨⟨d, S1⟩, e1, e⟩ := bindE e
    cases d <;> simp only at e <;> try cases e
    split at e
    · rename_i hb; cases e
      refine goA (d := [.int _]) A (by show (fa τ S).bind _ = _; rw [e1]; rfl) fun ρ1 vs H1 A1 P1 r1 => ?_
      simp only [RelDs] at r1
      obtain ⟨x, ys, rfl, q, rfl⟩ := r1
      rw [q.int_]
      obtain ⟨b1, b2⟩ := big62_ok hb
      exact ⟨_, rfl, b1, b2, k _ _ _ P1 walk_rng⟩
    · cases e
theorem ei_range2 {a b : Expr} {fa fb : EvE} {p pos : Pos} (hg : Gl X "range") (hm : X.mg "range" = none) (ha : EE X a fa) (hb : EE X b fb) (h : PA X [a, b] (tA X.K (consA fa (consA fb nilA))) → PI X tg (.Call (.Name "range" p) [a, b] [] pos) (iRng2 (tA X.K (consA fa (consA fb nilA)))))
    (hs : starEach [a, b] X.env = (false, eval a X.env) :: starEach [b] X.env := by rfl) (hs2 : starEach [b] X.env = (false, eval b X.env) :: starEach [] X.env := by rfl) : EI X tg (.Call (.Name "range" p) [a, b] [] pos) (rgI2 fa fb) :=
  wkI (h (ea_cons ha (ea_cons hb ea_nil hs2) hs)) fun σ H R q => by
    obtain ⟨ρ, τ, S, s, S', A, e, k⟩ := q
    obtain ⟨⟨d, S1⟩, e1, e⟩ := bindE e
    obtain ⟨⟨d2, S2⟩, e2, e⟩ := bindE e
    cases d <;> cases d2 <;> simp only at e <;> try cases e
    split at e
    · rename_i hb; cases e
      simp only [Bool.and_eq_true] at hb
      refine goA (d := [.int _, .int _]) A (by show (fa τ S).bind _ = _; rw [e1]; show ((fb τ S1).bind _).bind _ = _; rw [e2]; rfl) fun ρ1 vs H1 A1 P1 r1 => ?_
      simp only [RelDs] at r1
      obtain ⟨x, ys, rfl, q, y, zs, rfl, q2, rfl⟩ := r1
      rw [q.int_, q2.int_]
      obtain ⟨b1, b2⟩ := big62_ok hb.1
      obtain ⟨b3, b4⟩ := big62_ok hb.2
      exact ⟨_, _, rfl, ⟨b1, b2, b3, b4⟩, k _ _ _ P1 walk_rng⟩
    · cases e
/-! for -/
def loE (s : Src) (g : D → Tau → Option Tau) (b : EvS) : Nat → Nat → Tau → Sto → Option (Out × Sto)
  | 0, _, τ, S => if s.fin S then some (.nx τ, S) else none
  | m + 1, i, τ, S => (s.get S i).bind fun d => (g d τ).bind fun τ1 => (b τ1 S).bind fun q => (match q.1 with
      | .nx τ2 => loE s g b m (i + 1) τ2 q.2
      | .ct τ2 => loE s g b m (i + 1) τ2 q.2
      | .bk τ2 => some (.nx τ2, q.2)
      | .rt d => some (.rt d, q.2)
      | .ex c fs τ2 => some (.ex c fs τ2, q.2))
def forS (f : EvI) (p : Pat) (b : EvS) : EvS := fun τ S => (f τ S).bind fun r => loE r.1 p.bind b r.1.len 0 τ r.2
theorem es_for {iter : Expr} {body : List Stmt} {fi : EvI} {p : Pat} {fb : EvS} {pos : Pos} (hp : PassesOwn (model X.prog X.w) X.A X.env X.xe) (hc : X.calm = true) (hi : EI X tg iter fi) (hg : PG X tg (trP X.K p)) (hb : ESs W X body fb)
    (hs : ∀ x, foldedSetIterable iter X.env x = pure x := by intro _; rfl) : ES W X (.For tg iter body [] pos) (forS fi p fb) := wkS (ps_for hp hc hi hg hb hs) fun D σ H q => by
  obtain ⟨ρ, τ, S, o, S', A, e, k⟩ := q
  obtain ⟨⟨s, S1⟩, e1, e⟩ := bindE e
  refine ⟨ρ, τ, S, s, S1, A, e1, fun ρ1 J H1 P1 wk => ?_⟩
  refine ⟨fun i m σ2 H2 => ∃ ρ2 τ2 S2, At X.K ρ2 τ2 S2 σ2 H2 ∧ Post X.K ρ H ρ2 H2 S2 ∧ ρ1 <+: ρ2 ∧ ImmL H1 H2 ∧ i + m = s.len ∧ loE s p.bind fb m i τ2 S2 = some (o, S'),
    ⟨s.len, ρ1, τ, S1, A.go P1, P1, List.prefix_rfl, ImmL.refl _, by omega, e⟩, ?_⟩
  rintro i m σ2 H2 ⟨ρ2, τ2, S2, A2, P2, pr, im, hl, e2⟩
  cases m with
  | zero =>
    simp only [loE] at e2
    split at e2
    · rename_i hf; cases e2
      have hi : i = s.len := by omega
      subst hi
      exact .inl ⟨wk.stop ρ2 _ H2 A2.s pr im hf, k ρ2 H2 P2 σ2 A2.t⟩
    · cases e2
  | succ m =>
    obtain ⟨d, e3, e2⟩ := bindE e2
    obtain ⟨τ3, e4, e2⟩ := bindE e2
    obtain ⟨⟨o5, S5⟩, e5, e2⟩ := bindE e2
    obtain ⟨g1, g2⟩ := wk.go ρ2 S2 H2 i d A2.s pr im (by omega) e3
    refine .inr ⟨g1, fun σ' H' => ∃ ρ2 τ2 S2, At X.K ρ2 τ2 S2 σ' H' ∧ Post X.K ρ H ρ2 H' S2 ∧ ρ1 <+: ρ2 ∧ ImmL H1 H' ∧ i + 1 + m = s.len ∧ loE s p.bind fb m (i + 1) τ2 S2 = some (o, S'),
      fun σ' H' q => ⟨m, Nat.lt_succ_self m, q⟩, fun x H3 y => ?_⟩
    obtain ⟨P3, r3⟩ := g2 x H3 y
    obtain ⟨σ4, k1, k2, _⟩ := pat_ok p d x τ2 τ3 σ2 r3 e4 (A2.t.mono (P3.imm A2.s) P3.pre)
    refine k1 _ ⟨ρ2, τ3, S2, o5, S5, ⟨P3.rel, k2⟩, e5, fun ρ6 H6 P6 => ?_⟩
    have PP := (P2.trans P3).trans P6
    have im' := (im.trans (P3.immL A2.s)).trans (P6.immL P3.rel)
    cases o5 with
    | nx τ6 => exact fun σ6 t6 => ⟨ρ6, τ6, S5, ⟨P6.rel, t6⟩, PP, pr.trans P6.pre, im', by omega, e2⟩
    | ct τ6 => exact fun σ6 t6 => ⟨ρ6, τ6, S5, ⟨P6.rel, t6⟩, PP, pr.trans P6.pre, im', by omega, e2⟩
    | bk τ6 => cases e2; exact fun σ6 t6 => k ρ6 H6 PP σ6 t6
    | rt d => cases e2; exact fun v r => k ρ6 H6 PP v r
    | ex c fs τ6 => cases e2; exact fun σ6 t6 => k ρ6 H6 PP σ6 t6
/-! comprehensions -/
def lcL (s : Src) (g : D → Tau → Option Tau) (t : EvT) (f : EvE) (τ : Tau) : Nat → Nat → List D → Sto → Option (List D × Sto)
  | 0, _, acc, S => if s.fin S then some (acc, S) else none
  | m + 1, i, acc, S => (s.get S i).bind fun d => (g d τ).bind fun τ1 => (t τ1 S).bind fun q => if q.1 then (f τ1 q.2).bind fun r => if acc.length ≤ 10000000 then lcL s g t f τ m (i + 1) (acc ++ [r.1]) r.2 else none
      else lcL s g t f τ m (i + 1) acc q.2
def lcE (fi : EvI) (p : Pat) (t : EvT) (f : EvE) (vs : List Nat) : EvE := fun τ S => (fi τ S).bind fun r => (lcL r.1 p.bind t f (wipeT τ vs) r.1.len 0 [] r.2).map fun q => newD (.lst q.1) q.2
def yesT : EvT := fun _ S => some (true, S)
theorem et_yes : PTs X [] (tT X.K yesT) := ⟨fun pins s σ H Q I q => pts_nil.run pins s σ H Q I (by
  obtain ⟨ρ, τ, S, d, S', A, e, k⟩ := q
  cases e
  exact k ρ H A.refl)⟩
theorem et_one {c : Expr} {f : EvT} (h : ET X c f) : PTs X [c] (tT X.K f) := pts_one h
/-- a list beside the store that is grown -/
theorem RelS.beside (R : RelS K ρ S H) {p : Addr} {xs ys : List V} (hp : p ∉ ρ) (h : H p = some (.lst xs)) : RelS K ρ S (upd H p (.lst ys)) ∧ Imm H (upd H p (.lst ys)) := by
  have im : Imm H (upd H p (.lst ys)) := ⟨fun a zs q => by
      have ne : a ≠ p := fun e => by rw [e, h] at q; cases q
      rw [upd_ne ne]; exact q, fun a o u _ q => by
      have ne : a ≠ p := fun e => by rw [e, h] at q; cases q
      rw [upd_ne ne]; exact q⟩
  refine ⟨⟨R.len, R.nd, fun n ob e => ?_⟩, im⟩
  obtain ⟨a, ha, q⟩ := R.obj n ob e
  have ne : a ≠ p := fun e => hp (by rw [← e]; exact List.mem_of_getElem? ha)
  exact ⟨a, ha, q.mono im List.prefix_rfl (upd_ne ne)⟩
/-- .. becomes an object of the store -/
theorem RelS.adopt (R : RelS K ρ S H) {p : Addr} {ds : List D} {xs : List V} (hp : p ∉ ρ) (h : H p = some (.lst xs)) (r : RelDs K ρ H ds xs) : RelS K (ρ ++ [p]) (S ++ [.lst ds]) H := by
  refine ⟨by simp [R.len], ?_, fun n ob e => ?_⟩
  · rw [List.nodup_append]
    refine ⟨R.nd, by simp, fun a ha b hb => ?_⟩
    simp at hb; subst hb
    exact fun e => hp (e ▸ ha)
  · rw [List.getElem?_append] at e
    split at e
    · obtain ⟨a, ha, q'⟩ := R.obj n ob e
      exact ⟨a, prefix_get (List.prefix_append _ _) ha, q'.mono (Imm.refl _) (List.prefix_append _ _) rfl⟩
    · rename_i hn
      have hn' : n = S.length := by
        cases hk : n - S.length with
        | zero => omega
        | succ k => rw [hk] at e; simp at e
      subst hn'
      simp at e; subst e
      exact ⟨p, by rw [← R.len]; simp, xs, h, r.mono (Imm.refl _) (List.prefix_append _ _)⟩
theorem lc_ok {fi : EvI} {p : Pat} {t : EvT} {f : EvE} {vs : List Nat} (hv : ∀ i ∈ p.slots, i ∈ vs) (σ : St) (H : Hp) (Q : VK) (q : tE K (lcE fi p t f vs) σ H Q) : tLc (tI K fi) (trP K p) (tT K t) (tE K f) vs σ H Q := by
  obtain ⟨ρ, τ, S, o, S', A, e, k⟩ := q
  obtain ⟨⟨s, S1⟩, e1, e⟩ := bindE e
  obtain ⟨⟨res, S2⟩, e2, e⟩ := Option.map_eq_some_iff.mp e
  simp only [newD, Prod.mk.injEq] at e
  obtain ⟨rfl, rfl⟩ := e
  refine ⟨ρ, τ, S, s, S1, A, e1, fun ρ1 J H1 P1 wk Dd hD => ?_⟩
  have A1 := A.go P1
  have P1' := A1.s.side hD (.lst [])
  have hDρ : Dd ∉ ρ1 := fun m => A1.s.ne_n m hD
  refine ⟨fun i m H2 => ∃ ρ2 S2' acc xs, RelS K ρ2 S2' H2 ∧ Post K ρ1 H1 ρ2 H2 S2' ∧ H2 Dd = some (.lst xs) ∧ Dd ∉ ρ2 ∧ RelDs K ρ2 H2 acc xs ∧ i + m = s.len ∧ lcL s p.bind t f (wipeT τ vs) m i acc S2' = some (res, S2),
    ⟨s.len, ρ1, S1, [], [], P1'.rel, P1', upd_same, hDρ, .nil, by omega, e2⟩, ?_⟩
  rintro i m H2 ⟨ρ2, S3, acc, xs, R2, P2, h2, hn2, q2, hl, e3⟩
  have im2 := P2.imm A1.s
  cases m with
  | zero =>
    simp only [lcL] at e3
    split at e3
    · rename_i hf; cases e3
      have hi : i = s.len := by omega
      subst hi
      refine .inl ⟨wk.stop ρ2 _ H2 R2 P2.pre (P2.immL A1.s) hf, ?_⟩
      have R3 := R2.adopt hn2 h2 q2
      refine k (ρ2 ++ [Dd]) _ H2 (P1.trans ⟨R3, P2.pre.trans (List.prefix_append _ _), fun a ob hna h => ?_, P2.lck⟩) (RelD.loc (by rw [← R2.len]; simp))
      obtain ⟨n1, h1⟩ := P2.keep a ob hna h
      refine ⟨?_, h1⟩
      rw [List.mem_append]; rintro (m | m)
      · exact n1 m
      · simp at m; rw [m, hD] at h; cases h
    · cases e3
  | succ m =>
    obtain ⟨d, e4, e3⟩ := bindE e3
    obtain ⟨τ4, e5, e3⟩ := bindE e3
    obtain ⟨⟨b, S5⟩, e6, e3⟩ := bindE e3
    obtain ⟨g1, g2⟩ := wk.go ρ2 S3 H2 i d R2 P2.pre (P2.immL A1.s) (by omega) e4
    refine .inr ⟨g1, fun H' => ∃ ρ2 S2' acc xs, RelS K ρ2 S2' H' ∧ Post K ρ1 H1 ρ2 H' S2' ∧ H' Dd = some (.lst xs) ∧ Dd ∉ ρ2 ∧ RelDs K ρ2 H' acc xs ∧ i + 1 + m = s.len ∧ lcL s p.bind t f (wipeT τ vs) m (i + 1) acc S2' = some (res, S2),
      fun H' q => ⟨m, Nat.lt_succ_self m, q⟩, fun x H3 y => ?_⟩
    obtain ⟨P3, r3⟩ := g2 x H3 y
    have im3 := P3.imm R2
    have T3 : RelT K ρ2 H3 (wipeT τ vs) (wipe σ vs) := ((A1.t.mono (im2.trans im3) (P2.pre.trans P3.pre)).wipe vs)
    obtain ⟨σ4, k1, k2, k3⟩ := pat_ok p d x _ τ4 _ r3 e5 T3
    obtain ⟨hn3, h3⟩ := P3.keep Dd _ hn2 h2
    refine k1 _ ⟨by rw [k3 vs hv]; exact wipe_wipe σ vs vs fun _ h => h, ρ2, τ4, S3, b, S5, ⟨P3.rel, k2⟩, e6, fun ρ6 H6 P6 => ?_⟩
    obtain ⟨hn6, h6⟩ := P6.keep Dd _ hn3 h3
    have P26 := (P2.trans P3).trans P6
    have im6 := im3.trans (P6.imm P3.rel)
    have pr6 := P3.pre.trans P6.pre
    cases b with
    | false => exact ⟨ρ6, S5, acc, xs, P6.rel, P26, h6, hn6, q2.mono im6 pr6, by omega, e3⟩
    | true =>
      rw [if_pos rfl] at e3 ⊢
      obtain ⟨⟨z, S7⟩, e7, e3⟩ := bindE e3
      split at e3
      · rename_i hl2
        refine ⟨ρ6, τ4, S5, z, S7, ⟨P6.rel, k2.mono (P6.imm P3.rel) P6.pre⟩, e7, fun ρ8 v8 H8 P8 r8 => ?_⟩
        obtain ⟨hn8, h8⟩ := P8.keep Dd _ hn6 h6
        have q8 := q2.mono (im6.trans (P8.imm P6.rel)) (pr6.trans P8.pre)
        have P28 := P26.trans P8
        obtain ⟨R9, im9⟩ := P8.rel.beside (ys := xs ++ [v8]) hn8 h8
        refine ⟨xs, h8, line_lt (by rw [q8.len]; exact hl2), ρ8, S7, acc ++ [z], xs ++ [v8], R9, ⟨R9, P28.pre, fun a ob hna h => ?_, fun a ob u h => by rw [upd_ne (fun e => by rw [e, hD] at h; cases h)]; exact P28.lck a ob u h⟩, upd_same, hn8, (q8.app (.one r8)).mono im9 List.prefix_rfl, by omega, e3⟩
        obtain ⟨n1, h1⟩ := P28.keep a ob hna h
        have ne : a ≠ Dd := fun e => by rw [e, hD] at h; cases h
        exact ⟨n1, by rw [upd_ne ne]; exact h1⟩
      · cases e3
theorem ee_lc {elt tg iter : Expr} {ifs : List Expr} {scope : Scope} {own : List (Str × Nat)} {pos : Pos} {fi : EvI} {p : Pat} {t : EvT} {f : EvE} (hc : X.calm = true) (hN : X.N.Nodup) (hi : EI X tg iter fi) (ok : BlkOk X.N X.env.scope scope own) (hv : ∀ i ∈ p.slots, i ∈ own.map (·.2))
    (hg : ∀ (s : Shared) (H : Hp) (C : Addr) (cl : List (Str × Addr)) (fp : List Addr), PG (X.blk s H scope (compEnvC scope cl C X.env) fp) tg (trP X.K p)) (ht : ∀ (s : Shared) (H : Hp) (C : Addr) (cl : List (Str × Addr)) (fp : List Addr), PTs (X.blk s H scope (compEnvC scope cl C X.env) fp) ifs (tT X.K t))
    (he : ∀ (s : Shared) (H : Hp) (C : Addr) (cl : List (Str × Addr)) (fp : List Addr), PE (X.blk s H scope (compEnvC scope cl C X.env) fp) elt (tE X.K f)) (hs : ∀ x, foldedSetIterable iter X.env x = pure x := by intro _; rfl) :
    EE X (.ListComp elt [⟨tg, iter, ifs, 0⟩] scope pos) (lcE fi p t f (own.map (·.2))) := wkE (pe_lc hc hN hi ok hg ht he hs) fun σ H Q q => lc_ok hv σ H Q q
theorem es_setLc {i : Nat} {y : Str} {py : Pos} {elt tg iter : Expr} {ifs : List Expr} {scope : Scope} {own : List (Str × Nat)} {pos spos : Pos} {fi : EvI} {p : Pat} {t : EvT} {f : EvE} (hc : X.calm = true) (hN : X.N.Nodup) (hy : X.N[i]? = some y) (hyl : X.env.scope.names.lookup y = some .local)
    (hsw : swapsWith (.ListComp elt [⟨tg, iter, ifs, 0⟩] scope pos) (some (.Name y py)) spos.line X.env = pure true) (hi : EI X tg iter fi) (ok : BlkOk X.N X.env.scope scope own) (hv : ∀ i ∈ p.slots, i ∈ own.map (·.2))
    (hg : ∀ (s : Shared) (H : Hp) (C : Addr) (cl : List (Str × Addr)) (fp : List Addr), PG (X.blk s H scope (compEnvC scope cl C X.env) fp) tg (trP X.K p)) (ht : ∀ (s : Shared) (H : Hp) (C : Addr) (cl : List (Str × Addr)) (fp : List Addr), PTs (X.blk s H scope (compEnvC scope cl C X.env) fp) ifs (tT X.K t))
    (he : ∀ (s : Shared) (H : Hp) (C : Addr) (cl : List (Str × Addr)) (fp : List Addr), PE (X.blk s H scope (compEnvC scope cl C X.env) fp) elt (tE X.K f)) (hs : ∀ x, foldedSetIterable iter X.env x = pure x := by intro _; rfl) :
    ES W X (.Assign [.Name y py] (.ListComp elt [⟨tg, iter, ifs, 0⟩] scope pos) spos) (stS i (lcE fi p t f (own.map (·.2)))) := wkS (ps_setLc hc hN hy hyl hsw hi ok hg ht he hs) fun D σ H q => by
  have h : tAsg (tE X.K (lcE fi p t f (own.map (·.2)))) (tG X.K (patG (.nm i))) D σ H := asS_ok (fun _ _ _ z => z) q
  exact lc_ok hv σ H _ (tE_mono σ H _ _ (fun v H' q => nameG q) h)
end
end SW
/-! enumerate over a tuple, in a for: as the layer's own turn_enum, over Draws. -/
namespace SW
open PySem L2 PyProof.Rows

set_option maxHeartbeats 1000000 in
theorem meets_enum1 {v : Value} {o : Obj} {H : Heap → Prop} (B : Begins v o H) :
    Meets (Builtin.«enumerate.__new__» ⟨[.type "enumerate", v], []⟩) (fun _ R s => H s.heap ∧
      R (.ok (.ret (.ref (s.heap.push o).objs.size))) { s with heap := (s.heap.push o).push { cls := .type "enumerate", data := .fields #[.none, .bool false, .ref s.heap.objs.size, rawInt 0, .none, .none] } }) :=
  .of_wp fun prog w A R s h => by
    obtain ⟨hp, g, d, tk, os⟩ := s; obtain ⟨h1, h⟩ := h
    have hsub := sub_enumerate
    have q1 : ∀ {A' : Around} {E : Value → Shared → Prop} {Q : Value → Shared → Prop}, Q (.ref hp.objs.size) ⟨hp.push o, g, d, tk, os⟩ → wpAny (model prog w) A' (pyIter v) Q E ⟨hp, g, d, tk, os⟩ :=
      fun q => B.iter prog w _ _ ⟨hp, g, d, tk, os⟩ _ h1 q
    wp_walk using q1
    refine wpAny_stack_any fun st => wpAny_pure ?_
    split
    · rename_i c _ _ _ _ _
      cases (c == Value.type "enumerate")
      · wp_walk using q1
        exact ⟨_, rfl, h⟩
      · wp_walk using q1
        exact ⟨_, rfl, h⟩
    · wp_walk using q1
      exact ⟨_, rfl, h⟩
section
variable {prog : Program} {w : World} {A : Around} {E : Value → Shared → Prop} {s : Shared}
theorem enum_begins1 {v : Value} {o : Obj} {H : Heap → Prop} {Q : Value → Shared → Prop} (B : Begins v o H) (h1 : H s.heap)
    (h : ∀ h', IsEnum h' (s.heap.objs.size + 1) s.heap.objs.size 0 .none → h'.get? s.heap.objs.size = some o → h'.objs.size = s.heap.objs.size + 2 →
      (∀ b o, s.heap.get? b = some o → h'.get? b = some o) → Q (.ref (s.heap.objs.size + 1)) { s with heap := h' }) :
    wpAny (model prog w) A (call (.type "enumerate") [v]) Q E s := by
  refine callType_new F.called_enumerate (by decide) (F.typeCall_enumerate_1 _) (F.newCall_enumerate_1 _) (fun obj => F.args_object_init_2 obj _) F.entry_enumerate_new
    (meets_enum1 B) ⟨h1, ?_⟩
  have hz : (s.heap.push o).objs.size = s.heap.objs.size + 1 := Heap.size_push ..
  show _ ∧ _
  rw [hz]
  have he : IsEnum ((s.heap.push o).push { cls := .type "enumerate", data := .fields #[.none, .bool false, .ref s.heap.objs.size, rawInt 0, .none, .none] }) (s.heap.objs.size + 1) s.heap.objs.size 0 .none := by
    have := Heap.get?_push_size (s.heap.push o) (o := { cls := .type "enumerate", data := .fields #[.none, .bool false, .ref s.heap.objs.size, rawInt 0, .none, .none] }) rfl
    rw [hz] at this; exact this
  refine ⟨⟨_, he, rfl⟩, h _ he (Heap.get?_push_of_some _ (Heap.get?_push_size _ B.free)) (by rw [Heap.size_push, hz]) fun b o x => Heap.get?_push_of_some _ (Heap.get?_push_of_some _ x)⟩
end

theorem pyNext_enumT_end {prog : Program} {w : World} {A : Around} {E : Value → Shared → Prop} {s : Shared} {e it l : Addr} {i : Nat} {items : Array Value} {old : Value} {Q : Option Value → Shared → Prop} (hh : A.handled = none)
    (he : IsEnum s.heap e it i old) (hit : s.heap.IsTupleIter it l i) (hl : s.heap.IsTuple l items) (hx : items[i]? = none)
    (hQ : ∀ h', Heap.ExtBut it s.heap h' → Q none { s with heap := h' }) : wpAny (model prog w) A (pyNext (.ref e)) Q E s := by
  have hT : s.TypeIs (.ref e) "enumerate" := ⟨_, he, rfl⟩
  unfold pyNext
  refine wpAny_bind (wpAny_attempt (wpAny_callSpecial?_slot (name := Str.ofString "__next__") hT F.slot_enumerate_next
    (wpAny_call_entry F.slot_enumerate_next hT F.entry_enumerate_next ?_ (F.args_enumerate_next_1 _))))
  show wpAny _ _ (field (.ref e) 2 >>= _) _ _ _
  refine wpAny_bind (wpAny_field he rfl (x := .ref it) rfl ?_)
  refine wpAny_bind (wpAny_nextOf_tuple_end hh hit hl hx fun h' x he' hx' => ?_)
  obtain ⟨o, ho, hc⟩ := hx'
  refine wpAny_bind (wpAny_isInstance (T := "StopIteration") (b := true) ⟨o, ho, hc⟩ isSubtype_stop ?_)
  exact wpAny_pure (hQ _ he')
/-- the tuple at a, its items with their places in new pairs -/
def IteT (K : PySem.W.Frag) (a : Addr) : It :=
  ⟨fun i H => ∃ (xs : List V) (x : V), SqT K H a xs ∧ xs[i]? = some x, fun i H v H' => ∃ T x, v = .ref T ∧ H T = none ∧ H' = upd H T (.tup [.int (i : Nat), x]) ∧ ∀ xs, SqT K H a xs → xs[i]? = some x, fun i H => ∃ xs : List V, SqT K H a xs ∧ xs.length ≤ i⟩
theorem turn_enumT {P : Program} {w : World} {K : PySem.W.Frag} {elts : List Expr} {kk : Nat} {tpos : Pos} (a e it : Addr) (hai : a ≠ it) :
    Turn P w K (.Tuple elts kk tpos) (IteT K a) [e, it] e (fun i h => (∃ old, IsEnum h e it ((i : Nat) : Int) old) ∧ h.IsTupleIter it a i ∧ e ≠ it) where
  mem := by simp
  obj := fun i h st b hb => by
    obtain ⟨⟨old, he⟩, ⟨o, ho, hc, hd⟩, _⟩ := st
    have e' : b = e ∨ b = it := by simpa using hb
    rcases e' with z | z
    · rw [z]; exact ⟨_, he, fun v q => nomatch q⟩
    · rw [z]; exact ⟨o, ho, fun v q => by rw [hd] at q; cases q⟩
  keep := fun i h h' st k => let ⟨⟨old, he⟩, hi, hne⟩ := st; ⟨⟨old, k e (by simp) _ he⟩, hi.at fun o q => k it (by simp) o q, hne⟩
  item := by
    intro X hP hw hK hc i pins s σ H E I hf st hg
    subst hP hw hK
    obtain ⟨⟨old, he⟩, hit, hne⟩ := st
    obtain ⟨xs, x, hq, hx⟩ := hg
    obtain ⟨its, rv, p, hz⟩ := I.tuple hq
    obtain ⟨u, hu, ru⟩ := rv.get hx
    have hel : e < s.heap.objs.size := Heap.lt_size he
    have hil : it < s.heap.objs.size := by obtain ⟨_, q, _⟩ := hit; exact Heap.lt_size q
    have hea : e ≠ a := fun z => by
      obtain ⟨o, ho, hc', _⟩ := p
      rw [← z, he] at ho; cases ho
      exact absurd (Value.type.inj hc') (by decide)
    have hlt : i < its.toArray.size := by
      have := (List.getElem?_eq_some_iff.mp hu).1; simpa using this
    refine wpAny_pyNext_enum_itemD (Draws.tuple (A := X.A.in1) (by exact I.ok.hd hc) it a hai its.toArray) he ⟨hit, p⟩ hlt hne (by simp [hne, hea]) fun y h' tk hy ho hst hT hsz hk => ?_
    obtain ⟨hit', _⟩ := hst
    have hy' : y = u := by
      have h2 : its.toArray[i]? = some u := by simpa using hu
      rw [h2] at hy; exact (Option.some.inj hy).symm
    subst hy'
    refine ⟨_, rfl, wpAny_letOwnedTupleGo_enum (s := { s with heap := h', toks := tk + 1 }) ho fun h'' he' sb => ?_⟩
    have hT2 : h''.get? s.heap.objs.size = some { cls := .type "tuple", data := .seq #[.int i tk, y] } := (sb.2 _ (Nat.ne_of_gt hel)).trans hT
    have new : ObjOk X.prog X.w (upd H s.heap.objs.size (.tup [.int (i : Nat), x])) h'' s.heap.objs.size (.tup [.int (i : Nat), x]) :=
      ⟨by show 2 ≤ sizeLine; decide, [.int i tk, y], .cons ⟨_, rfl⟩ (.cons ru .nil), ⟨_, hT2, rfl, _, rfl⟩⟩
    have I1 : Inv X pins σ (upd H s.heap.objs.size (.tup [.int (i : Nat), x])) { s with heap := h'', toks := tk + 1 } :=
      I.turnedNew (ch := [e, it]) (fun b ob hb q => (sb.2 b (fun z => hb (by simp [z]))).trans (hk b ob (fun z => hb (by simp [z])) (fun z => hb (by simp [z])) q)) hf (Nat.le_refl _) new
    refine ⟨.ref s.heap.objs.size, _, I1, rfl, ⟨_, x, rfl, I.hok.fresh (Nat.le_refl _), rfl, fun ys hy => by rw [I.tuple_inj hy hq]; exact hx⟩, ⟨⟨y, ?_⟩, hit'.at fun o q => (sb.2 it (Ne.symm hne)).trans q, hne⟩, fun b hb => ?_⟩
    · have e1 : ((i + 1 : Nat) : Int) = (i : Int) + 1 := by omega
      rw [e1]; exact he'
    · have hb' : b < s.heap.objs.size := by
        have e' : b = e ∨ b = it := by simpa using hb
        rcases e' with z | z
        · rw [z]; exact hel
        · rw [z]; exact hil
      rw [upd_ne (Nat.ne_of_lt hb')]
      exact (hf b hb).1
  done := by
    intro X hP hw hK hc i pins s σ H E I hf st hg
    subst hP hw hK
    obtain ⟨⟨old, he⟩, hit, hne⟩ := st
    obtain ⟨xs, hq, hx⟩ := hg
    obtain ⟨its, rv, p, hz⟩ := I.tuple hq
    obtain ⟨f0, f1, f2, f3, f4, f5⟩ := hf it (by simp)
    have hl := rv.length
    exact pyNext_enumT_end (I.ok.hd hc) he hit p (by simp; omega) fun h' eb => ⟨rfl, I.turned (t' := s.toks) (fun b o hb q => eb b o hb q) f0 f1 f3 f4 f5⟩
  self := fun A i s Q E st h => let ⟨⟨_, he⟩, _⟩ := st; wpAny_pyIter_enum he h
def iEnumT (K : PySem.W.Frag) (ta : TA) : TI := fun σ H R => ta σ H fun vs H1 => ∃ a xs, vs = [.ref a] ∧ SqT K H1 a xs ∧ R (IteT K a) H1
theorem pi_enumT {X : Cx} {e : Expr} {ta : TA} {p pos tpos : Pos} {elts : List Expr} {kk : Nat} (hg : Gl X "enumerate") (hm : X.mg "enumerate" = none) (ha : PA X [e] ta) (hs : starEach [e] X.env = [(false, eval e X.env)] := by rfl) :
    PI X (.Tuple elts kk tpos) (.Call (.Name "enumerate" p) [e] [] pos) (iEnumT X.K ta) := by
  refine ⟨fun pins s σ H R I h => ?_⟩
  refine Call_ (ld_blt I hg hm boot_enumerate (PyProof.Rows.callWith_type1 (thn (ha.run pos pins s σ H _ I h) fun us s1 ⟨vs, H1, I1, r1, q1⟩ => ?_) hs rfl))
  obtain ⟨a, xs, ex, hq, q⟩ := q1
  subst ex
  cases r1 with
  | cons r rr =>
    cases rr
    cases r
    obtain ⟨its, rv, p', hz⟩ := I1.tuple hq
    refine enum_begins1 (begins_tuple a its.toArray) p' fun h' he hit hsz hk => wpAny_pyIter_enum he ?_
    have I2 : Inv X pins σ H1 { s1 with heap := h' } := I1.kept (t' := s1.toks) hk
    have hal : a ≠ s1.heap.objs.size := Nat.ne_of_lt (by obtain ⟨_, q, _⟩ := p'; exact Heap.lt_size q)
    refine ⟨s1.heap.objs.size + 1, [s1.heap.objs.size + 1, s1.heap.objs.size], _, _, H1, rfl, I2, turn_enumT a (s1.heap.objs.size + 1) s1.heap.objs.size hal, ⟨⟨.none, he⟩, ⟨_, hit, rfl, rfl⟩, Nat.succ_ne_self _⟩, fun b hb => ?_, q⟩
    have e' : b = s1.heap.objs.size + 1 ∨ b = s1.heap.objs.size := by simpa using hb
    have hle : s1.heap.objs.size ≤ b := by
      rcases e' with z | z
      · rw [z]; exact Nat.le_add_right _ _
      · rw [z]; exact Nat.le_refl _
    exact I1.fpOk hle (I1.hok.fresh hle)
end SW
namespace SW
open PySem L2

section
variable {X : Cx} {K : PySem.W.Frag} {ρ ρ' : List Addr} {S S' : Sto} {H H' : Hp} {τ : Tau} {σ : St} {tg e : Expr}
/-! ### slices -/
def tO (K : PySem.W.Frag) (f : Tau → Sto → Option (Option Int × Sto)) : TO := fun σ H Q => ∃ ρ τ S d S', At K ρ τ S σ H ∧ f τ S = some (d, S') ∧ ∀ ρ' H', Post K ρ H ρ' H' S' → Q d H'
abbrev EvO := Tau → Sto → Option (Option Int × Sto)
def noO : EvO := fun _ S => some (none, S)
def someO (f : EvE) : EvO := fun τ S => (f τ S).bind fun p => match p.1 with | .int i => some (some i, p.2) | _ => none
theorem eo_none : PO X none (tO X.K noO) := ⟨fun pins s σ H Q I q => po_none.run pins s σ H Q I (by
  obtain ⟨ρ, τ, S, d, S', A, e, k⟩ := q
  cases e
  exact k ρ H A.refl)⟩
theorem eo_some {f : EvE} (h : EE X e f) : PO X (some e) (tO X.K (someO f)) := ⟨fun pins s σ H Q I q => (po_some h).run pins s σ H Q I (by
  obtain ⟨ρ, τ, S, d, S', A, e, k⟩ := q
  obtain ⟨⟨x, S1⟩, e1, e⟩ := bindE e
  refine goE A e1 fun ρ1 v1 H1 A1 P1 r1 => ?_
  cases x <;> cases e
  exact ⟨_, r1.int_, k _ _ P1⟩)⟩
def cutD (xs : List D) (lo hi : Option Int) : List D := (xs.drop (HT.sIx xs.length 0 lo)).take (HT.sIx xs.length xs.length hi - HT.sIx xs.length 0 lo)
theorem cut_rel {ds : List D} {xs : List V} (q : RelDs K ρ H ds xs) (lo hi : Option Int) : RelDs K ρ H (cutD ds lo hi) (cutV xs lo hi) := by
  unfold cutD cutV
  rw [q.len]
  exact (q.drop _).take _
def slD (x : D) (lo hi : Option Int) (S : Sto) : Option (D × Sto) := match x with
  | .tup ds => some (.tup (cutD ds lo hi), S)
  | .fl ds => some (newD (.lst (cutD ds lo hi)) S)
  | .loc n => match S[n]? with
    | some (.lst ds) => some (newD (.lst (cutD ds lo hi)) S)
    | _ => none
  | _ => none
def slE (f : EvE) (a b : EvO) : EvE := fun τ S => (f τ S).bind fun p => (a τ p.2).bind fun q => (b τ q.2).bind fun r => slD p.1 q.1 r.1 r.2
theorem ee_slice {lo hi : Option Expr} {f : EvE} {a b : EvO} {p2 pos : Pos} (he : EE X e f) (hl : PO X lo (tO X.K a)) (hh : PO X hi (tO X.K b)) : EE X (.Subscript e (.Slice lo hi none p2) pos) (slE f a b) :=
  wkE (pe_slice (sl_list.or sl_tupA) he hl hh) fun σ H Q q => by
    obtain ⟨ρ, τ, S, d, S', A, e, k⟩ := q
    obtain ⟨⟨x, S1⟩, e1, e⟩ := bindE e
    obtain ⟨⟨l, S2⟩, e2, e⟩ := bindE e
    obtain ⟨⟨h, S3⟩, e3, e⟩ := bindE e
    refine goE A e1 fun ρ1 v1 H1 A1 P1 r1 => ⟨ρ1, τ, S1, l, S2, A1, e2, fun ρ2 H2 P2 => ?_⟩
    have A2 := A1.go P2
    refine ⟨ρ2, τ, S2, h, S3, A2, e3, fun ρ3 H3 P3 => ?_⟩
    have A3 := A2.go P3
    have P13 := P2.trans P3
    have r3 := r1.mono (P13.imm A1.s) P13.pre
    have PP := P1.trans P13
    cases x <;> simp only [slD] at e <;> try cases e
    · obtain ⟨c, xs, rfl, hc, q⟩ := r3.tup_
      have cr := cut_rel q l h
      refine .inr ⟨c, xs, rfl, SqT.of hc, fun w => ?_, fun w p hp => ?_⟩
      · refine k ρ3 _ H3 PP (RelD.tup hc ?_)
        have : cutV xs l h = xs := by
          unfold cutV
          rw [w.1, w.2]; simp
        rw [this] at cr; exact cr
      · obtain ⟨P, r⟩ := A3.s.new_tup hp cr
        exact k _ _ _ (PP.trans P) r
    · obtain ⟨c, xs, rfl, hc, q⟩ := r3.fl_
      refine .inl ⟨c, xs, rfl, hc.sqL, fun p hp => ?_⟩
      obtain ⟨P, r⟩ := new_lst A3.s hp (cut_rel q l h)
      exact k _ _ _ (PP.trans P) r
    · split at e
      · rename_i ds eo; cases e
        obtain ⟨c, xs, rfl, _, hc, q⟩ := A3.s.lst eo r3
        refine .inl ⟨c, xs, rfl, SqL.of hc, fun p hp => ?_⟩
        obtain ⟨P, r⟩ := new_lst A3.s hp (cut_rel q l h)
        exact k _ _ _ (PP.trans P) r
      · cases e

/-! ### built-in functions -/
theorem ee_cb {es : List Expr} {e0 : Expr} {id : String} {x : Str} {r : List V → Hp → VK → Prop} {g : List D → Sto → Option (D × Sto)} {fa : EvA} {p pos : Pos} (hc : CallR X (.builtin id) r) (hg : OpA X.K r g) (hgl : Gl X x) (hm : X.mg x = none) (hv : bootBuiltins x = some (.builtin id)) (ha : EA X (e0 :: es) fa) (hn : x ≠ "__name__" := by decide) (hdb : (x == ("__debug__" : Str)) = false := by decide)
    (he : starEach (e0 :: es) X.env = (false, eval e0 X.env) :: starEach es X.env := by rfl) (hpl : (backTo pos (starEach es X.env)).any (·.1) = false := by rfl) : EE X (.Call (.Name x p) (e0 :: es) [] pos) (aE g fa) :=
  wkE (pe_callB hc hgl hm hv ha hn hdb he hpl) fun σ H Q q => by
    obtain ⟨ρ, τ, S, d, S', A, e, k⟩ := q
    obtain ⟨⟨x, S1⟩, e1, e⟩ := bindE e
    exact goA A e1 fun ρ1 v1 H1 A1 P1 r1 => hg ρ1 S1 H1 x v1 d S' A1.s r1 e Q fun ρ3 u H3 P3 r3 => k ρ3 u H3 (P1.trans P3) r3
theorem ee_ct {es : List Expr} {e0 : Expr} {T : String} {x : Str} {r : List V → Hp → VK → Prop} {g : List D → Sto → Option (D × Sto)} {fa : EvA} {p pos : Pos} (hc : CallR X (.type T) r) (hg : OpA X.K r g) (hgl : Gl X x) (hm : X.mg x = none) (hv : bootBuiltins x = some (.type T)) (ha : EA X (e0 :: es) fa) (hn : x ≠ "__name__" := by decide) (hdb : (x == ("__debug__" : Str)) = false := by decide)
    (he : starEach (e0 :: es) X.env = (false, eval e0 X.env) :: starEach es X.env := by rfl) (hpl : (backTo pos (starEach es X.env)).any (·.1) = false := by rfl) : EE X (.Call (.Name x p) (e0 :: es) [] pos) (aE g fa) :=
  wkE (pe_callTy hc hgl hm hv ha hn hdb he hpl) fun σ H Q q => by
    obtain ⟨ρ, τ, S, d, S', A, e, k⟩ := q
    obtain ⟨⟨x, S1⟩, e1, e⟩ := bindE e
    exact goA A e1 fun ρ1 v1 H1 A1 P1 r1 => hg ρ1 S1 H1 x v1 d S' A1.s r1 e Q fun ρ3 u H3 P3 r3 => k ρ3 u H3 (P1.trans P3) r3
theorem RelDs.one_ {d : D} {vs : List V} (h : RelDs K ρ H [d] vs) : ∃ v, vs = [v] ∧ RelD K ρ H d v := by
  simp only [RelDs] at h
  obtain ⟨x, ys, rfl, r, rfl⟩ := h
  exact ⟨x, rfl, r⟩
theorem RelDs.two_ {d e : D} {vs : List V} (h : RelDs K ρ H [d, e] vs) : ∃ v w, vs = [v, w] ∧ RelD K ρ H d v ∧ RelD K ρ H e w := by
  simp only [RelDs] at h
  obtain ⟨x, ys, rfl, r, y, zs, rfl, r2, rfl⟩ := h
  exact ⟨x, y, rfl, r, r2⟩
/-- what a list or a tuple holds -/
def itemsOf (d : D) (S : Sto) : Option (List D) := match d with
  | .tup ds => some ds
  | .fl ds => some ds
  | .loc n => match S[n]? with
    | some (.lst ds) => some ds
    | _ => none
  | _ => none
theorem itemsOf_rel (R : RelS K ρ S H) {d : D} {v : V} {ds : List D} (r : RelD K ρ H d v) (e : itemsOf d S = some ds) :
    ∃ a xs, v = .ref a ∧ RelDs K ρ H ds xs ∧ ((SqL K H a xs ∧ ∀ es, d ≠ .tup es) ∨ (SqT K H a xs ∧ d = .tup ds)) := by
  cases d <;> simp only [itemsOf] at e <;> try cases e
  · obtain ⟨a, xs, rfl, h, q⟩ := r.tup_
    exact ⟨a, xs, rfl, q, .inr ⟨SqT.of h, rfl⟩⟩
  · obtain ⟨a, xs, rfl, h, q⟩ := r.fl_
    exact ⟨a, xs, rfl, q, .inl ⟨h.sqL, fun _ => nofun⟩⟩
  · split at e
    · rename_i es eo; cases e
      obtain ⟨a, xs, rfl, _, h, q⟩ := R.lst eo r
      exact ⟨a, xs, rfl, q, .inl ⟨SqL.of h, fun _ => nofun⟩⟩
    · cases e
def lenD (as : List D) (S : Sto) : Option (D × Sto) := match as with
  | [.str x] => if x.length ≤ 10000000 then some (.int x.length, S) else none
  | [.loc n] => match S[n]? with
    | some (.lst ds) => some (.int ds.length, S)
    | some (.dK kvs) => some (.int kvs.length, S)
    | some (.dT kvs) => some (.int kvs.length, S)
    | some (.dN kvs) => some (.int kvs.length, S)
    | _ => none
  | [.tup ds] => some (.int ds.length, S)
  | [.fl ds] => some (.int ds.length, S)
  | [.tn ds] => some (.int ds.length, S)
  | _ => none
def rLenN : List V → Hp → VK → Prop := fun xs H Q => ∃ p ns, xs = [.ref p] ∧ DN H p ns ∧ Q (.int ns.length) H
theorem call_len_dN {X : Cx} : CallR X (.builtin "len") rLenN := by
  intro pins s σ H xs us Q I r h
  obtain ⟨p, ns, rfl, D, q⟩ := h
  obtain ⟨u, rfl, rx⟩ := vals1 r
  obtain rfl : u = .ref p := rx
  exact n_len I D fun t s' I' => ⟨.int ((ns.length : Nat) : Int), H, I', ⟨_, rfl⟩, q⟩
def rLenE (K : PySem.W.Frag) : List V → Hp → VK → Prop := fun xs H Q => (∃ x n, xs = [x] ∧ LenV K x H n ∧ Q (.int n) H) ∨ ((∃ p kvs, xs = [.ref p] ∧ H p = some (.dK kvs) ∧ Q (.int kvs.length) H) ∨ (rLenT xs H Q ∨ rLenN xs H Q))

theorem opr_len : CallR X (.builtin "len") (rLenE X.K) := orC call_len (orC call_lenD (orC call_len_dT call_len_dN))
theorem opa_len : OpA K (rLenE K) lenD := fun ρ S H x v d S' R r e Q k => by
  unfold lenD at e
  split at e
  · split at e
    · rename_i hl; cases e
      obtain ⟨w, rfl, q⟩ := r.one_
      rw [q.str_]
      exact .inl ⟨_, _, rfl, ⟨line_of hl, rfl⟩, kRefl R k (RelD.int _)⟩
    · cases e
  · obtain ⟨w, rfl, q⟩ := r.one_
    split at e
    · rename_i ds eo; cases e
      obtain ⟨a, xs, rfl, _, h, q⟩ := R.lst eo q
      exact .inl ⟨_, _, rfl, .inl ⟨xs, SqL.of h, q.len.symm⟩, kRefl R k (RelD.int _)⟩
    · rename_i ds eo; cases e
      obtain ⟨a, xs, rfl, _, h, q⟩ := R.dK eo q
      exact .inr (.inl ⟨a, xs, rfl, h, by rw [q.len]; exact kRefl R k (RelD.int _)⟩)
    · rename_i ds eo; cases e
      obtain ⟨a, xs, rfl, _, h, q⟩ := R.dT eo q
      exact .inr (.inr (.inl ⟨a, xs, rfl, h, by rw [q.len]; exact kRefl R k (RelD.int _)⟩))
    · rename_i ds eo; cases e
      obtain ⟨a, xs, rfl, _, h, q⟩ := R.dN eo q
      exact .inr (.inr (.inr ⟨a, xs, rfl, q.dn (.inl h), by rw [q.len]; exact kRefl R k (RelD.int _)⟩))
    · cases e
  · obtain ⟨w, rfl, q⟩ := r.one_
    cases e
    obtain ⟨a, xs, rfl, h, q⟩ := q.tup_
    exact .inl ⟨_, _, rfl, .inr ⟨xs, SqT.of h, q.len.symm⟩, kRefl R k (RelD.int _)⟩
  · obtain ⟨w, rfl, q⟩ := r.one_
    cases e
    obtain ⟨a, xs, rfl, h, q⟩ := q.fl_
    exact .inl ⟨_, _, rfl, .inl ⟨xs, h.sqL, q.len.symm⟩, kRefl R k (RelD.int _)⟩
  · obtain ⟨w, rfl, q⟩ := r.one_
    cases e
    obtain ⟨a, o, xs, rfl, h, _, _, q⟩ := q.tn_
    exact .inl ⟨_, _, rfl, .inr ⟨xs, .inl (.inr ⟨o, h⟩), q.len.symm⟩, kRefl R k (RelD.int _)⟩
  · cases e
def absD (as : List D) (S : Sto) : Option (D × Sto) := match as with
  | [.int i] => some (.int (if i < 0 then -i else i), S)
  | _ => none
theorem opa_abs : OpA K (fun xs H Q => ∃ i, xs = [.int i] ∧ Q (.int (if i < 0 then -i else i)) H) absD := fun ρ S H x v d S' R r e Q k => by
  unfold absD at e
  split at e
  · cases e
    obtain ⟨w, rfl, q⟩ := r.one_
    exact ⟨_, by rw [q.int_], kRefl R k (RelD.int _)⟩
  · cases e
def max2D (as : List D) (S : Sto) : Option (D × Sto) := match as with
  | [.int i, .int j] => some (.int (if j > i then j else i), S)
  | _ => none
theorem opa_max2 : OpA K (fun xs H Q => ∃ i j, xs = [.int i, .int j] ∧ Q (.int (if j > i then j else i)) H) max2D := fun ρ S H x v d S' R r e Q k => by
  unfold max2D at e
  split at e
  · cases e
    obtain ⟨w, w2, rfl, q, q2⟩ := r.two_
    exact ⟨_, _, by rw [q.int_, q2.int_], kRefl R k (RelD.int _)⟩
  · cases e
def min2D (as : List D) (S : Sto) : Option (D × Sto) := match as with
  | [.int i, .int j] => some (.int (if j < i then j else i), S)
  | _ => none
def intD (as : List D) (S : Sto) : Option (D × Sto) := match as with
  | [.int i] => some (.int i, S)
  | [.bl b] => some (.int (if b then 1 else 0), S)
  | _ => none
theorem opa_int : OpA K (fun xs H Q => (∃ i, xs = [.int i] ∧ Q (.int i) H) ∨ ∃ k, xs = [.bl k] ∧ Q (.int (if k then 1 else 0)) H) intD := fun ρ S H x v d S' R r e Q k => by
  unfold intD at e
  split at e
  · cases e
    obtain ⟨w, rfl, q⟩ := r.one_
    exact .inl ⟨_, by rw [q.int_], kRefl R k (RelD.int _)⟩
  · cases e
    obtain ⟨w, rfl, q⟩ := r.one_
    exact .inr ⟨_, by rw [q.bl_], kRefl R k (RelD.int _)⟩
  · cases e
def divmodD (as : List D) (S : Sto) : Option (D × Sto) := match as with
  | [.int i, .int j] => if 0 < j ∧ j < 1073741824 then some (.tup [.int (i / j), .int (i % j)], S) else none
  | _ => none
theorem opa_divmod : OpA K (fun xs H Q => ∃ i j, xs = [.int i, .int j] ∧ CDiv i j ∧ ∀ p, H p = none → Q (.ref p) (upd H p (.tup [.int (i / j), .int (i % j)]))) divmodD := fun ρ S H x v d S' R r e Q k => by
  unfold divmodD at e
  split at e
  · split at e
    · rename_i hl; cases e
      obtain ⟨w, w2, rfl, q, q2⟩ := r.two_
      refine ⟨_, _, by rw [q.int_, q2.int_], hl, fun p hp => ?_⟩
      obtain ⟨P, r⟩ := R.new_tup (ds := [.int _, .int _]) (xs := [.int _, .int _]) hp (.cons (RelD.int _) (.one (RelD.int _)))
      exact k _ _ _ P r
    · cases e
  · cases e
/-- what a list holds -/
def lsOf (d : D) (S : Sto) : Option (List D) := match d with
  | .fl ds => some ds
  | .loc n => match S[n]? with
    | some (.lst ds) => some ds
    | _ => none
  | _ => none
theorem lsOf_rel (R : RelS K ρ S H) {d : D} {v : V} {ds : List D} (r : RelD K ρ H d v) (e : lsOf d S = some ds) :
    ∃ a xs, v = .ref a ∧ RelDs K ρ H ds xs ∧ SqL K H a xs := by
  cases d <;> simp only [lsOf] at e <;> try cases e
  · obtain ⟨a, xs, rfl, h, q⟩ := r.fl_
    exact ⟨a, xs, rfl, q, h.sqL⟩
  · split at e
    · rename_i es eo; cases e
      obtain ⟨a, xs, rfl, _, h, q⟩ := R.lst eo r
      exact ⟨a, xs, rfl, q, SqL.of h⟩
    · cases e
def blsOf : List D → Option (List Bool)
  | [] => some []
  | .bl i :: ds => (blsOf ds).map (i :: ·)
  | _ => none
theorem blsOf_rel {ds : List D} : ∀ {xs : List V} {ns : List Bool}, RelDs K ρ H ds xs → blsOf ds = some ns → xs = ns.map V.bl := by
  induction ds with
  | nil => intro xs ns r e; cases e; simp only [RelDs] at r; subst r; rfl
  | cons d ds ih =>
    intro xs ns r e
    cases d with
    | bl i =>
      simp only [blsOf, Option.map_eq_some_iff] at e
      obtain ⟨ns, e, rfl⟩ := e
      simp only [RelDs] at r
      obtain ⟨x, ys, rfl, r1, r2⟩ := r
      rw [r1.bl_, ih r2 e]; rfl
    | _ => cases e
def allD (as : List D) (S : Sto) : Option (D × Sto) := match as with
  | [x] => (lsOf x S).bind fun ds => (blsOf ds).map fun (bs : List Bool) => (.bl (bs.all id), S)
  | _ => none
def anyD (as : List D) (S : Sto) : Option (D × Sto) := match as with
  | [x] => (lsOf x S).bind fun ds => (blsOf ds).map fun (bs : List Bool) => (.bl (bs.any id), S)
  | _ => none
theorem opa_all : OpA K (rAll K) allD := fun ρ S H x v d S' R r e Q k => by
  unfold allD at e
  split at e
  · rename_i x
    obtain ⟨w, rfl, q⟩ := r.one_
    obtain ⟨ds, e1, e⟩ := bindE e
    obtain ⟨ns, e2, e⟩ := Option.map_eq_some_iff.mp e
    cases e
    obtain ⟨a, xs, rfl, q1, h⟩ := lsOf_rel R q e1
    rw [blsOf_rel q1 e2] at h
    exact ⟨a, ns, rfl, h, kRefl R k (RelD.bl _)⟩
  · cases e
/-! list(x), tuple(x) -/
def listD (as : List D) (S : Sto) : Option (D × Sto) := match as with
  | [x] => (itemsOf x S).map fun ds => newD (.lst ds) S
  | _ => none
theorem opa_list : OpA K (fun xs H Q => ∃ p ys, xs = [.ref p] ∧ (SqL K H p ys ∨ SqT K H p ys) ∧ ∀ l, H l = none → Q (.ref l) (upd H l (.lst ys))) listD := fun ρ S H x v d S' R r e Q k => by
  unfold listD at e
  split at e
  · obtain ⟨w, rfl, q⟩ := r.one_
    obtain ⟨ds, e1, e⟩ := Option.map_eq_some_iff.mp e
    cases e
    obtain ⟨a, xs, rfl, q1, h⟩ := itemsOf_rel R q e1
    refine ⟨a, xs, rfl, h.elim (fun z => .inl z.1) (fun z => .inr z.1), fun p hp => ?_⟩
    obtain ⟨P, r⟩ := new_lst R hp q1
    exact k _ _ _ P r
  · cases e
def tupleD (as : List D) (S : Sto) : Option (D × Sto) := match as with
  | [x] => (itemsOf x S).map fun ds => (.tup ds, S)
  | _ => none
theorem opa_tuple : OpA K (fun xs H Q => ∃ p ys, xs = [.ref p] ∧ ((SqL K H p ys ∧ ∀ l, H l = none → Q (.ref l) (upd H l (.tup ys))) ∨ (SqT K H p ys ∧ Q (.ref p) H))) tupleD := fun ρ S H x v d S' R r e Q k => by
  unfold tupleD at e
  split at e
  · obtain ⟨w, rfl, q⟩ := r.one_
    obtain ⟨ds, e1, e⟩ := Option.map_eq_some_iff.mp e
    cases e
    obtain ⟨a, xs, rfl, q1, h | h⟩ := itemsOf_rel R q e1
    · refine ⟨a, xs, rfl, .inl ⟨h.1, fun p hp => ?_⟩⟩
      obtain ⟨P, r⟩ := R.new_tup hp q1
      exact k _ _ _ P r
    · refine ⟨a, xs, rfl, .inr ⟨h.1, ?_⟩⟩
      have q' := q
      rw [h.2] at q'
      exact kRefl R k q'
  · cases e
/-! isinstance -/
def tyName (S : Sto) : D → Option String
  | .non => some "NoneType"
  | .bl _ => some "bool"
  | .int _ => some "int"
  | .str _ => some "str"
  | .tup _ => some "tuple"
  | .fl _ => some "list"
  | .loc n => match S[n]? with
    | some (.lst _) => some "list"
    | some (.dK _) => some "dict"
    | some (.dT _) => some "dict"
    | _ => none
  | .ty _ => none
  | .tn _ => some "tuple"
theorem tyName_rel (R : RelS K ρ S H) {d : D} {v : V} {t : String} (r : RelD K ρ H d v) (e : tyName S d = some t) : TyX K H v (.type t) := by
  cases d <;> simp only [tyName] at e <;> try cases e
  · rw [r.non_]; exact .base .non
  · rw [r.bl_]; exact .base (.bl _)
  · rw [r.int_]; exact .base (.int _)
  · rw [r.str_]; exact .base (.str _)
  · obtain ⟨a, xs, rfl, h, _⟩ := r.tup_; exact .base (.tup h)
  · obtain ⟨a, xs, rfl, h, _⟩ := r.fl_
    rcases h with ⟨o, h⟩ | ⟨o, its, n, h1, h2, _⟩
    · exact .base (.frz h)
    · exact .kList h1 h2
  · split at e
    · rename_i eo; cases e
      obtain ⟨a, xs, rfl, _, h, _⟩ := R.lst eo r
      exact .base (.lst h)
    · rename_i eo; cases e
      obtain ⟨a, xs, rfl, _, h, _⟩ := R.dK eo r
      exact .base (.dK h)
    · rename_i eo; cases e
      obtain ⟨a, xs, rfl, _, h, _⟩ := R.dT eo r
      exact .base (.dT h)
    · cases e
  · obtain ⟨a, o, xs, rfl, h, _⟩ := r.tn_; exact .fTuple h
def tysOf : List D → Option (List String)
  | [] => some []
  | .ty i :: ds => (tysOf ds).map (i :: ·)
  | _ => none
def kitAnyB (t : String) : List String → Option Bool
  | [] => some false
  | c :: cs => (kitB t c).bind fun b => if b then some true else kitAnyB t cs
theorem kitAnyB_ok {t : String} : ∀ {cs : List String} {b : Bool}, kitAnyB t cs = some b → PySem.W.kitAny K (.type t) (cs.map Value.type) = some b
  | [], b, h => by cases h; exact kitAny_nil
  | c :: cs, b, h => by
    obtain ⟨b1, e1, e⟩ := bindE h
    cases b1 with
    | true => cases e; exact kitAny_cons (r := true) (kit_ty e1) (fun z => nomatch z) (fun _ => rfl)
    | false => exact kitAny_cons (kit_ty e1) (fun _ => kitAnyB_ok e) (fun z => nomatch z)
theorem tysOf_rel {ds : List D} : ∀ {xs : List V} {ns : List String}, RelDs K ρ H ds xs → tysOf ds = some ns → xs = ns.map V.ty ∧ Paired ClsV xs (ns.map Value.type) := by
  induction ds with
  | nil => intro xs ns r e; cases e; simp only [RelDs] at r; subst r; exact ⟨rfl, .nil⟩
  | cons d ds ih =>
    intro xs ns r e
    cases d with
    | ty i =>
      simp only [tysOf, Option.map_eq_some_iff] at e
      obtain ⟨ns, e, rfl⟩ := e
      simp only [RelDs] at r
      obtain ⟨x, ys, rfl, r1, r2⟩ := r
      obtain ⟨h1, h2⟩ := ih r2 e
      rw [r1.ty_]
      exact ⟨by rw [h1]; rfl, .cons (.ty i) h2⟩
    | _ => cases e
def isiD (as : List D) (S : Sto) : Option (D × Sto) := match as with
  | [x, .ty c] => (tyName S x).bind fun t => (kitB t c).map fun b => (.bl b, S)
  | [x, .tup cs] => (tyName S x).bind fun t => (tysOf cs).bind fun cs => (kitAnyB t cs).map fun b => (.bl b, S)
  | _ => none
theorem opr_isi : CallR X (.builtin "isinstance") (fun xs H Q => rIsi X.K xs H Q ∨ rIsiT X.K xs H Q) := orC call_isi call_isiT
theorem opa_isi : OpA K (fun xs H Q => rIsi K xs H Q ∨ rIsiT K xs H Q) isiD := fun ρ S H x v d S' R r e Q k => by
  unfold isiD at e
  split at e
  · obtain ⟨w, w2, rfl, q, q2⟩ := r.two_
    obtain ⟨t, e1, e⟩ := bindE e
    obtain ⟨b, e2, e⟩ := Option.map_eq_some_iff.mp e
    cases e
    rw [q2.ty_]
    exact .inl ⟨w, _, _, _, b, rfl, .ty _, tyName_rel R q e1, kit_ty e2, kRefl R k (RelD.bl _)⟩
  · obtain ⟨w, w2, rfl, q, q2⟩ := r.two_
    obtain ⟨t, e1, e⟩ := bindE e
    obtain ⟨cs, e3, e⟩ := bindE e
    obtain ⟨b, e2, e⟩ := Option.map_eq_some_iff.mp e
    cases e
    obtain ⟨a, xs, rfl, h, q3⟩ := q2.tup_
    obtain ⟨h1, h2⟩ := tysOf_rel q3 e3
    exact .inr ⟨w, a, xs, _, _, b, rfl, h, h2, tyName_rel R q e1, kitAnyB_ok e2, kRefl R k (RelD.bl _)⟩
  · cases e
/-! ### a list's methods -/
def OpM (K : PySem.W.Frag) (r : V → List V → Hp → VK → Prop) (g : D → List D → Sto → Option (D × Sto)) : Prop :=
  ∀ (ρ : List Addr) (S : Sto) (H : Hp) (o : D) (x : List D) (u : V) (v : List V) (d : D) (S' : Sto), RelS K ρ S H → RelD K ρ H o u → RelDs K ρ H x v → g o x S = some (d, S') →
    ∀ Q : VK, (∀ ρ' w H', Post K ρ H ρ' H' S' → RelD K ρ' H' d w → Q w H') → r u v H Q
def isLst (d : D) (S : Sto) : Bool := match d with
  | .fl _ => true
  | .loc n => (lenAt S n).isSome
  | _ => false
def mE (g : D → List D → Sto → Option (D × Sto)) (fo : EvE) (fa : EvA) : EvE := fun τ S => (fo τ S).bind fun p => if isLst p.1 p.2 then (fa τ p.2).bind fun q => g p.1 q.1 q.2 else none
theorem isLst_rel (R : RelS K ρ S H) {d : D} {v : V} (r : RelD K ρ H d v) (e : isLst d S = true) : tyV K "list" v H := by
  cases d <;> simp only [isLst] at e <;> try cases e
  · obtain ⟨a, xs, rfl, h, q⟩ := r.fl_
    exact .inl ⟨rfl, xs, h.sqL⟩
  · rename_i n
    cases el : lenAt S n with
    | none => rw [el] at e; cases e
    | some l =>
      obtain ⟨ds, e1, e2⟩ := lenAt_some el
      obtain ⟨a, xs, rfl, _, h, _⟩ := R.lst e1 r
      exact .inl ⟨rfl, xs, SqL.of h⟩
theorem ee_m {o e0 : Expr} {es : List Expr} {name : Str} {r : V → List V → Hp → VK → Prop} {g : D → List D → Sto → Option (D × Sto)} {fo : EvE} {fa : EvA} {apos cpos : Pos}
    (h : PE X (.Call (.Attribute o name apos) (e0 :: es) [] cpos) (tBM X.K "list" r (tE X.K fo) (tA X.K fa))) (hg : OpM X.K r g) : EE X (.Call (.Attribute o name apos) (e0 :: es) [] cpos) (mE g fo fa) := wkE h fun σ H Q q => by
  obtain ⟨ρ, τ, S, d, S', A, e, k⟩ := q
  obtain ⟨⟨x, S1⟩, e1, e⟩ := bindE e
  split at e
  · rename_i hi
    obtain ⟨⟨ys, S2⟩, e2, e⟩ := bindE e
    refine goE A e1 fun ρ1 v1 H1 A1 P1 r1 => ⟨isLst_rel A1.s r1 hi, goA A1 e2 fun ρ2 v2 H2 A2 P2 r2 => ?_⟩
    exact hg ρ2 S2 H2 x ys v1 v2 d S' A2.s (r1.mono (P2.imm A1.s) P2.pre) r2 e Q fun ρ3 u H3 P3 r3 => k ρ3 u H3 ((P1.trans P2).trans P3) r3
  · cases e
def lstAt (d : D) (S : Sto) : Option (Nat × List D) := match d with
  | .loc n => match S[n]? with
    | some (.lst ds) => some (n, ds)
    | _ => none
  | _ => none
theorem lstAt_rel (R : RelS K ρ S H) {d : D} {v : V} {n : Nat} {ds : List D} (r : RelD K ρ H d v) (e : lstAt d S = some (n, ds)) : S[n]? = some (.lst ds) ∧ ∃ a xs, v = .ref a ∧ ρ[n]? = some a ∧ H a = some (.lst xs) ∧ RelDs K ρ H ds xs := by
  cases d <;> simp only [lstAt] at e <;> try cases e
  split at e
  · rename_i eo; cases e
    exact ⟨eo, R.lst eo r⟩
  · cases e
def appendM (o : D) (as : List D) (S : Sto) : Option (D × Sto) := (lstAt o S).bind fun p => match as with
  | [y] => if p.2.length ≤ 10000000 then some (.non, S.set p.1 (.lst (p.2 ++ [y]))) else none
  | _ => none
theorem opm_append : OpM K rAppend appendM := fun ρ S H o x u v d S' R r1 r2 e Q k => by
  obtain ⟨⟨n, ds⟩, e1, e⟩ := bindE e
  obtain ⟨eo, a, xs, rfl, hn, h, q⟩ := lstAt_rel R r1 e1
  split at e
  · split at e
    · rename_i hl; cases e
      obtain ⟨w, rfl, q2⟩ := r2.one_
      refine ⟨a, xs, w, rfl, rfl, h, line_lt (by rw [q.len]; exact hl), ?_⟩
      exact k _ _ _ (put_lst R hn (by rw [h]; trivial) (q.app (.one q2))) RelD.non
    · cases e
  · cases e
def insertM (o : D) (as : List D) (S : Sto) : Option (D × Sto) := (lstAt o S).bind fun p => match as with
  | [.int i, y] => if p.2.length ≤ 10000000 ∧ 0 ≤ i ∧ i < 2 ^ 63 then some (.non, S.set p.1 (.lst (p.2.take i.toNat ++ [y] ++ p.2.drop i.toNat))) else none
  | _ => none
theorem opm_insert : OpM K (fun x vs H Q => ∃ (l : Addr) (xs : List V) (i : Int) (y : V), x = .ref l ∧ vs = [.int i, y] ∧ H l = some (.lst xs) ∧ xs.length < sizeLine ∧ 0 ≤ i ∧ i < 2 ^ 63 ∧
    Q .non (upd H l (.lst (xs.take i.toNat ++ [y] ++ xs.drop i.toNat)))) insertM := fun ρ S H o x u v d S' R r1 r2 e Q k => by
  obtain ⟨⟨n, ds⟩, e1, e⟩ := bindE e
  obtain ⟨eo, a, xs, rfl, hn, h, q⟩ := lstAt_rel R r1 e1
  split at e
  · split at e
    · rename_i hl; cases e
      obtain ⟨w, w2, rfl, q2, q3⟩ := r2.two_
      rw [q2.int_]
      refine ⟨a, xs, _, w2, rfl, rfl, h, line_lt (by rw [q.len]; exact hl.1), hl.2.1, hl.2.2, ?_⟩
      exact k _ _ _ (put_lst R hn (by rw [h]; trivial) (((q.take _).app (.one q3)).app (q.drop _))) RelD.non
    · cases e
  · cases e
def countM (o : D) (as : List D) (S : Sto) : Option (D × Sto) := (lstAt o S).bind fun p => match as with
  | [.int k] => (intsOf p.2).map fun ns => (.int (ns.count k : Nat), S)
  | _ => none
theorem opm_count : OpM K (rCntI K) countM := fun ρ S H o x u v d S' R r1 r2 e Q k => by
  obtain ⟨⟨n, ds⟩, e1, e⟩ := bindE e
  obtain ⟨eo, a, xs, rfl, hn, h, q⟩ := lstAt_rel R r1 e1
  split at e
  · obtain ⟨ns, e2, e⟩ := Option.map_eq_some_iff.mp e
    cases e
    obtain ⟨w, rfl, q2⟩ := r2.one_
    rw [q2.int_]
    rw [intsOf_rel q e2] at h
    exact ⟨a, ns, _, rfl, rfl, SqL.of h, kRefl R k (RelD.int _)⟩
  · cases e
end
end SW
namespace SW
open PySem L2

section
variable {X : Cx} {K : PySem.W.Frag} {ρ ρ' : List Addr} {S S' : Sto} {H H' : Hp} {τ : Tau} {σ : St} {tg e : Expr}
/-! ### sources -/
/-- a list as it stands, of that length -/
def lsN (d : D) (n : Nat) (S : Sto) : Option (List D) := (lsOf d S).bind fun ds => if ds.length = n then some ds else none
theorem lsN_rel (R : RelS K ρ S H) {d : D} {v : V} {n : Nat} {ds : List D} (r : RelD K ρ H d v) (e : lsN d n S = some ds) : ds.length = n ∧ ∃ a xs, v = .ref a ∧ RelDs K ρ H ds xs ∧ SqL K H a xs := by
  obtain ⟨es, e1, e⟩ := bindE e
  split at e
  · cases e; exact ⟨by assumption, lsOf_rel R r e1⟩
  · cases e
def pr (i : Int) (d : D) : D := .tup [.int i, d]
def enumsT : Nat → List D → List D
  | _, [] => []
  | i, d :: ds => pr (i : Int) d :: enumsT (i + 1) ds
theorem enumsT_len (i : Nat) (ds : List D) : (enumsT i ds).length = ds.length := by
  induction ds generalizing i with
  | nil => rfl
  | cons d ds ih => simp [enumsT, ih]
theorem enumsT_get : ∀ (ds : List D) (j i : Nat), (enumsT j ds)[i]? = (ds[i]?).map (pr ((j + i : Nat) : Int))
  | [], j, i => by simp [enumsT]
  | d :: ds, j, 0 => by simp [enumsT]
  | d :: ds, j, i + 1 => by
    simp only [enumsT, List.getElem?_cons_succ]
    rw [enumsT_get ds (j + 1) i]
    congr 2
    omega
def srcEnum (d : D) (S : Sto) : Option Src := match d with
  | .tup ds => some (.fixed (enumsT 0 ds))
  | d => (lsOf d S).map fun ds => ⟨ds.length, fun S i => (lsN d ds.length S).bind fun es => (es[i]?).map (pr (i : Int)), fun S => (lsN d ds.length S).isSome⟩
def enI (f : EvE) : EvI := fun τ S => (f τ S).bind fun p => (srcEnum p.1 p.2).map fun s => (s, p.2)
/-- a pair is made anew -/
theorem yld_pair (R : RelS K ρ S H) {T : Addr} (hT : H T = none) {d1 d2 : D} {x1 x2 : V} (r1 : RelD K ρ H d1 x1) (r2 : RelD K ρ H d2 x2) : Post K ρ H ρ (upd H T (.tup [x1, x2])) S ∧ RelD K ρ (upd H T (.tup [x1, x2])) (.tup [d1, d2]) (.ref T) :=
  R.new_tup hT (.cons r1 (.one r2))
theorem walk_enumT {a : Addr} {xs : List V} {ds : List D} (h : H a = some (.tup xs)) (q : RelDs K ρ H ds xs) : Walks K ρ H (IteT K a) (.fixed (enumsT 0 ds)) where
  go := fun ρ1 S1 H1 i d R1 p1 i1 hi hg => by
    simp only [Src.fixed, enumsT_get] at hg
    obtain ⟨d', hd, e⟩ := Option.map_eq_some_iff.mp hg
    subst e
    obtain ⟨v, hv, r⟩ := (q.mono i1.toImm p1).get hd
    have h1 := i1.tup _ _ h
    refine ⟨⟨xs, v, SqT.of h1, hv⟩, fun x H' ⟨T, y, ex, hT, eH, k⟩ => ?_⟩
    subst ex eH
    have := k xs (SqT.of h1)
    rw [hv] at this; cases this
    rw [Nat.zero_add]
    exact yld_pair R1 hT (RelD.int _) r
  stop := fun ρ1 S1 H1 R1 p1 i1 hf => ⟨xs, SqT.of (i1.tup _ _ h), by simp only [Src.fixed, enumsT_len]; rw [q.len]; exact Nat.le_refl _⟩
theorem walk_enumL {a : Addr} {d : D} {n : Nat} (hd : RelD K ρ H d (.ref a)) : Walks K ρ H (Ite K a) ⟨n, fun S i => (lsN d n S).bind fun es => (es[i]?).map (pr (i : Int)), fun S => (lsN d n S).isSome⟩ where
  go := fun ρ1 S1 H1 i d' R1 p1 i1 hi hg => by
    obtain ⟨es, e1, hg⟩ := bindE hg
    obtain ⟨d2, e2, e⟩ := Option.map_eq_some_iff.mp hg
    subst e
    obtain ⟨_, b, xs, eb, q, h1⟩ := lsN_rel R1 (hd.mono i1.toImm p1) e1
    cases eb
    obtain ⟨v, hv, r⟩ := q.get e2
    refine ⟨⟨xs, v, h1, hv⟩, fun x H' ⟨T, y, ex, hT, eH, k⟩ => ?_⟩
    subst ex eH
    have := k xs h1
    rw [hv] at this; cases this
    exact yld_pair R1 hT (RelD.int _) r
  stop := fun ρ1 S1 H1 R1 p1 i1 hf => by
    simp only [Option.isSome_iff_exists] at hf
    obtain ⟨es, e1⟩ := hf
    obtain ⟨hl, b, xs, eb, q, h1⟩ := lsN_rel R1 (hd.mono i1.toImm p1) e1
    cases eb
    exact ⟨xs, h1, by rw [q.len, hl]; exact Nat.le_refl _⟩
theorem ei_enum {elts : List Expr} {kk : Nat} {tpos p pos : Pos} {f : EvE} (hg : Gl X "enumerate") (hm : X.mg "enumerate" = none) (h : EE X e f) (hs : starEach [e] X.env = [(false, eval e X.env)] := by rfl) :
    EI X (.Tuple elts kk tpos) (.Call (.Name "enumerate" p) [e] [] pos) (enI f) := wkI (orI (pi_enum hg hm (ea_cons h ea_nil hs) hs) (pi_enumT hg hm (ea_cons h ea_nil hs) hs)) fun σ H R q => by
  obtain ⟨ρ, τ, S, s, S', A, e, k⟩ := q
  obtain ⟨⟨d, S1⟩, e1, e⟩ := bindE e
  obtain ⟨s', e2, e⟩ := Option.map_eq_some_iff.mp e
  cases e
  have ea : (consA f nilA) τ S = some ([d], S1) := by show (f τ S).bind _ = _; rw [e1]; rfl
  have lst : ∀ (ds : List D), lsOf d S1 = some ds → s = ⟨ds.length, fun S i => (lsN d ds.length S).bind fun es => (es[i]?).map (pr (i : Int)), fun S => (lsN d ds.length S).isSome⟩ → iEnum X.K (tA X.K (consA f nilA)) σ H R := fun ds e3 es => by
    subst es
    refine goA A ea fun ρ1 v1 H1 A1 P1 r1 => ?_
    obtain ⟨v, rfl, r⟩ := r1.one_
    obtain ⟨a, xs, rfl, q, h⟩ := lsOf_rel A1.s r e3
    exact ⟨a, xs, rfl, h, k _ _ _ P1 (walk_enumL r)⟩
  cases d with
  | tup ds =>
    cases e2
    refine .inr (goA A ea fun ρ1 v1 H1 A1 P1 r1 => ?_)
    obtain ⟨v, rfl, r⟩ := r1.one_
    obtain ⟨a, xs, rfl, h, q⟩ := r.tup_
    exact ⟨a, xs, rfl, SqT.of h, k _ _ _ P1 (walk_enumT h q)⟩
  | _ =>
    simp only [srcEnum] at e2
    obtain ⟨ds, e3, e4⟩ := Option.map_eq_some_iff.mp e2
    exact .inl (lst ds e3 e4.symm)
/-! zip -/
def zipsT : List D → List D → List D
  | a :: as, b :: bs => .tup [a, b] :: zipsT as bs
  | _, _ => []
theorem zipsT_len : ∀ (as bs : List D), (zipsT as bs).length = min as.length bs.length
  | [], _ => by simp [zipsT]
  | _ :: _, [] => by simp [zipsT]
  | a :: as, b :: bs => by
    simp only [zipsT, List.length_cons, zipsT_len as bs]; omega
theorem zipsT_get : ∀ (as bs : List D) (i : Nat) (d : D), (zipsT as bs)[i]? = some d → ∃ a b, as[i]? = some a ∧ bs[i]? = some b ∧ d = .tup [a, b]
  | [], _, _, _, h => by simp [zipsT] at h
  | _ :: _, [], _, _, h => by simp [zipsT] at h
  | a :: as, b :: bs, 0, d, h => by simp [zipsT] at h; exact ⟨a, b, rfl, rfl, h.symm⟩
  | a :: as, b :: bs, i + 1, d, h => by
    simp only [zipsT, List.getElem?_cons_succ] at h ⊢
    exact zipsT_get as bs i d h
def srcZip (x y : D) (S : Sto) : Option Src := match x, y with
  | .tup as, .tup bs => some (.fixed (zipsT as bs))
  | .tup as, .tn bs => some (.fixed (zipsT as bs))
  | x, y => (lsOf x S).bind fun as => (lsOf y S).map fun bs => ⟨min as.length bs.length, fun S i => (lsN x as.length S).bind fun es => (lsN y bs.length S).bind fun fs => (es[i]?).bind fun a => (fs[i]?).map fun b => .tup [a, b],
      fun S => (lsN x as.length S).isSome && (lsN y bs.length S).isSome⟩
def ziI (f g : EvE) : EvI := fun τ S => (f τ S).bind fun p => (g τ p.2).bind fun q => (srcZip p.1 q.1 q.2).map fun s => (s, q.2)
theorem walk_zipT {a b : Addr} {xs ys : List V} {ds es : List D} (h : SqT K H a xs) (q : RelDs K ρ H ds xs) (h2 : SqT K H b ys) (q2 : RelDs K ρ H es ys) : Walks K ρ H (RZ.ItzT K a b) (.fixed (zipsT ds es)) where
  go := fun ρ1 S1 H1 i d R1 p1 i1 hi hg => by
    obtain ⟨d1, d2, g1, g2, rfl⟩ := zipsT_get _ _ _ _ hg
    obtain ⟨v, hv, r⟩ := (q.mono i1.toImm p1).get g1
    obtain ⟨w, hw, r2⟩ := (q2.mono i1.toImm p1).get g2
    have h1 := i1.toImm.sqT h
    have h3 := i1.toImm.sqT h2
    refine ⟨⟨xs, ys, v, w, h1, h3, hv, hw⟩, fun x H' ⟨T, y, z, ex, hT, eH, k, k2⟩ => ?_⟩
    subst ex eH
    have := k xs h1
    rw [hv] at this; cases this
    have := k2 ys h3
    rw [hw] at this; cases this
    exact yld_pair R1 hT r r2
  stop := fun ρ1 S1 H1 R1 p1 i1 hf => ⟨xs, ys, i1.toImm.sqT h, i1.toImm.sqT h2, by simp only [Src.fixed, zipsT_len]; rw [q.len, q2.len]; omega⟩
theorem walk_zipL {a b : Addr} {d1 d2 : D} {n m : Nat} (hd : RelD K ρ H d1 (.ref a)) (hd2 : RelD K ρ H d2 (.ref b)) : Walks K ρ H (Itz K a b) ⟨min n m, fun S i => (lsN d1 n S).bind fun es => (lsN d2 m S).bind fun fs => (es[i]?).bind fun a => (fs[i]?).map fun b => .tup [a, b],
      fun S => (lsN d1 n S).isSome && (lsN d2 m S).isSome⟩ where
  go := fun ρ1 S1 H1 i d' R1 p1 i1 hi hg => by
    obtain ⟨es, e1, hg⟩ := bindE hg
    obtain ⟨fs, e2, hg⟩ := bindE hg
    obtain ⟨u1, e3, hg⟩ := bindE hg
    obtain ⟨u2, e4, e⟩ := Option.map_eq_some_iff.mp hg
    subst e
    obtain ⟨_, _, xs, eb, q, h1⟩ := lsN_rel R1 (hd.mono i1.toImm p1) e1
    cases eb
    obtain ⟨_, _, ys, eb, q2, h2⟩ := lsN_rel R1 (hd2.mono i1.toImm p1) e2
    cases eb
    obtain ⟨v, hv, r⟩ := q.get e3
    obtain ⟨w, hw, r2⟩ := q2.get e4
    refine ⟨⟨xs, ys, v, w, h1, h2, hv, hw⟩, fun x H' ⟨T, y, z, ex, hT, eH, k, k2⟩ => ?_⟩
    subst ex eH
    have := k xs h1
    rw [hv] at this; cases this
    have := k2 ys h2
    rw [hw] at this; cases this
    exact yld_pair R1 hT r r2
  stop := fun ρ1 S1 H1 R1 p1 i1 hf => by
    simp only [Bool.and_eq_true, Option.isSome_iff_exists] at hf
    obtain ⟨⟨es, e1⟩, fs, e2⟩ := hf
    obtain ⟨hl, _, xs, eb, q, h1⟩ := lsN_rel R1 (hd.mono i1.toImm p1) e1
    cases eb
    obtain ⟨hl2, _, ys, eb, q2, h2⟩ := lsN_rel R1 (hd2.mono i1.toImm p1) e2
    cases eb
    exact ⟨xs, ys, h1, h2, by rw [q.len, q2.len, hl, hl2]; show n ≤ min n m ∨ m ≤ min n m; omega⟩
theorem ei_zip {e2 : Expr} {elts : List Expr} {kk : Nat} {tpos p pos : Pos} {f g : EvE} (h1 : EE X e f) (h2 : EE X e2 g)
    (h : PA X [e, e2] (tA X.K (consA f (consA g nilA))) → PI X (.Tuple elts kk tpos) (.Call (.Name "zip" p) [e, e2] [] pos) (RZ.iZipA X.K (tA X.K (consA f (consA g nilA)))))
    (hs : starEach [e, e2] X.env = (false, eval e X.env) :: starEach [e2] X.env := by rfl) (hs2 : starEach [e2] X.env = (false, eval e2 X.env) :: starEach [] X.env := by rfl) :
    EI X (.Tuple elts kk tpos) (.Call (.Name "zip" p) [e, e2] [] pos) (ziI f g) := wkI (h (ea_cons h1 (ea_cons h2 ea_nil hs2) hs)) fun σ H R q => by
  obtain ⟨ρ, τ, S, s, S', A, e, k⟩ := q
  obtain ⟨⟨d, S1⟩, e1, e⟩ := bindE e
  obtain ⟨⟨d2, S2⟩, e2, e⟩ := bindE e
  obtain ⟨s', e3, e⟩ := Option.map_eq_some_iff.mp e
  cases e
  have ea : (consA f (consA g nilA)) τ S = some ([d, d2], S2) := by show (f τ S).bind _ = _; rw [e1]; show ((g τ S1).bind _).bind _ = _; rw [e2]; rfl
  refine goA A ea fun ρ1 v1 H1 A1 P1 r1 => ?_
  obtain ⟨v, w, rfl, r, r2⟩ := r1.two_
  have lst : ∀ as bs : List D, lsOf d S2 = some as → lsOf d2 S2 = some bs → s = ⟨min as.length bs.length, fun S i => (lsN d as.length S).bind fun es => (lsN d2 bs.length S).bind fun fs => (es[i]?).bind fun a => (fs[i]?).map fun b => .tup [a, b],
      fun S => (lsN d as.length S).isSome && (lsN d2 bs.length S).isSome⟩ → ∃ a b xs ys, [v, w] = [.ref a, .ref b] ∧ ((SqL X.K H1 a xs ∧ SqL X.K H1 b ys ∧ R (Itz X.K a b) H1) ∨ (SqT X.K H1 a xs ∧ SqT X.K H1 b ys ∧ R (RZ.ItzT X.K a b) H1)) := fun as bs g1 g2 es => by
    subst es
    obtain ⟨a, xs, rfl, q, h⟩ := lsOf_rel A1.s r g1
    obtain ⟨b, ys, rfl, q2, h2⟩ := lsOf_rel A1.s r2 g2
    exact ⟨a, b, xs, ys, rfl, .inl ⟨h, h2, k _ _ _ P1 (walk_zipL r r2)⟩⟩
  have gen : (lsOf d S2).bind (fun as => (lsOf d2 S2).map fun bs => (⟨min as.length bs.length, fun S i => (lsN d as.length S).bind fun es => (lsN d2 bs.length S).bind fun fs => (es[i]?).bind fun a => (fs[i]?).map fun b => .tup [a, b],
      fun S => (lsN d as.length S).isSome && (lsN d2 bs.length S).isSome⟩ : Src)) = some s → ∃ a b xs ys, [v, w] = [.ref a, .ref b] ∧ ((SqL X.K H1 a xs ∧ SqL X.K H1 b ys ∧ R (Itz X.K a b) H1) ∨ (SqT X.K H1 a xs ∧ SqT X.K H1 b ys ∧ R (RZ.ItzT X.K a b) H1)) := fun z => by
    obtain ⟨as, g1, z⟩ := bindE z
    obtain ⟨bs, g2, z⟩ := Option.map_eq_some_iff.mp z
    exact lst as bs g1 g2 z.symm
  cases d with
  | tup as =>
    cases d2 with
    | tup bs =>
      cases e3
      obtain ⟨a, xs, rfl, h, q⟩ := r.tup_
      obtain ⟨b, ys, rfl, h2, q2⟩ := r2.tup_
      exact ⟨a, b, xs, ys, rfl, .inr ⟨SqT.of h, SqT.of h2, k _ _ _ P1 (walk_zipT (SqT.of h) q (SqT.of h2) q2)⟩⟩
    | tn bs =>
      cases e3
      obtain ⟨a, xs, rfl, h, q⟩ := r.tup_
      obtain ⟨b, o, ys, rfl, h2, _, _, q2⟩ := r2.tn_
      have h2 : SqT X.K H1 b ys := .inl (.inr ⟨o, h2⟩)
      exact ⟨a, b, xs, ys, rfl, .inr ⟨SqT.of h, h2, k _ _ _ P1 (walk_zipT (SqT.of h) q h2 q2)⟩⟩
    | _ => exact gen e3
  | _ => exact gen e3
/-! reversed -/
def srcRev (d : D) (S : Sto) : Option Src := match d with
  | .tup ds => some (.fixed ds.reverse)
  | d => (lsOf d S).map fun ds => ⟨ds.length, fun S i => (lsOf d S).bind fun es => es[ds.length - 1 - i]?, fun S => true⟩
def reI (f : EvE) : EvI := fun τ S => (f τ S).bind fun p => (srcRev p.1 p.2).map fun s => (s, p.2)
/-! range with a step; ranges as lists and tuples -/
def rngC (lo c : Int) (n : Nat) : List D := (List.range n).map fun (i : Nat) => D.int (lo + (i : Int) * c)
theorem rngC_len (lo c : Int) (n : Nat) : (rngC lo c n).length = n := by simp [rngC]
theorem rngC_get (lo c : Int) (n i : Nat) : (rngC lo c n)[i]? = if i < n then some (.int (lo + (i : Int) * c)) else none := by
  unfold rngC
  rw [List.getElem?_map]
  by_cases h : i < n
  · rw [List.getElem?_range h, if_pos h]; rfl
  · rw [List.getElem?_eq_none (by simpa using h), if_neg h]; rfl
theorem walk_rngC {lo c : Int} {n : Nat} : Walks K ρ H (Itc lo c n) (.fixed (rngC lo c n)) where
  go := fun ρ1 S1 H1 i d R1 p1 i1 hi hg => by
    simp only [Src.fixed, rngC_len] at hi
    simp only [Src.fixed, rngC_get, if_pos hi, Option.some.injEq] at hg
    subst hg
    refine ⟨hi, fun x H' ⟨eH, k⟩ => ?_⟩
    subst eH k
    exact ⟨Post.refl R1, RelD.int _⟩
  stop := fun ρ1 S1 H1 R1 p1 i1 hf => by simp only [Src.fixed, rngC_len]; exact Nat.le_refl _
def rgI3 (f g h : EvE) : EvI := fun τ S => (f τ S).bind fun p => (g τ p.2).bind fun q => (h τ q.2).bind fun r => match p.1, q.1, r.1 with
  | .int i, .int j, .int c => if c ≠ 0 ∧ c.natAbs < 1073741824 ∧ Builtin.Range.small i j c = true ∧ 0 ≤ Builtin.Range.rangeSize i j c then some (.fixed (rngC i c (Builtin.Range.rangeSize i j c).toNat), r.2) else none
  | _, _, _ => none
theorem ei_range3 {a b c : Expr} {fa fb fc : EvE} {p pos : Pos} (ha : EE X a fa) (hb : EE X b fb) (hc : EE X c fc)
    (h : PA X [a, b, c] (tA X.K (consA fa (consA fb (consA fc nilA)))) → PI X tg (.Call (.Name "range" p) [a, b, c] [] pos) (iRng3 (tA X.K (consA fa (consA fb (consA fc nilA))))))
    (hs : starEach [a, b, c] X.env = (false, eval a X.env) :: starEach [b, c] X.env := by rfl) (hs2 : starEach [b, c] X.env = (false, eval b X.env) :: starEach [c] X.env := by rfl) (hs3 : starEach [c] X.env = (false, eval c X.env) :: starEach [] X.env := by rfl) : EI X tg (.Call (.Name "range" p) [a, b, c] [] pos) (rgI3 fa fb fc) :=
  wkI (h (ea_cons ha (ea_cons hb (ea_cons hc ea_nil hs3) hs2) hs)) fun σ H R q => by
    obtain ⟨ρ, τ, S, s, S', A, e, k⟩ := q
    obtain ⟨⟨d, S1⟩, e1, e⟩ := bindE e
    obtain ⟨⟨d2, S2⟩, e2, e⟩ := bindE e
    obtain ⟨⟨d3, S3⟩, e3, e⟩ := bindE e
    obtain ⟨i, rfl⟩ : ∃ i, d = .int i := by cases d <;> first | exact ⟨_, rfl⟩ | cases e
    obtain ⟨j, rfl⟩ : ∃ i, d2 = .int i := by cases d2 <;> first | exact ⟨_, rfl⟩ | cases e
    obtain ⟨l, rfl⟩ : ∃ i, d3 = .int i := by cases d3 <;> first | exact ⟨_, rfl⟩ | cases e
    simp only at e
    split at e
    · rename_i hb; cases e
      refine goA (d := [.int i, .int j, .int l]) A (by show (fa τ S).bind _ = _; rw [e1]; show ((fb τ S1).bind _).bind _ = _; rw [e2]; show (((fc τ S2).bind _).bind _).bind _ = _; rw [e3]; rfl) fun ρ1 vs H1 A1 P1 r1 => ?_
      simp only [RelDs] at r1
      obtain ⟨x, ys, rfl, q, y, zs, rfl, q2', z, us, rfl, q3', rfl⟩ := r1
      rw [q.int_, q2'.int_, q3'.int_]
      exact ⟨_, _, _, _, rfl, ⟨hb.1, hb.2.1, hb.2.2.1, (Int.toNat_of_nonneg hb.2.2.2).symm⟩, k _ _ _ P1 walk_rngC⟩
    · cases e
def rgOk (a b : Int) : Bool := big62 a && big62 b && decide ((b - a).toNat ≤ 10000000)
theorem rgOk_ok {a b : Int} (h : rgOk a b = true) : RgOk a b := by
  simp only [rgOk, Bool.and_eq_true, decide_eq_true_eq] at h
  obtain ⟨⟨h1, h2⟩, h3⟩ := h
  obtain ⟨a1, a2⟩ := big62_ok h1
  obtain ⟨b1, b2⟩ := big62_ok h2
  exact ⟨a1, a2, b1, b2, by omega⟩
/-- the ends of range(..) -/
abbrev EvR := Tau → Sto → Option ((Int × Int) × Sto)
def tR (K : PySem.W.Frag) (f : EvR) : St → Hp → (Int → Int → Hp → Prop) → Prop := fun σ H Q => ∃ ρ τ S d S', At K ρ τ S σ H ∧ f τ S = some (d, S') ∧ ∀ ρ' H', Post K ρ H ρ' H' S' → Q d.1 d.2 H'
def r1R (f : EvE) : EvR := fun τ S => (f τ S).bind fun p => match p.1 with | .int n => some ((0, n), p.2) | _ => none
theorem er_1 {f : EvE} {σ : St} {H : Hp} {Q : Int → Int → Hp → Prop} (q : tR K (r1R f) σ H Q) : tRg1 (tE K f) σ H Q := by
  obtain ⟨ρ, τ, S, d, S', A, e, k⟩ := q
  obtain ⟨⟨x, S1⟩, e1, e⟩ := bindE e
  cases x <;> cases e
  exact goE A e1 fun ρ1 v H1 A1 P1 r => ⟨_, r.int_, k _ _ P1⟩
def ER (X : Cx) (e : Expr) (f : EvR) : Prop := PRg X e (tR X.K f)
theorem er_range1 {a : Expr} {f : EvE} {p pos : Pos} (hg : Gl X "range") (hm : X.mg "range" = none) (ha : EE X a f) (na : starEach [a] X.env = (false, eval a X.env) :: starEach [] X.env := by rfl) : ER X (.Call (.Name "range" p) [a] [] pos) (r1R f) :=
  fun pins s σ H R I q => prg_1 hg hm ha na pins s σ H R I (er_1 q)
def rgL (f : EvR) : EvE := fun τ S => (f τ S).bind fun p => if rgOk p.1.1 p.1.2 then some (newD (.lst (rng p.1.1 (p.1.2 - p.1.1).toNat)) p.2) else none
theorem rg_rel (a b : Int) : RelDs K ρ H (rng a (b - a).toNat) (rgV a b) := by
  refine RelDs.of (by rw [rgV_length, rng_len]) fun i d v h1 h2 => ?_
  rw [rng_get] at h1
  unfold rgV at h2
  rw [List.getElem?_map] at h2
  split at h1
  · rename_i hi; cases h1
    rw [List.getElem?_range hi] at h2
    cases h2
    exact RelD.int _
  · cases h1
theorem ee_listRg {f : EvR} {p pos : Pos} (hc : X.calm = true) (hg : Gl X "list") (hm : X.mg "list" = none) (he : ER X e f) (na : starEach [e] X.env = (false, eval e X.env) :: starEach [] X.env := by rfl) : EE X (.Call (.Name "list" p) [e] [] pos) (rgL f) :=
  wkE (pe_listRg hc hg hm he na) fun σ H Q q => by
    obtain ⟨ρ, τ, S, d, S', A, e, k⟩ := q
    obtain ⟨⟨⟨x, y⟩, S1⟩, e1, e⟩ := bindE e
    split at e
    · rename_i hr; cases e
      refine ⟨ρ, τ, S, (x, y), _, A, e1, fun ρ1 H1 P1 => ⟨rgOk_ok hr, fun p hp => ?_⟩⟩
      obtain ⟨P, r⟩ := new_lst P1.rel hp (rg_rel x y)
      exact k _ _ _ (P1.trans P) r
    · cases e
/-! a < b < c -/
def chE (g g' : D → D → Sto → Option (D × Sto)) (fa fb fc : EvE) : EvE := fun τ S => (fa τ S).bind fun p => (fb τ p.2).bind fun q => (g p.1 q.1 q.2).bind fun r => match r.1 with
  | .bl b => if b then (fc τ r.2).bind fun z => g' q.1 z.1 z.2 else some (.bl false, r.2)
  | _ => none
/-! ### defs -/
abbrev Fn := List D → Sto → Option (D × Sto)
def spE (K : PySem.W.Frag) (g : Fn) : Sp := fun vs H Q _ => ∃ ρ S ds d S', RelS K ρ S H ∧ RelDs K ρ H ds vs ∧ g ds S = some (d, S') ∧ ∀ ρ' v H', Post K ρ H ρ' H' S' → RelD K ρ' H' d v → Q v H'
def fnD (n m : Nat) (b : EvS) : Fn := fun ds S => if ds.length = n then (b (ds.map some ++ List.replicate (m - n) none) S).bind fun p => match p.1 with
  | .rt d => some (d, p.2)
  | .nx _ => some (.non, p.2)
  | _ => none else none
structure Cal (P : Program) (w : World) (K : PySem.W.Frag) (mg : Str → Option Value) (base : Heap) (k : Nat) (x : Str) (g : Fn) : Prop where
  ex : ∃ (f : Addr) (fd : FuncData) (ps : List Str), FnOk P w K mg base CX0 k f fd ps (spE K g) ∧ mg x = some (.ref f) ∧ PySem.W.keepIn K (.ref f) = true ∧ Binds K fd ps []
theorem ee_call {k j : Nat} {x : Str} {g : Fn} {e0 : Expr} {es : List Expr} {fa : EvA} {p pos : Pos} (c : Cal X.prog X.w X.K X.mg X.base k x g) (hc : Ok X j) (hk : k ≤ j) (hg : Gl X x) (ha : EA X (e0 :: es) fa)
    (hdb : (x == ("__debug__" : Str)) = false := by decide) (he : starEach (e0 :: es) X.env = (false, eval e0 X.env) :: starEach es X.env := by rfl) (hpl : (backTo pos (starEach es X.env)).any (·.1) = false := by rfl) : EE X (.Call (.Name x p) (e0 :: es) [] pos) (aE g fa) := by
  obtain ⟨f, fd, ps, F, hm, hkp, hb⟩ := c.ex
  exact wkE (pe_call F (hc.room.mono hk) hg hm hkp hb .nil pass0 ha hdb he hpl) fun σ H Q q => by
    obtain ⟨ρ, τ, S, d, S', A, e, k⟩ := q
    obtain ⟨⟨x, S1⟩, e1, e⟩ := bindE e
    refine goA A e1 fun ρ1 v1 H1 A1 P1 r1 => ?_
    rw [List.append_nil]
    exact ⟨ρ1, S1, x, d, S', A1.s, r1, e, fun ρ2 v H2 P2 r2 => k ρ2 v H2 (P1.trans P2) r2⟩
end
section
variable {P : Program} {w : World} {K : PySem.W.Frag} {mg : Str → Option Value} {base : Heap}
theorem start_rel {ρ : List Addr} {H : Hp} {ds : List D} {vs : List V} (r : RelDs K ρ H ds vs) (m : Nat) : RelT K ρ H (ds.map some ++ List.replicate m none) (vs.map some ++ List.replicate m none) := by
  refine ⟨by simp [r.len], fun i d e => ?_⟩
  rw [List.getElem?_append] at e
  split at e
  · rename_i hi
    rw [List.getElem?_map] at e
    cases h : ds[i]? with
    | none => rw [h] at e; cases e
    | some d' =>
      rw [h] at e; cases e
      obtain ⟨v, hv, q⟩ := r.get h
      refine ⟨v, ?_, q⟩
      rw [List.getElem?_append_left (by simpa [r.len] using hi), List.getElem?_map, hv]; rfl
  · rw [List.getElem?_replicate] at e
    split at e <;> cases e
/-- THE RULE of a def -/
theorem fn_mk {x qual : Str} {st : Stmt} {f : Addr} {fd : FuncData} {N ps : List Str} {k : Nat} {b : EvS} (F : Fun K x qual st f fd) (S : FnScope N ps (defScope st))
    (hb : ∀ (cdv : Value) (A : Around) (outer : List Env) (s : Shared) (H : Hp) (E : XK), Ok (cxOf CX0 P w K mg base N qual (defScope st) f cdv A outer s H E).nox k → ESs (fun _ _ _ _ => False) (cxOf CX0 P w K mg base N qual (defScope st) f cdv A outer s H E).nox (defBody st) b) :
    FnOk P w K mg base CX0 (k + 1) f fd ps (spE K (fnD ps.length N.length b)) := by
  refine F.ok S (fun vs H Q E h => ?_) (fun cdv A outer s H vs Q E hr h => ?_)
  · obtain ⟨ρ, S, ds, d, S', R, r, e, _⟩ := h
    unfold fnD at e
    split at e
    · rename_i hl; rw [r.len, hl]
    · cases e
  · obtain ⟨ρ, S, ds, d, S', R, r, e, kk⟩ := h
    refine ⟨_, hb cdv A outer s H E ⟨rfl, hr⟩, ?_⟩
    unfold fnD at e
    split at e
    · rename_i hl
      obtain ⟨⟨o, S1⟩, e1, e⟩ := bindE e
      have T := start_rel r (N.length - ps.length)
      have hv : vs.length = ps.length := by rw [r.len, hl]
      refine ⟨ρ, _, S, o, S1, ⟨R, ?_⟩, e1, fun ρ1 H1 P1 => ?_⟩
      · unfold L2.start; rw [hv]; exact T
      · cases o with
        | rt d1 => cases e; exact fun v r1 => kk ρ1 v H1 P1 r1
        | nx τ1 => cases e; exact fun σ1 t1 => kk ρ1 .non H1 P1 RelD.non
        | bk _ => cases e
        | ct _ => cases e
        | ex _ _ _ => cases e
    · cases e
end
end SW
namespace SW
open PySem L2

/-- the built-ins' names are the built-ins' still -/
structure Bi (mg : Str → Option Value) : Prop where
  n_len : mg "len" = none
  n_abs : mg "abs" = none
  n_max : mg "max" = none
  n_min : mg "min" = none
  n_divmod : mg "divmod" = none
  n_sum : mg "sum" = none
  n_all : mg "all" = none
  n_any : mg "any" = none
  n_isinstance : mg "isinstance" = none
  n_sorted : mg "sorted" = none
  n_int : mg "int" = none
  n_bool : mg "bool" = none
  n_str : mg "str" = none
  n_list : mg "list" = none
  n_tuple : mg "tuple" = none
  n_dict : mg "dict" = none
  n_set : mg "set" = none
  n_range : mg "range" = none
  n_enumerate : mg "enumerate" = none
  n_zip : mg "zip" = none
  n_reversed : mg "reversed" = none
/-- a def of the text stands where its name says -/
structure DefAt (K : PySem.W.Frag) (mg : Str → Option Value) (x : Str) (st : Stmt) (ps : List Str) : Prop where
  ex : ∃ (f : Addr) (fd : FuncData), Fun K x x st f fd ∧ mg x = some (.ref f) ∧ Binds K fd ps []
theorem defAt {K : PySem.W.Frag} {h : Heap} {mg : Str → Option Value} (X : K.In h) (G : h.Ns mainGlobals mg) {x : Str} {st : Stmt} {ps : List Str} {f : Addr} {oc : Value} {od an : Option Addr} {osl : Array (Option Value)} {kV doc pm cdv ct : Value}
    (hb : ∀ (kV doc pm : Value) (an : Option Addr) (cdv ct : Value) (us : List Value), us.length = ps.length → bindArgs (PySem.W.fnOf x x (defArgs st) (defBody st) (defScope st) .none kV doc pm an cdv ct) ⟨us, []⟩ = pure (ps.zip us))
    (a : PySem.W.nsIn K mainGlobals x = some (some (.ref f)))
    (l : K.lookup f = some ⟨oc, od, .func (PySem.W.fnOf x x (defArgs st) (defBody st) (defScope st) .none kV doc pm an cdv ct), osl⟩)
    (c : PySem.W.codeIn K cdv x = true) (k : PySem.W.keepIn K (.ref f) = true) : DefAt K mg x st ps :=
  have F := fun_mk (st := st) l c k
  ⟨f, _, F, PySem.W.mg_of X G a, F.binds hb⟩
theorem fn_zero {P : Program} {w : World} {K : PySem.W.Frag} {mg : Str → Option Value} {base : Heap} {k : Nat} {f : Addr} {fd : FuncData} {ps : List Str} : FnOk P w K mg base CX0 k f fd ps (spE K fun _ _ => none) :=
  ⟨fun vs H Q E h => (by obtain ⟨ρ, S, ds, d, S', R, r, e, _⟩ := h; cases e), fun A outer s H args us vs Q E hr he hb hv h => (by obtain ⟨ρ, S, ds, d, S', R, r, e, _⟩ := h; cases e)⟩
section
variable {X : Cx} {K : PySem.W.Frag}
def addI : D → D → Sto → Option (D × Sto)
  | .int i, .int j, S => some (.int (i + j), S)
  | _, _, _ => none
theorem op2_iadd : Op2 K (ipI (· + ·)) addI := fun ρ S H x y v w d S' R r1 r2 e Q k => by
  cases x <;> cases y <;> simp only [addI] at e <;> try cases e
  rw [r1.int_, r2.int_]
  exact ⟨_, _, rfl, rfl, kRefl R k (RelD.int _)⟩
end
theorem ints_rel {K : PySem.W.Frag} {ρ : List Addr} {H : Hp} : ∀ ns : List Int, RelDs K ρ H (ns.map D.int) (ns.map V.int)
  | [] => .nil
  | n :: ns => .cons (RelD.int n) (ints_rel ns)
/-- the law's end: a script's ints as a list that nobody writes at -/
theorem fz_of {K : PySem.W.Frag} {H : Hp} {a : Addr} {xs : List V} (hO : Only H) (h : SqL K H a xs) : FzL K H a xs := by
  rcases h with (h | ⟨o, h⟩) | h
  · rcases hO a with q | ⟨o, ys, q⟩
    · rw [q] at h; cases h
    · rw [q] at h; cases h
  · exact .inl ⟨o, h⟩
  · exact .inr h
theorem walk {l : PySem.W.OpenLaw} {q : Program} {loose : List Str} {XP : (Str → Option Value) → Heap → Prop} {YP : World → Heap → Prop} {d : DefRec} {K : Params → PySem.W.Frag} {k : Nat} {g : Fn} {x : Str} (hn : l.most = some 63) (hdf : d.params.defaults = []) (hr : Room k callerA)
    (hY : ∀ (w : World) (h : Heap), YP w h → (K w.params).In h)
    (hg : ∀ ns : List Int, ns.length ≤ 63 → ∃ S', g [.fl (ns.map D.int)] [] = some (.bl true, S'))
    (F : ∀ (w : World) (mg : Str → Option Value) (fa : Addr) (h : Heap), (K w.params).In h → h.Ns mainGlobals mg → mg d.name = some (.ref fa) →
      ∃ fd : FuncData, (∀ (s : Shared) (u : Value), BindsTo s fd ⟨[u], []⟩ [(x, u)]) ∧ ∀ base : Heap, (K w.params).In base → base.Ns mainGlobals mg → FnOk l.prog w (K w.params) mg base CX0 k fa fd [x] (spE (K w.params) g)) :
    PySem.W.WalkO q loose XP YP l.row.toRowW d [] (fun f vs => PySem.call f vs) :=
  L2.walk_of (n := 63) (k := k) (x := x) (CX := fun _ => CX0) (sp := fun w => spE (K w.params) g) hn (by decide) hdf hr hY F (fun w H a ns hl hO hS => by
    obtain ⟨S', e⟩ := hg ns hl
    refine ⟨[], [], [.fl (ns.map D.int)], .bl true, S', ⟨rfl, List.nodup_nil, fun n o h => by simp at h⟩, ?_, e, fun ρ' v H' P r => r.bl_⟩
    refine .one ?_
    simp only [RelD]
    exact ⟨a, _, rfl, fz_of hO hS, ints_rel ns⟩) fun _ _ _ _ _ z => z
end SW
namespace SW
open PySem L2
section
variable {K : PySem.W.Frag}
end
section
variable {X : Cx} {pos : Pos}
/-- {k: v}, the key a number or a text -/
def d1E (fk fv : EvE) : EvE := fun τ S => (fk τ (S ++ [.dK []])).bind fun p => (fv τ p.2).bind fun q => match q.2[S.length]? with
  | some (.dK []) => (kOf p.1).map fun k => (.loc S.length, q.2.set S.length (.dK [(k, q.1)]))
  | _ => none
theorem ee_d1 {a b : Expr} {fk fv : EvE} (hk : EE X a fk) (hv : EE X b fv) : EE X (.Dict [some a] [b] pos) (d1E fk fv) := wkE (pe_disp (pps_cons hk hv pps_nil) rfl rfl (by simp) (by simp)) fun σ H Q q => by
  obtain ⟨ρ, τ, S, d, S', A, e, kk⟩ := q
  intro p hp
  obtain ⟨P1, r1⟩ := A.s.new (o := .dK []) (ho := .dK []) hp ⟨[], upd_same, rfl, .nil⟩
  have A1 := A.go P1
  obtain ⟨⟨x, S1⟩, e1, e⟩ := bindE e
  obtain ⟨⟨y, S2⟩, e2, e⟩ := bindE e
  refine goE A1 e1 fun ρ2 v2 H2 A2 P2 r2 => goE A2 e2 fun ρ3 v3 H3 A3 P3 r3 => ?_
  split at e
  · rename_i eo
    obtain ⟨kx, ek, e⟩ := Option.map_eq_some_iff.mp e
    cases e
    have rl := r1.mono ((P2.trans P3).imm A1.s) (P2.trans P3).pre
    obtain ⟨a, xs, hra, hn, h, q⟩ := A3.s.dK eo rl
    cases hra
    have q0 := q.nil_
    subst q0
    refine ⟨h, [(kx, v3)], by rw [kOf_rel r2 ek]; rfl, by simp, ?_⟩
    exact kk _ _ _ (((P1.trans P2).trans P3).trans (A3.s.put hn (by rw [h]; trivial) ⟨_, upd_same, ((RelKV.nil).cons (k := kx) r3).mono (immPut A3.s hn _) List.prefix_rfl⟩)) rl
  · cases e
end
end SW
namespace SW
open PySem L2
section
variable {X : Cx} {W : WX} {K : PySem.W.Frag} {ρ : List Addr} {S S' : Sto} {H : Hp} {pos apos cpos : Pos} {o e f : Expr} {fo fe ff : EvE}
theorem RelN.nil : RelN K ρ H [] [] := ⟨rfl, .nil, fun x hx => by simp at hx⟩
/-! methods of dicts -/
/-- is it a dict, of which kind -/
def isKT (d : D) (S : Sto) : Bool := match d with
  | .loc n => match S[n]? with
    | some (.dK _) => true
    | some (.dT _) => true
    | some (.lK _) => true
    | some (.lT _) => true
    | _ => false
  | _ => false
def isNd (d : D) (S : Sto) : Bool := match d with
  | .loc n => match (S[n]?).bind nAt with
    | some _ => true
    | _ => false
  | _ => false
theorem isKT_rel (R : RelS K ρ S H) {d : D} {v : V} (r : RelD K ρ H d v) (e : isKT d S = true) : ∃ a, v = .ref a ∧ IsD H a := by
  cases d <;> simp only [isKT] at e <;> try cases e
  split at e
  · rename_i eo; obtain ⟨a, xs, rfl, _, h, _⟩ := R.dK eo r; exact ⟨a, rfl, .inl ⟨xs, .inl h⟩⟩
  · rename_i eo; obtain ⟨a, xs, rfl, _, h, _⟩ := R.dT eo r; exact ⟨a, rfl, .inr ⟨xs, .inl h⟩⟩
  · rename_i eo; obtain ⟨a, xs, od, rfl, _, h, _⟩ := R.lK eo r; exact ⟨a, rfl, .inl ⟨xs, .inr ⟨od, h⟩⟩⟩
  · rename_i eo; obtain ⟨a, xs, od, rfl, _, h, _⟩ := R.lT eo r; exact ⟨a, rfl, .inr ⟨xs, .inr ⟨od, h⟩⟩⟩
  · cases e
theorem isNd_rel (R : RelS K ρ S H) {d : D} {v : V} (r : RelD K ρ H d v) (e : isNd d S = true) : ∃ a xs, v = .ref a ∧ DN H a xs := by
  cases d <;> simp only [isNd] at e <;> try cases e
  split at e
  · rename_i kvs eo
    obtain ⟨o, e1, e2⟩ := bindE eo
    obtain ⟨a, xs, rfl, dn, _⟩ := nAt_rel R e1 e2 r
    exact ⟨a, xs, rfl, dn⟩
  · cases e
def hasK (b : Bool) (d y : D) (S : Sto) : Option (Option D) := match d with
  | .loc n => if b then dHas n y S else none
  | _ => none
def hasN (b : Bool) (d y : D) (S : Sto) : Option (Option D) := match d with
  | .loc n => if b then nHas n y S else none
  | _ => none
theorem hasK_rel (R : RelS K ρ S H) {b : Bool} {x y : D} {v w : V} {o : Option D} (r1 : RelD K ρ H x v) (r2 : RelD K ρ H y w) (e : hasK b x y S = some o) {z : V} {dz : D} (rz : RelD K ρ H dz z) :
    b = true ∧ ∃ a u, v = .ref a ∧ DGet H a w u ∧ RelD K ρ H (o.getD dz) (u.getD z) := by
  cases x <;> simp only [hasK] at e <;> try cases e
  split at e
  · rename_i hb
    obtain ⟨a, u, rfl, g, hs, hz⟩ := dHas_rel R r1 r2 e
    refine ⟨hb, a, u, rfl, g, ?_⟩
    cases o with
    | some d => obtain ⟨t, rfl, r⟩ := hz d rfl; exact r
    | none =>
      have : u = none := by cases u with | none => rfl | some z => simp at hs
      subst this; exact rz
  · cases e
theorem hasN_rel (R : RelS K ρ S H) {b : Bool} {x y : D} {v w : V} {o : Option D} (r1 : RelD K ρ H x v) (r2 : RelD K ρ H y w) (e : hasN b x y S = some o) {z : V} {dz : D} (rz : RelD K ρ H dz z) :
    b = true ∧ ∃ a u, v = .ref a ∧ DGN H a w u ∧ RelD K ρ H (o.getD dz) (u.getD z) := by
  cases x <;> simp only [hasN] at e <;> try cases e
  split at e
  · rename_i hb
    obtain ⟨a, u, rfl, g, hs, hz⟩ := nHas_rel R r1 r2 e
    refine ⟨hb, a, u, rfl, g, ?_⟩
    cases o with
    | some d => obtain ⟨t, rfl, r⟩ := hz d rfl; exact r
    | none =>
      have : u = none := by cases u with | none => rfl | some z => simp at hs
      subst this; exact rz
  · cases e
/-- o.get(e), o.get(e, f) -/
def getE (fo fe : EvE) : EvE := fun τ S => (fo τ S).bind fun p => (fe τ p.2).bind fun q => ((hasK (isKT p.1 p.2) p.1 q.1 q.2).orElse fun _ => hasN (isNd p.1 p.2) p.1 q.1 q.2).map fun o => (o.getD .non, q.2)
theorem ee_get {k : Nat} (hc : Ok X k) (ho : EE X o fo) (he : EE X e fe) (m : M1 X o "get" apos e cpos := by exact ⟨rfl, rfl, rfl, rfl⟩) : EE X (.Call (.Attribute o "get" apos) [e] [] cpos) (getE fo fe) :=
  wkE (orE (pe_dget1 (by have := hc.units; omega) ho he m) (pe_nget1 hc.units ho he m)) fun σ H Q q => by
  obtain ⟨ρ, τ, S, d, S', A, e, k⟩ := q
  obtain ⟨⟨x, S1⟩, e1, f1⟩ := bindE e
  obtain ⟨⟨y, S2⟩, e2, f2⟩ := bindE f1
  obtain ⟨ov, e3, f3⟩ := Option.map_eq_some_iff.mp f2
  cases f3
  rcases orElse_some e3 with e3 | e3
  · refine .inl (goE A e1 fun ρ1 v1 H1 A1 P1 r1 => ?_)
    have hb : isKT x S1 = true := by cases x <;> simp only [hasK] at e3 <;> first | cases e3 | (split at e3 <;> first | assumption | cases e3)
    obtain ⟨a, rfl, isd⟩ := isKT_rel A1.s r1 hb
    refine ⟨a, rfl, isd, goE A1 e2 fun ρ2 v2 H2 A2 P2 r2 => ?_⟩
    obtain ⟨_, b, u, eb, g, hz⟩ := hasK_rel A2.s (r1.mono (P2.imm A1.s) P2.pre) r2 e3 (RelD.non)
    cases eb
    exact ⟨u, g, k ρ2 _ _ (P1.trans P2) hz⟩
  · refine .inr (goE A e1 fun ρ1 v1 H1 A1 P1 r1 => ?_)
    have hb : isNd x S1 = true := by cases x <;> simp only [hasN] at e3 <;> first | cases e3 | (split at e3 <;> first | assumption | cases e3)
    obtain ⟨a, xs, rfl, dn⟩ := isNd_rel A1.s r1 hb
    refine ⟨a, xs, rfl, dn, goE A1 e2 fun ρ2 v2 H2 A2 P2 r2 => ?_⟩
    obtain ⟨_, b, u, eb, g, hz⟩ := hasN_rel A2.s (r1.mono (P2.imm A1.s) P2.pre) r2 e3 (RelD.non)
    cases eb
    exact ⟨u, g, k ρ2 _ _ (P1.trans P2) hz⟩
end
section
variable {X : Cx} {W : WX}
end
end SW
/-! sorted: lists of pairs of any length, dicts with pairs as keys -/
namespace SW
open PySem L2 PyProof.Rows

theorem paired_get {α β : Type} {F : α → β → Prop} : ∀ {l : List α} {m : List β} {i : Nat} {a : α}, Paired F l m → l[i]? = some a → ∃ b, m[i]? = some b ∧ F a b
  | _, _, 0, _, .cons h _, e => by simp at e; subst e; exact ⟨_, rfl, h⟩
  | _, _, i + 1, _, .cons _ t, e => by simpa using paired_get t (by simpa using e)
  | _, _, _, _, .nil, e => by simp at e
def sortPL (ps : List (Int × Int)) : List (Int × Int) := ps.mergeSort fun p q => !SrtO.lexB q p
abbrev LexS (l : List (Int × Int)) : Prop := l.Pairwise fun p q => SrtO.lexB q p = false
theorem sortPL_perm (ps : List (Int × Int)) : (sortPL ps).Perm ps := List.mergeSort_perm _ _
theorem sortPL_pw (ps : List (Int × Int)) : LexS (sortPL ps) := by
  have := List.pairwise_mergeSort (le := fun p q : Int × Int => !SrtO.lexB q p) (fun a b c h1 h2 => by
    simp only [Bool.not_eq_true'] at h1 h2 ⊢
    rw [SrtO.lexB_no] at h1 h2 ⊢
    omega) (fun a b => by
    simp only [Bool.or_eq_true, Bool.not_eq_true']
    rw [SrtO.lexB_no, SrtO.lexB_no]
    omega) ps
  exact this.imp fun h => by simpa using h
theorem lex_uniq {l m : List (Int × Int)} (p : l.Perm m) (h1 : LexS l) (h2 : LexS m) : l = m :=
  p.eq_of_pairwise (fun a b _ _ x y => by
    rw [SrtO.lexB_no] at x y
    exact Prod.ext (by omega) (by omega)) h1 h2
section
variable {K : PySem.W.Frag} {ρ : List Addr} {S : Sto} {H : Hp}
end
end SW
/-! a dict is locked while a loop walks its keys -/
namespace SW
open PySem L2 PyProof.Rows

def lkO : MO → Option MO
  | .dN kvs => some (.lN kvs)
  | .dK kvs => some (.lK kvs)
  | _ => none
def ulO : MO → Option MO
  | .lN kvs => some (.dN kvs)
  | .lK kvs => some (.dK kvs)
  | _ => none
def isX : Out → Bool
  | .ex _ _ _ => true
  | _ => false
def lkS (i : Nat) (f : EvS) : EvS := fun τ S => (τ[i]?.join).bind fun d => match d with
  | .loc n => ((S[n]?).bind lkO).bind fun o => (f τ (S.set n o)).bind fun p => if isX p.1 then none else ((p.2[n]?).bind ulO).map fun o2 => (p.1, p.2.set n o2)
  | _ => none
section
variable {K : PySem.W.Frag} {ρ ρ' : List Addr} {S S' : Sto} {H H' : Hp}
theorem RelS.put0 (R : RelS K ρ S H) {n : Nat} {a : Addr} (hn : ρ[n]? = some a) {o : MO} {ho : HO} (q : ObjR K ρ (upd H a ho) a o) : RelS K ρ (S.set n o) (upd H a ho) := by
  have im := immPut R hn ho
  refine ⟨by simp [R.len], R.nd, fun m ob e => ?_⟩
  rw [List.getElem?_set] at e
  split at e
  · rename_i hnm; subst hnm
    split at e
    · cases e; exact ⟨a, hn, q⟩
    · cases e
  · rename_i hnm
    obtain ⟨b, hb, q'⟩ := R.obj m ob e
    refine ⟨b, hb, q'.mono im List.prefix_rfl (upd_ne fun e => hnm ?_)⟩
    subst e
    have l1 := (List.getElem?_eq_some_iff.mp hn).1
    have l2 := (List.getElem?_eq_some_iff.mp hb).1
    exact (List.getElem?_inj l1 R.nd).mp (by rw [hn, hb])
/-- locking -/
theorem lock_rel (R : RelS K ρ S H) {n : Nat} {o : MO} (e : (S[n]?).bind lkO = some o) : ∃ a u, ρ[n]? = some a ∧ H a = some u ∧ Mut (some u) ∧ ∀ od, RelS K ρ (S.set n o) (upd H a (.frz od u)) ∧ Imm H (upd H a (.frz od u)) := by
  obtain ⟨o0, e0, e⟩ := Option.bind_eq_some_iff.mp e
  unfold lkO at e
  split at e
  · cases e
    rename_i kvs
    obtain ⟨a, ha, xs, h1, q⟩ := R.obj n _ e0
    refine ⟨a, dNO a xs, ha, h1, trivial, fun od => ⟨R.put0 ha ⟨xs, od, upd_same, q.mono (immPut R ha _) List.prefix_rfl⟩, immPut R ha _⟩⟩
  · cases e
    rename_i kvs
    obtain ⟨a, ha, xs, h1, q⟩ := R.obj n _ e0
    refine ⟨a, .dK xs, ha, h1, trivial, fun od => ⟨R.put0 ha ⟨xs, od, upd_same, q.mono (immPut R ha _) List.prefix_rfl⟩, immPut R ha _⟩⟩
  · cases e
/-- .. and unlocking -/
theorem unlock_rel (R : RelS K ρ S H) {n : Nat} {a : Addr} {o : MO} {od : Obj} {u : HO} (ha : ρ[n]? = some a) (hu : H a = some (.frz od u)) (e : (S[n]?).bind ulO = some o) : RelS K ρ (S.set n o) (upd H a u) ∧ Imm H (upd H a u) := by
  obtain ⟨o0, e0, e⟩ := Option.bind_eq_some_iff.mp e
  unfold ulO at e
  split at e
  · cases e
    rename_i kvs
    obtain ⟨b, hb, xs, od', h1, q⟩ := R.obj n _ e0
    rw [ha] at hb; cases hb
    rw [hu] at h1
    have hux : u = dNO a xs := by
      have := Option.some.inj h1
      injection this
    subst hux
    exact ⟨R.put0 ha ⟨xs, upd_same, q.mono (immPut R ha _) List.prefix_rfl⟩, immPut R ha _⟩
  · cases e
    rename_i kvs
    obtain ⟨b, hb, xs, od', h1, q⟩ := R.obj n _ e0
    rw [ha] at hb; cases hb
    rw [hu] at h1
    have hux : u = .dK xs := by
      have := Option.some.inj h1
      injection this
    subst hux
    exact ⟨R.put0 ha ⟨xs, upd_same, q.mono (immPut R ha _) List.prefix_rfl⟩, immPut R ha _⟩
  · cases e
theorem lock_post {a : Addr} {n : Nat} {od : Obj} {u : HO} {S2 : Sto} (R : RelS K ρ S H) (ha : ρ[n]? = some a) (hu : H a = some u) (mu : Mut (some u)) (P : Post K ρ (upd H a (.frz od u)) ρ' H' S') (R2 : RelS K ρ' S2 (upd H' a u)) : Post K ρ H ρ' (upd H' a u) S2 := by
  have ma : a ∈ ρ := List.mem_of_getElem? ha
  refine ⟨R2, P.pre, fun b ob nb h => ?_, fun b ob v h => ?_⟩
  · have ne : b ≠ a := fun e => nb (e ▸ ma)
    obtain ⟨n1, h1⟩ := P.keep b ob nb (by rw [upd_ne ne]; exact h)
    exact ⟨n1, by rw [upd_ne ne]; exact h1⟩
  · have ne : b ≠ a := fun e => by
      rw [e, hu] at h
      cases h
      exact mu
    rw [upd_ne ne]
    exact P.lck b ob v (by rw [upd_ne ne]; exact h)
end
section
variable {X : Cx} {W : WX}
theorem es_lock {st : Stmt} {i : Nat} {f : EvS} (h : ES W X st f) : ES W X st (lkS i f) := wkS (ps_lock h) fun D σ H q => by
  obtain ⟨ρ, τ, S, o, S', A, e, k⟩ := q
  unfold lkS at e
  obtain ⟨d, e1, e⟩ := bindE e
  split at e
  · rename_i n
    obtain ⟨ol, e2, e⟩ := bindE e
    obtain ⟨⟨o1, S1⟩, e3, e⟩ := bindE e
    split at e
    · cases e
    rename_i hnx
    obtain ⟨ou, e4, e⟩ := Option.map_eq_some_iff.mp e
    cases e
    obtain ⟨a, u, ha, hu, mu, hl⟩ := lock_rel A.s e2
    refine ⟨a, u, hu, mu, fun od => ?_⟩
    obtain ⟨R1, im1⟩ := hl od
    refine ⟨ρ, τ, _, o1, S1, ⟨R1, A.t.mono im1 List.prefix_rfl⟩, e3, fun ρ' H' P => ?_⟩
    have hfr : H' a = some (.frz od u) := P.lck a od u upd_same
    obtain ⟨R2, im2⟩ := unlock_rel P.rel (prefix_get P.pre ha) hfr e4
    have PP := lock_post A.s ha hu mu P R2
    have kk := k ρ' _ PP
    cases o1 with
    | nx τ' => exact fun σ' t' => ⟨hfr, kk σ' (t'.mono im2 List.prefix_rfl)⟩
    | rt d => exact fun v r => ⟨hfr, kk v (r.mono im2 List.prefix_rfl)⟩
    | bk τ' => exact fun σ' t' => ⟨hfr, kk σ' (t'.mono im2 List.prefix_rfl)⟩
    | ct τ' => exact fun σ' t' => ⟨hfr, kk σ' (t'.mono im2 List.prefix_rfl)⟩
    | ex c fs τ' => exact (hnx rfl).elim
  · cases e
end
/-! the keys of a locked dict -/
mutual
def kD : NestedKey → Option D
  | .none => some .non
  | .num i => some (.int i)
  | .text _ => none
  | .tup ks => (kDs ks).map .tup
def kDs : List NestedKey → Option (List D)
  | [] => some []
  | k :: ks => (kD k).bind fun d => (kDs ks).map (d :: ·)
end
mutual
theorem kD_rel {K : PySem.W.Frag} {ρ : List Addr} {H : Hp} : ∀ {k : NestedKey} {v : V} {d : D}, NkV H k v → kD k = some d → RelD K ρ H d v
  | .none, v, d, q, e => by
    simp only [NkV] at q; simp only [kD] at e; cases e; subst q; simp [RelD]
  | .num i, v, d, q, e => by
    simp only [NkV] at q; simp only [kD] at e; cases e; subst q; simp [RelD]
  | .text x, v, d, q, e => by simp [kD] at e
  | .tup ks, v, d, q, e => by
    simp only [NkV] at q
    obtain ⟨a, xs, rfl, h, q⟩ := q
    simp only [kD] at e
    obtain ⟨ds, e1, rfl⟩ := Option.map_eq_some_iff.mp e
    exact RelD.tup h (kDs_rel q e1)
theorem kDs_rel {K : PySem.W.Frag} {ρ : List Addr} {H : Hp} : ∀ {ks : List NestedKey} {vs : List V} {ds : List D}, NkVs H ks vs → kDs ks = some ds → RelDs K ρ H ds vs
  | [], vs, ds, q, e => by
    simp only [NkVs] at q; simp only [kDs] at e; cases e; subst q; simp [RelDs]
  | k :: ks, vs, ds, q, e => by
    simp only [NkVs] at q
    obtain ⟨y, ys, rfl, q1, q2⟩ := q
    simp only [kDs] at e
    obtain ⟨d, e1, e⟩ := bindE e
    obtain ⟨ds', e2, rfl⟩ := Option.map_eq_some_iff.mp e
    simp only [RelDs]
    exact ⟨y, ys, rfl, kD_rel q1 e1, kDs_rel q2 e2⟩
end
theorem Inv.frzN {X : Cx} {pins : List (Addr × Obj)} {σ : L2.St} {H : Hp} {s : Shared} {d : Addr} {o : Obj} {xs : List NEnt} (I : L2.Inv X pins σ H s) (h : H d = some (.frz o (dNO d xs))) :
    (d == sysModules) = false ∧ s.heap.get? d = some o ∧ o.ExactDict ∧ ∃ (es : Array DictEntry) (ep : Nat), o.data = .dict es ep ∧ es.size = xs.length ∧ ∀ (i : Nat) (x : NEnt), xs[i]? = some x → ∃ en, es[i]? = some en ∧ en.key = .ref x.2.1 := by
  obtain ⟨hd, ⟨⟨hz, lo, ys, rel, _, o', es, ep, ho, hx, hdt, hes⟩, _, _⟩⟩ := (show ObjOk X.prog X.w H s.heap d (.frz o (dNO d xs)) from I.hok d _ h)
  rw [hd] at ho
  cases ho
  have hes := hes X.w
  have hys : ys.length = xs.length := rel.length.symm
  refine ⟨lo, hd, hx, es, ep, hdt, by rw [← Array.length_toList, hes, List.length_map, hys], fun i x e => ?_⟩
  obtain ⟨y, h3, h4⟩ := SW.paired_get rel e
  refine ⟨_, by rw [← Array.getElem?_toList, hes, List.getElem?_map, h3]; rfl, ?_⟩
  show Value.ref y.2.1 = _
  rw [h4.2.1]
def Itn (d : Addr) (o : Obj) : It :=
  ⟨fun i H => ∃ xs, H d = some (.frz o (dNO d xs)) ∧ i < xs.length, fun i H x H' => H' = H ∧ ∀ xs, H d = some (.frz o (dNO d xs)) → ∃ e, xs[i]? = some e ∧ x = .ref e.2.1, fun i H => ∃ xs, H d = some (.frz o (dNO d xs)) ∧ xs.length ≤ i⟩
theorem turn_keysN {P : Program} {w : World} {K : PySem.W.Frag} {tg : Expr} {d : Addr} {o : Obj} {es : Array DictEntry} {ep : Nat} (it : Addr) (hod : o.data = .dict es ep) : Turn P w K tg (Itn d o) [it] it (fun i h => h.IsKeyIter it d i es.size ep) where
  mem := by simp
  obj := fun i h st b hb => by
    have e : b = it := by simpa using hb
    subst e
    obtain ⟨oi, e, c, dd⟩ := st
    exact ⟨oi, e, fun v z => by rw [dd] at z; cases z⟩
  keep := fun i h h' st k => st.at fun oi e => k it (by simp) oi e
  item := by
    intro X hP hw hK hc i pins s σ H E I hf st hg
    subst hP hw hK
    obtain ⟨xs, hd, hi⟩ := hg
    obtain ⟨f0, f1, f2, f3, f4, f5⟩ := hf it (by simp)
    obtain ⟨hs, hgd, hx, es', ep', hdt, hsz, ent⟩ := SW.Inv.frzN I hd
    obtain ⟨rfl, rfl⟩ := dict_ep hod hdt
    obtain ⟨en, hen, hkey⟩ := ent i _ (List.getElem?_eq_getElem hi)
    refine next_key_item st hgd hdt rfl hen fun h' st' sb => ?_
    have I1 : Inv X pins σ H { s with heap := h' } := I.turned (t' := s.toks) (fun b ob hb e => (sb.2 b hb).trans e) f0 f1 f3 f4 f5
    obtain ⟨oi, e, c, dd⟩ := id st'
    refine ⟨en.key, rfl, go_of (s := { s with heap := h' }) e c dd (by decide) ⟨.ref xs[i].2.1, H, I1, hkey, ⟨rfl, fun xs' hd' => ?_⟩, st', fun b hb => (hf b hb).1⟩⟩
    obtain ⟨_, _, _, es2, ep2, hdt2, hsz2, ent2⟩ := SW.Inv.frzN I hd'
    obtain ⟨rfl, rfl⟩ := dict_ep hdt hdt2
    have hi' : i < xs'.length := by omega
    obtain ⟨en2, hen2, hkey2⟩ := ent2 i _ (List.getElem?_eq_getElem hi')
    rw [hen] at hen2; cases hen2
    rw [hkey] at hkey2
    exact ⟨_, List.getElem?_eq_getElem hi', by rw [Value.ref.inj hkey2]⟩
  done := by
    intro X hP hw hK hc i pins s σ H E I hf st hg
    subst hP hw hK
    obtain ⟨xs, hd, hi⟩ := hg
    obtain ⟨f0, f1, f2, f3, f4, f5⟩ := hf it (by simp)
    obtain ⟨hs, hgd, hx, es', ep', hdt, hsz, ent⟩ := SW.Inv.frzN I hd
    obtain ⟨rfl, rfl⟩ := dict_ep hod hdt
    exact next_key_end (I.ok.hd hc) st hgd hdt rfl (by omega) fun h' eb => ⟨rfl, I.turned (t' := s.toks) (fun b ob hb e => eb b ob hb e) f0 f1 f3 f4 f5⟩
  self := fun A i s Q E st h => by
    refine wpAny_pyIter_slot st.typeIs F.slot_dict_keyiterator_iter (wpAny_call_entry F.slot_dict_keyiterator_iter st.typeIs F.entry_dict_keyiterator_iter ?_ (F.args_dict_keyiterator_iter_1 _))
    show wpAny _ _ (ret (.ref it)) _ _ s
    exact wpAny_pure ⟨_, rfl, "dict_keyiterator", _, st.typeIs, F.slot_dict_keyiterator_next.lookup, h⟩
def iKeysN (td : TE) : TI := fun σ H R => td σ H fun x H1 => ∃ d o xs, x = .ref d ∧ H1 d = some (.frz o (dNO d xs)) ∧ R (Itn d o) H1
section
variable {X : Cx} {W : WX} {tg e : Expr} {td : TE}
theorem pi_keysN (he : PE X e td) : PI X tg e (iKeysN td) := by
  refine ⟨fun pins s σ H R I h => ?_⟩
  refine thn (he.run pins s σ H _ I h) fun u s1 ⟨x, H1, I1, rx, d, o, xs, ex, hd, q⟩ => ?_
  subst ex
  obtain rfl : u = Value.ref d := rx
  obtain ⟨hs, hgd, hx, es, ep, hdt, hsz, ent⟩ := SW.Inv.frzN I1 hd
  exact iter_keys hs hgd hx hdt (pi_one (tk := s1.toks) I1 _ (turn_keysN _ hdt) ⟨_, Heap.get?_push_size _ rfl, rfl, rfl⟩ q)
/-! as a source -/
def lNAt (S : Sto) (n l : Nat) : Option (List (NestedKey × D)) := match S[n]? with
  | some (.lN kvs) => if kvs.length = l then some kvs else none
  | _ => none
def Src.keysN (n l : Nat) : Src := ⟨l, fun S i => (lNAt S n l).bind fun kvs => (kvs[i]?).bind fun p => kD p.1, fun S => (lNAt S n l).isSome⟩
def lKAt (S : Sto) (n l : Nat) : Option (List (Key × D)) := match S[n]? with
  | some (.lK kvs) => if kvs.length = l then some kvs else none
  | _ => none
def kKD : Key → Option D
  | .inl i => some (.int i)
  | _ => none
def Src.keysK (n l : Nat) : Src := ⟨l, fun S i => (lKAt S n l).bind fun kvs => (kvs[i]?).bind fun p => kKD p.1, fun S => (lKAt S n l).isSome⟩
def srcKN (d : D) (S : Sto) : Option Src := match d with
  | .loc n => match S[n]? with
    | some (.lN kvs) => some (.keysN n kvs.length)
    | some (.lK kvs) => some (.keysK n kvs.length)
    | _ => none
  | _ => none
/-- for x in a locked dict -/
def kyI (f : EvE) : EvI := fun τ S => (f τ S).bind fun p => (srcKN p.1 p.2).map fun s => (s, p.2)
theorem lNAt_some {S : Sto} {n l : Nat} {kvs : List (NestedKey × D)} (h : lNAt S n l = some kvs) : S[n]? = some (.lN kvs) ∧ kvs.length = l := by
  unfold lNAt at h
  split at h
  · rename_i k e
    split at h
    · cases h; exact ⟨e, by assumption⟩
    · cases h
  · cases h
theorem lKAt_some {S : Sto} {n l : Nat} {kvs : List (Key × D)} (h : lKAt S n l = some kvs) : S[n]? = some (.lK kvs) ∧ kvs.length = l := by
  unfold lKAt at h
  split at h
  · rename_i k e
    split at h
    · cases h; exact ⟨e, by assumption⟩
    · cases h
  · cases h
theorem walk_keysK {K : PySem.W.Frag} {ρ : List Addr} {H : Hp} {a : Addr} {o : Obj} {xs : List (Key × V)} {n l : Nat} (ha : ρ[n]? = some a) (h : H a = some (.frz o (.dK xs))) : Walks K ρ H (Itk a o xs) (.keysK n l) where
  go := fun ρ1 S1 H1 i d R1 p1 i1 hi hg => by
    simp only [Src.keysK] at hg
    obtain ⟨kvs, e1, hg⟩ := bindE hg
    obtain ⟨p, e2, hg⟩ := bindE hg
    obtain ⟨e3, e4⟩ := lKAt_some e1
    obtain ⟨b, hb, xs', od', h1, q⟩ := R1.obj n _ e3
    rw [prefix_get p1 ha] at hb; cases hb
    have h2 := i1.lck _ _ _ h
    rw [h2] at h1
    have eo : xs = xs' := by
      have := Option.some.inj h1
      injection this with x y
      injection y
    subst eo
    have hl : xs.length = kvs.length := by have := congrArg List.length q.1; simpa using this
    refine ⟨⟨h2, by simp only [Src.keysK] at hi; omega⟩, fun x H' ⟨eH, k, v, hk, hx⟩ => ?_⟩
    subst eH; subst hx
    have hk : k = p.1 := by
      have := congrArg (fun z => z[i]?) q.1
      simp only [List.getElem?_map, hk, e2, Option.map_some] at this
      exact Option.some.inj this
    subst hk
    refine ⟨Post.refl R1, ?_⟩
    obtain ⟨key, val⟩ := p
    cases key with
    | inl j =>
      simp only [kKD] at hg
      cases hg
      exact RelD.int _
    | inr x => simp only [kKD] at hg; cases hg
  stop := fun ρ1 S1 H1 R1 p1 i1 hf => by
    simp only [Src.keysK, Option.isSome_iff_exists] at hf
    obtain ⟨kvs, e1⟩ := hf
    obtain ⟨e3, e4⟩ := lKAt_some e1
    obtain ⟨b, hb, xs', od', h1, q⟩ := R1.obj n _ e3
    rw [prefix_get p1 ha] at hb; cases hb
    have h2 := i1.lck _ _ _ h
    rw [h2] at h1
    have eo : xs = xs' := by
      have := Option.some.inj h1
      injection this with x y
      injection y
    subst eo
    have hl : xs.length = kvs.length := by have := congrArg List.length q.1; simpa using this
    exact ⟨h2, by simp only [Src.keysK]; omega⟩
theorem walk_keysN {K : PySem.W.Frag} {ρ : List Addr} {H : Hp} {a : Addr} {o : Obj} {xs : List NEnt} {n l : Nat} (ha : ρ[n]? = some a) (h : H a = some (.frz o (dNO a xs))) : Walks K ρ H (Itn a o) (.keysN n l) where
  go := fun ρ1 S1 H1 i d R1 p1 i1 hi hg => by
    simp only [Src.keysN] at hg
    obtain ⟨kvs, e1, hg⟩ := bindE hg
    obtain ⟨p, e2, hg⟩ := bindE hg
    obtain ⟨e3, e4⟩ := lNAt_some e1
    obtain ⟨b, hb, xs', od', h1, q⟩ := R1.obj n _ e3
    rw [prefix_get p1 ha] at hb; cases hb
    have h2 := i1.lck _ _ _ h
    rw [h2] at h1
    have eo : o = od' ∧ dNO a xs = dNO a xs' := by
      have := Option.some.inj h1
      injection this with x y
      exact ⟨x, y⟩
    obtain ⟨rfl, hxx⟩ := eo
    have h3 : H1 a = some (.frz o (dNO a xs')) := by rw [h2, hxx]
    have hl : xs'.length = kvs.length := by have := congrArg List.length q.1; simpa using this
    refine ⟨⟨xs', h3, by simp only [Src.keysN] at hi; omega⟩, fun x H' ⟨eH, k⟩ => ?_⟩
    subst eH
    obtain ⟨e, he, rfl⟩ := k xs' h3
    have hk : e.1 = p.1 := by
      have := congrArg (fun z => z[i]?) q.1
      simp only [List.getElem?_map, he, e2, Option.map_some] at this
      exact Option.some.inj this
    refine ⟨Post.refl R1, kD_rel (q.2.2 e (List.mem_of_getElem? he)).1 (by rw [hk]; exact hg)⟩
  stop := fun ρ1 S1 H1 R1 p1 i1 hf => by
    simp only [Src.keysN, Option.isSome_iff_exists] at hf
    obtain ⟨kvs, e1⟩ := hf
    obtain ⟨e3, e4⟩ := lNAt_some e1
    obtain ⟨b, hb, xs', od', h1, q⟩ := R1.obj n _ e3
    rw [prefix_get p1 ha] at hb; cases hb
    have h2 := i1.lck _ _ _ h
    rw [h2] at h1
    have eo : o = od' ∧ dNO a xs = dNO a xs' := by
      have := Option.some.inj h1
      injection this with x y
      exact ⟨x, y⟩
    obtain ⟨rfl, hxx⟩ := eo
    have hl : xs'.length = kvs.length := by have := congrArg List.length q.1; simpa using this
    exact ⟨xs', by rw [h2, hxx], by simp only [Src.keysN]; omega⟩
theorem ei_keys {f : EvE} (h : EE X e f) : EI X tg e (kyI f) := wkI (orI (pi_keysN h) (pi_keys h)) fun σ H R q => by
  obtain ⟨ρ, τ, S, s, S', A, e, k⟩ := q
  obtain ⟨⟨d, S1⟩, e1, e⟩ := bindE e
  obtain ⟨s', e2, e⟩ := Option.map_eq_some_iff.mp e
  cases e
  cases d <;> simp only [srcKN] at e2 <;> try cases e2
  split at e2
  · rename_i n kvs en
    cases e2
    refine .inl (goE A e1 fun ρ1 v1 H1 A1 P1 r1 => ?_)
    obtain ⟨a, xs, od, rfl, ha, h1, q⟩ := A1.s.lN en r1
    exact ⟨a, od, xs, rfl, h1, k _ _ _ P1 (walk_keysN ha h1)⟩
  · rename_i n kvs en
    cases e2
    refine .inr (goE A e1 fun ρ1 v1 H1 A1 P1 r1 => ?_)
    obtain ⟨a, xs, od, rfl, ha, h1, q⟩ := A1.s.lK en r1
    exact ⟨a, od, rfl, .inl ⟨xs, h1, k _ _ _ P1 (walk_keysK ha h1)⟩⟩
  · cases e2
end
end SW
/-! dict(list of pairs), the keys tuples -/
namespace SW
open PySem L2 PyProof.Rows

section
variable {K : PySem.W.Frag} {ρ : List Addr} {S : Sto} {H : Hp}
end
end SW
/-! slices of lists with a step -/
namespace SW
open PySem L2 PyProof.Rows

section
variable {X : Cx} {W : WX}
end
end SW
/-! zip of a tuple and a list -/
namespace SW
open PySem L2
section
variable {X : Cx} {K : PySem.W.Frag} {ρ : List Addr} {S : Sto} {H : Hp} {e e2 : Expr}
end
end SW
/-! sorted(set(xs)), xs a list of numbers or of tuples of any depth -/
namespace SW
open PySem L2 PyProof.Rows

mutual
theorem bare_plain : ∀ k : NestedKey, bareK k = plainK k
  | .none => rfl
  | .num _ => rfl
  | .text _ => rfl
  | .tup ks => by simp only [bareK, plainK, bares_plain ks]
theorem bares_plain : ∀ ks : List NestedKey, bareKs ks = plainKs ks
  | [] => rfl
  | k :: ks => by simp only [bareKs, plainKs, bare_plain k, bares_plain ks]
end
section
variable {P : Program} {w : World} {H : Hp} {h : Heap}
mutual
theorem NkV.rk (ok : HOk P w H h) : ∀ {k : NestedKey} {v : V} {u : Value}, NkV H k v → RelV v u → NkR h k u
  | .none, v, u, q, r => by
    simp only [NkV] at q
    subst q
    obtain rfl : u = Value.none := r
    simp only [NkR]
  | .num i, v, u, q, r => by
    simp only [NkV] at q
    subst q
    obtain ⟨t, rfl⟩ := r
    simp only [NkR]
    exact ⟨t, rfl⟩
  | .text x, v, u, q, r => by
    simp only [NkV] at q
    subst q
    obtain ⟨t, rfl⟩ := r
    simp only [NkR]
    exact ⟨t, rfl⟩
  | .tup ks, v, u, q, r => by
    simp only [NkV] at q
    obtain ⟨b, xs, rfl, e, q⟩ := q
    obtain rfl : u = Value.ref b := r
    obtain ⟨_, its, rs, o, h1, h2, n, h3⟩ := (show ObjOk P w H h b (.tup xs) from ok b _ e)
    simp only [NkR]
    exact ⟨b, o, its.toArray, n, rfl, h1, h2, h3, by simpa using NkVs.rk ok q rs⟩
theorem NkVs.rk (ok : HOk P w H h) : ∀ {ks : List NestedKey} {vs : List V} {us : List Value}, NkVs H ks vs → Vals vs us → NkRs h ks us
  | [], vs, us, q, r => by
    simp only [NkVs] at q
    subst q
    cases r
    simp only [NkRs]
  | k :: ks, vs, us, q, r => by
    simp only [NkVs] at q
    obtain ⟨y, ys, rfl, q1, q2⟩ := q
    cases r with
    | cons r1 r2 =>
      simp only [NkRs]
      exact ⟨_, _, rfl, NkV.rk ok q1 r1, NkVs.rk ok q2 r2⟩
end
end
theorem KN.nt {P : Program} {w : World} {H : Hp} {h : Heap} {k : NestedKey} {y : V} {b : Addr} (q : KN H k y b) (ok : HOk P w H h) : NtK h k b := ⟨NkV.rk ok q.nk rfl, q.dep, by rw [bare_plain]; exact q.pl⟩
/-- the set at a, whatever its members are -/
def SetN0 (w : World) (h : Heap) (a : Addr) (L : List KA) : Prop :=
  ∃ (es : Array (Int × Value)) (ep : Nat) (t : SetTable), (∃ o, h.get? a = some o ∧ o.ExactSet ∧ o.data = .set es ep t) ∧ es.toList = rowsN w L ∧ TabOk t (L.map fun p => nkh w p.2) ∧ (L.map (·.2)).Nodup ∧ t.plain = true ∧
    (w.params.followText "set-order" = true ∨ t.led = true) ∧ L.length * 5 < t.mask * 3 ∧ L.length < 64
def SetNO (w : World) (a : Addr) (L : List KA) : HO := .ext fun h => SetN0 w h a L
theorem SetNR.bare0 {w : World} {h : Heap} {a : Addr} {L : List KA} {es : Array (Int × Value)} {ep : Nat} {t : SetTable} (R : SetNR w h a L es ep t) : SetN0 w h a L := ⟨es, ep, t, R.ob, R.rows, R.tab, R.nd, R.plain, R.led, R.room, R.few⟩
theorem SetN0.full {w : World} {h : Heap} {a : Addr} {L : List KA} (R : SetN0 w h a L) (all : ∀ p ∈ L, NtK h p.2 p.1) : ∃ es ep t, SetNR w h a L es ep t :=
  let ⟨es, ep, t, h1, h2, h3, h4, h5, h6, h7, h8⟩ := R
  ⟨es, ep, t, h1, h2, h3, h4, all, h5, h6, h7, h8⟩
theorem setNO_new {P : Program} {w : World} {H : Hp} {h : Heap} {a : Addr} {L : List KA} (R : SetN0 w h a L) : ObjOk P w H h a (SetNO w a L) := by
  have ⟨es, ep, t, ⟨o, ho, r⟩, q⟩ := R
  refine ⟨R, ⟨o, ho⟩, fun h1 h2 p k => ?_⟩
  have ⟨es', ep', t', ⟨o', ho', r'⟩, q'⟩ := (show SetN0 w h1 a L from p)
  exact ⟨es', ep', t', ⟨o', k o' ho', r'⟩, q'⟩
theorem refs_are : ∀ {ks : List KA} {us : List Value}, Vals (ks.map fun p => V.ref p.1) us → us = ks.map fun p => Value.ref p.1
  | [], _, .nil => rfl
  | p :: ks, _, .cons r t => by
    obtain rfl : _ = Value.ref p.1 := r
    rw [refs_are t]; rfl
def dedL {α : Type} [DecidableEq α] (l : List α) : List α := l.foldl (fun acc x => if x ∈ acc then acc else acc ++ [x]) []
theorem dedL_go {α : Type} [DecidableEq α] : ∀ (l acc : List α), acc.Nodup → (l.foldl (fun acc x => if x ∈ acc then acc else acc ++ [x]) acc).Nodup ∧ ∀ y, y ∈ l.foldl (fun acc x => if x ∈ acc then acc else acc ++ [x]) acc ↔ y ∈ acc ∨ y ∈ l
  | [], acc, h => ⟨h, fun y => by simp⟩
  | x :: l, acc, h => by
    rw [List.foldl_cons]
    by_cases hx : x ∈ acc
    · rw [if_pos hx]
      obtain ⟨a, b⟩ := dedL_go l acc h
      refine ⟨a, fun y => (b y).trans ?_⟩
      rw [List.mem_cons]
      constructor
      · rintro (z | z)
        · exact .inl z
        · exact .inr (.inr z)
      · rintro (z | rfl | z)
        · exact .inl z
        · exact .inl hx
        · exact .inr z
    · rw [if_neg hx]
      obtain ⟨a, b⟩ := dedL_go l (acc ++ [x]) (List.nodup_append.mpr ⟨h, by simp, fun u hu v hv e => by simp at hv; subst hv; subst e; exact hx hu⟩)
      refine ⟨a, fun y => (b y).trans ?_⟩
      rw [List.mem_cons, List.mem_append, List.mem_singleton, or_assoc]
theorem dedL_nodup {α : Type} [DecidableEq α] (l : List α) : (dedL l).Nodup := (dedL_go l [] .nil).1
theorem dedL_mem {α : Type} [DecidableEq α] {l : List α} {x : α} : x ∈ dedL l ↔ x ∈ l := ((dedL_go l [] .nil).2 x).trans (by simp)
theorem nodup_sub_len {α : Type} [DecidableEq α] : ∀ {L M : List α}, L.Nodup → L ⊆ M → L.length ≤ M.length
  | [], M, _, _ => by simp
  | x :: L, M, nd, h => by
    have hx : x ∈ M := h List.mem_cons_self
    obtain ⟨n1, n2⟩ := List.nodup_cons.mp nd
    have ih := nodup_sub_len (M := M.erase x) n2 fun y hy => by
      have : y ≠ x := fun e => n1 (e ▸ hy)
      exact (List.mem_erase_of_ne this).mpr (h (List.mem_cons_of_mem _ hy))
    rw [List.length_erase_of_mem hx] at ih
    have := List.length_pos_of_mem hx
    simp only [List.length_cons]
    omega
theorem FewN.ded {ks : List KA} (h : ks.length < 64 ∨ (dedL (ks.map (·.2))).length < 63) : FewN ks := by
  rcases h with h | h
  · exact .of h
  · intro i L hi g nd
    have sub : (L.map (·.2)) ⊆ dedL (ks.map (·.2)) := fun x hx => by
      obtain ⟨p, hp, rfl⟩ := List.mem_map.mp hx
      exact dedL_mem.mpr (List.mem_map.mpr ⟨p, List.mem_of_mem_take (g.sub p hp), rfl⟩)
    have := nodup_sub_len nd sub
    rw [List.length_map] at this
    omega
section
variable {X : Cx}
def rSetNN (K : PySem.W.Frag) (w : World) : List V → Hp → VK → Prop := fun xs H Q => ∃ (l : Addr) (ks : List KA), xs = [V.ref l] ∧ SqL K H l (ks.map fun p => V.ref p.1) ∧ (∀ p ∈ ks, KN H p.2 (.ref p.1) p.1) ∧ (ks.length < 64 ∨ (dedL (ks.map (·.2))).length < 63) ∧
  ∀ a L, H a = none → (∀ p ∈ L, p ∈ ks) → (∀ p ∈ ks, p.2 ∈ L.map (·.2)) → (L.map (·.2)).Nodup → Q (.ref a) (upd H a (SetNO w a L))
theorem cr_setNN (hc : X.calm = true) (hu : X.A.units + 65 < cLine) : CallR X (.type "set") (rSetNN X.K X.w) := by
  intro pins s σ H xs us Q I r h
  obtain ⟨l, ks, rfl, hl, hk, hf, q⟩ := h
  rw [Vals.ref1 r]
  obtain ⟨its, rv, pl, hz⟩ := I.list hl
  have hn : H s.heap.objs.size = none := I.hok.fresh (Nat.le_refl _)
  refine call_set_nt (P := X.prog) (w := X.w) ks (I.ok.hd hc) pl.isList (by simpa using refs_are rv) (fun p hp => (hk p hp).nt I.hok) (.ded hf) (by omega) fun h' tk L es ep t R g k => ?_
  refine ⟨.ref s.heap.objs.size, upd H s.heap.objs.size (SetNO X.w s.heap.objs.size L), I.laid (t' := tk) k (Nat.le_refl _) (setNO_new R.bare0), rfl, q _ L hn (fun p hp => ?_) (fun p hp => ?_) R.nd⟩
  · exact List.mem_of_mem_take (g.sub p hp)
  · exact g.all p (by rw [List.take_length]; exact hp)
def rSetII (K : PySem.W.Frag) (w : World) : List V → Hp → VK → Prop := fun xs H Q => ∃ (l : Addr) (ns : List Int), xs = [V.ref l] ∧ SqL K H l (ns.map V.int) ∧ ns.length < 64 ∧
  ∀ a c, H a = none → c ≤ ns.length → Q (.ref a) (upd H a (SetO w a (fun j => decide (j ∈ ns)) c))
theorem cr_setII (hc : X.calm = true) : CallR X (.type "set") (rSetII X.K X.w) := by
  intro pins s σ H xs us Q I r h
  obtain ⟨l, ns, rfl, hl, hf, q⟩ := h
  rw [Vals.ref1 r]
  obtain ⟨its, rv, pl, hz⟩ := I.list hl
  have hn : H s.heap.objs.size = none := I.hok.fresh (Nat.le_refl _)
  refine call_set_lstI (P := X.prog) (w := X.w) ns (I.ok.hd hc) pl.isList (by simpa using ints_of_vals rv) (by unfold scanBound; omega) fun h' tk c R hcl k => ?_
  exact ⟨.ref s.heap.objs.size, upd H s.heap.objs.size (SetO X.w s.heap.objs.size (fun j => decide (j ∈ ns)) c), I.laid (t' := tk) k (Nat.le_refl _) (setO_new R), rfl, q _ c hn hcl⟩
end
/-! ### the layer -/
def intsAll : List D → Option (List Int)
  | [] => some []
  | .int i :: ds => (intsAll ds).map (i :: ·)
  | _ => none
def keysAll : List D → Option (List NestedKey)
  | [] => some []
  | d :: ds => (nkT d).bind fun k => (keysAll ds).map (k :: ·)
section
variable {K : PySem.W.Frag} {ρ : List Addr} {S : Sto} {H : Hp}
theorem intsAll_rel : ∀ {ds : List D} {xs : List V} {is : List Int}, RelDs K ρ H ds xs → intsAll ds = some is → xs = is.map V.int
  | [], xs, is, q, e => by
    simp only [RelDs] at q
    cases e; exact q
  | d :: ds, xs, is, q, e => by
    simp only [RelDs] at q
    obtain ⟨x, ys, rfl, q1, q2⟩ := q
    unfold intsAll at e
    split at e
    · rename_i z; cases z
    · rename_i i ds' z
      cases z
      obtain ⟨is', e1, rfl⟩ := Option.map_eq_some_iff.mp e
      rw [q1.int_, intsAll_rel q2 e1]; rfl
    · cases e
theorem keysAll_rel : ∀ {ds : List D} {xs : List V} {ks : List NestedKey}, RelDs K ρ H ds xs → keysAll ds = some ks → ∃ L : List KA, xs = L.map (fun p => V.ref p.1) ∧ L.map (fun p => p.2) = ks ∧ ∀ p ∈ L, KN H p.2 (.ref p.1) p.1
  | [], xs, ks, q, e => by
    simp only [RelDs] at q
    cases e; subst q
    exact ⟨[], rfl, rfl, fun p hp => by simp at hp⟩
  | d :: ds, xs, ks, q, e => by
    simp only [RelDs] at q
    obtain ⟨x, ys, rfl, q1, q2⟩ := q
    simp only [keysAll] at e
    obtain ⟨k, e1, e⟩ := bindE e
    obtain ⟨ks', e2, rfl⟩ := Option.map_eq_some_iff.mp e
    obtain ⟨b, kn⟩ := nkT_rel q1 e1
    obtain ⟨L, h1, h2, h3⟩ := keysAll_rel q2 e2
    have := kn.ref
    subst this
    refine ⟨(b, k) :: L, by rw [List.map_cons, h1], by rw [List.map_cons, h2], fun p hp => ?_⟩
    rcases List.mem_cons.mp hp with rfl | hp
    · exact kn
    · exact h3 p hp
end
section
variable {X : Cx} {e : Expr} {f : EvE} {p p2 pos pos2 : Pos}
end
/-! xs.index(x), the items tuples of any depth -/
section
variable {X : Cx}
end
end SW
/-! list(range(a, b)), xs.pop(i), reversed(range(..)), len(set(xs)) -/
namespace SW
open PySem L2 PyProof.Rows
section
variable {X : Cx}
end
section
variable {K : PySem.W.Frag} {ρ : List Addr} {S : Sto} {H : Hp}
end
/-! len(set(xs)) -/
section
variable {X : Cx}
def rLenNN (w : World) : List V → Hp → VK → Prop := fun vs H Q => ∃ (a : Addr) (L : List KA), vs = [V.ref a] ∧ H a = some (SetNO w a L) ∧ Q (.int (L.length : Nat)) H
theorem cr_lenNN : CallR X (.builtin "len") (rLenNN X.w) := by
  intro pins s σ H vs us Q I r h
  obtain ⟨a, L, rfl, ha, q⟩ := h
  have R0 : SetN0 X.w s.heap a L := (I.hok a _ ha).1
  obtain ⟨es, ep, t, ⟨o, ho, hex, hd⟩, hr, T, hnd, hp, hl, hroom, hfew⟩ := R0
  rw [Vals.ref1 r]
  have hsz : es.size = L.length := by
    have h := congrArg List.length hr
    unfold rowsN at h
    rw [Array.length_toList, List.length_map] at h
    exact h
  have hfits : t.fits es.size = true := by
    have h1 := T.sz
    rw [List.length_map] at h1
    unfold SetTable.fits SetTable.fill
    rw [T.dm, Bool.and_eq_true, beq_iff_eq, decide_eq_true_eq]
    show t.place.size = es.size ∧ t.place.size + 0 ≤ t.mask
    omega
  refine call_len_set ho hex hd hfits (by omega) ⟨.int (L.length : Nat), H, ?_, ⟨s.toks + 1, by rw [hsz]⟩, q⟩
  exact I.tok _
def rLenII (w : World) : List V → Hp → VK → Prop := fun vs H Q => ∃ (a : Addr) (S : Int → Bool) (n : Nat), vs = [V.ref a] ∧ H a = some (SetO w a S n) ∧ ∀ (ns : List Int), ns.Nodup → (∀ k : Int, k ∈ ns ↔ S k = true) → Q (.int (ns.length : Nat)) H
theorem cr_lenII : CallR X (.builtin "len") (rLenII X.w) := by
  intro pins s σ H vs us Q I r h
  obtain ⟨a, S, n, rfl, ha, q⟩ := h
  have R := setO_get I ha
  obtain ⟨o, es, ep, t, ho, hex, hd, hg, hnd, hm, hsz, hf, hn, _, _⟩ := R
  rw [Vals.ref1 r]
  have q' := q (es.toList.map keyOf) hnd fun k => (hm k).symm
  rw [List.length_map, Array.length_toList] at q'
  refine call_len_set ho hex hd hf (by unfold scanBound at hsz; omega) ⟨.int (es.size : Nat), H, I.tok _, ⟨s.toks + 1, rfl⟩, q'⟩
end
def lenSetD (d : D) (S : Sto) : Option (D × Sto) := match d with
  | .loc n => match S[n]? with
    | some (.lst ds) => match intsAll ds with
      | some is => if is.length < 64 then some (.int ((dedL is).length : Nat), S) else none
      | none => (keysAll ds).bind fun ks => if ks.length < 64 then some (.int ((dedL ks).length : Nat), S) else none
    | _ => none
  | _ => none
section
variable {X : Cx} {e : Expr} {f : EvE} {p p2 pos pos2 : Pos}
theorem ee_lenSet {k : Nat} (hc : Ok X k) (hcalm : X.calm = true) (hg1 : Gl X "len") (hm1 : X.mg "len" = none) (hg2 : Gl X "set") (hm2 : X.mg "set" = none) (h : EE X e f)
    (he : starEach [e] X.env = (false, eval e X.env) :: starEach [] X.env := by rfl)
    (he2 : starEach [(Expr.Call (.Name "set" p2) [e] [] pos2)] X.env = (false, eval (.Call (.Name "set" p2) [e] [] pos2) X.env) :: starEach [] X.env := by rfl)
    (hpl : (backTo pos (starEach [] X.env)).any (·.1) = false := by rfl) (hpl2 : (backTo pos2 (starEach [] X.env)).any (·.1) = false := by rfl) : EE X (.Call (.Name "len" p) [.Call (.Name "set" p2) [e] [] pos2] [] pos) (u1E lenSetD f) :=
  wkE (pe_callB (orC cr_lenNN cr_lenII) hg1 hm1 (by decide +kernel) (pa_cons (hs := he2) (pe_callTy (orC (cr_setNN hcalm hc.units) (cr_setII hcalm)) hg2 hm2 (by decide +kernel) (pa_cons (hs := he) h pa_nil) (by decide) (by decide) he hpl2) pa_nil) (by decide) (by decide) he2 hpl) fun σ H Q q => by
    obtain ⟨ρ, τ, S, d, S', A, e0, q⟩ := q
    obtain ⟨⟨d1, S1⟩, e1, e2⟩ := bindE e0
    refine goE A e1 fun ρ1 v1 H1 A1 P1 r1 => ?_
    cases d1 with
    | loc n =>
      simp only [lenSetD] at e2
      split at e2
      · rename_i ds hn
        obtain ⟨a, xs, rfl, _, ha, qr⟩ := A1.s.lst hn r1
        split at e2
        · rename_i is hi
          split at e2
          · rename_i h64
            cases e2
            have hx := intsAll_rel qr hi
            subst hx
            refine .inr ⟨a, is, rfl, .inl (.inl ha), h64, fun b c hb hcl => ?_⟩
            refine .inr ⟨b, _, c, rfl, upd_same, fun ns nd mem => ?_⟩
            have pm : ns.Perm (dedL is) := (List.perm_ext_iff_of_nodup nd (dedL_nodup is)).mpr fun j => by
              rw [mem j, dedL_mem]; simp
            rw [pm.length_eq]
            have P2 := A1.s.side hb (SetO X.w b (fun j => decide (j ∈ is)) c)
            exact q _ _ _ (P1.trans P2) (RelD.int _)
          · cases e2
        · obtain ⟨ks, e3, e2⟩ := bindE e2
          split at e2
          · rename_i hok
            cases e2
            obtain ⟨L0, hx, hks, hkn⟩ := keysAll_rel qr e3
            subst hx
            subst hks
            rw [List.length_map] at hok
            refine .inl ⟨a, L0, rfl, .inl (.inl ha), hkn, .inl hok, fun b L hb hsub hall hnd => ?_⟩
            have P2 := A1.s.side hb (SetNO X.w b L)
            refine .inl ⟨b, L, rfl, upd_same, ?_⟩
            have hpm : (L.map fun q => q.2).Perm (dedL (L0.map fun p => p.2)) := (List.perm_ext_iff_of_nodup hnd (dedL_nodup _)).mpr fun j => by
              rw [dedL_mem]
              constructor
              · intro hj
                obtain ⟨p1, m1, rfl⟩ := List.mem_map.mp hj
                exact List.mem_map.mpr ⟨p1, hsub p1 m1, rfl⟩
              · intro hj
                obtain ⟨p1, m1, rfl⟩ := List.mem_map.mp hj
                exact hall p1 m1
            have hle := hpm.length_eq
            rw [List.length_map] at hle
            rw [hle]
            exact q _ _ _ (P1.trans P2) (RelD.int _)
          · cases e2
      · cases e2
    | _ => cases e2
end
end SW
/-! Instances: attributes read and written, methods, new ones. -/
namespace SW
open PySem L2

section
variable {K : PySem.W.Frag} {ρ : List Addr} {H : Hp}
theorem RelKV.lookup {f : Str} : ∀ {kds : List (Str × D)} {kvs : List (Str × V)}, RelKV K ρ H kds kvs → (∀ d, kds.lookup f = some d → ∃ v, kvs.lookup f = some v ∧ RelD K ρ H d v) ∧ (kds.lookup f = none → kvs.lookup f = none)
  | [], kvs, h => by
    have := RelKV.nil_ h
    subst this
    exact ⟨fun d e => by simp at e, fun _ => rfl⟩
  | (g, d0) :: kds, kvs, h => by
    obtain ⟨v0, r, rfl, r0, hr⟩ := RelKV.split h
    have ih := RelKV.lookup (f := f) hr
    by_cases e : f = g
    · subst e
      have hb : (f == f) = true := beq_self_eq_true f
      refine ⟨fun d e => ?_, fun e => ?_⟩
      · simp only [List.lookup, hb, Option.some.injEq] at e
        subst e
        exact ⟨v0, by simp only [List.lookup, hb], r0⟩
      · simp only [List.lookup, hb] at e; cases e
    · have hb : (f == g) = false := beq_eq_false_iff_ne.mpr e
      refine ⟨fun d e => ?_, fun e => ?_⟩
      · simp only [List.lookup, hb] at e ⊢
        exact ih.1 d e
      · simp only [List.lookup, hb] at e ⊢
        exact ih.2 e
/-- an attribute put -/
def pF (f : Str) (d : D) : List (Str × D) → List (Str × D)
  | [] => [(f, d)]
  | (g, x) :: r => if g = f then (g, d) :: r else (g, x) :: pF f d r
end
/-- what the class of that name is; it has no attribute f of its own -/
structure ClsA (K : PySem.W.Frag) (c : String) (f : Str) : Prop where
  ex : ∃ C, PySem.W.nsIn K mainGlobals c = some (some (.ref C)) ∧ Cls K C ∧ NoAttr K C f
theorem ClsA.at_ {K : PySem.W.Frag} {c : String} {f : Str} (h : ClsA K c f) {C : Addr} (e : PySem.W.nsIn K mainGlobals c = some (some (.ref C))) : Cls K C ∧ NoAttr K C f := by
  obtain ⟨C', e', a, b⟩ := h.ex
  rw [e] at e'
  simp only [Option.some.injEq, Value.ref.injEq] at e'
  subst e'
  exact ⟨a, b⟩
def ClsAs (K : PySem.W.Frag) (cs : List String) (f : Str) : Prop := ∀ c ∈ cs, ClsA K c f
theorem ClsAs.nil {K : PySem.W.Frag} {f : Str} : ClsAs K [] f := fun c h => by simp at h
theorem ClsAs.cons {K : PySem.W.Frag} {c : String} {cs : List String} {f : Str} (h : ClsA K c f) (g : ClsAs K cs f) : ClsAs K (c :: cs) f := fun x hx => by
  rcases List.mem_cons.mp hx with rfl | hx
  · exact h
  · exact g x hx
def fstD (cs : List String) (f : Str) (o d : D) (S : Sto) : Option Sto := match o with
  | .loc n => match S[n]? with
    | some (.ins c fs) => if c ∈ cs ∧ fs.length < 999 then some (S.set n (.ins c (pF f d fs))) else none
    | _ => none
  | _ => none
section
variable {X : Cx} {W : WX} {cs : List String} {f : Str}
end
end SW
namespace SW
open PySem L2

end SW
/-! slices of tuples with a step (not 1) -/
namespace SW
open PySem PySem.Spec L2 PyProof.Rows HT

section
variable {prog : Program} {w : World} {A : Around} {E : Value → Shared → Prop} {s : Shared}
end
section
variable {X : Cx}
end
end SW
/-! zip of a list and a tuple, or of two tuples -/
namespace SW
open PySem PySem.Spec PyProof.Rows L2

section
variable {X : Cx} {K : PySem.W.Frag} {ρ : List Addr} {S : Sto} {H : Hp} {e e2 : Expr}
end
end SW
/-! sorted(d), a dict of ints -/
namespace SW
open PySem PySem.Spec PyProof.Rows L2

end SW
/-! repr of data, in the law's own def: no repr is under way where the law is asked -/
namespace SW
open PySem L2 PyProof.Rows

section
variable {X : Cx} {K : PySem.W.Frag} {ρ : List Addr} {S : Sto} {H : Hp}
/-- data that repr tells by itself -/
def tells (p : PyData) : Bool := p.showable && !p.hasDict && decide (p.shown.length ≤ 10000000)
end
/-! a def that is called where no repr is under way -/
structure FnG (P : Program) (w : World) (K : PySem.W.Frag) (mg : Str → Option Value) (base : Heap) (k : Nat) (f : Addr) (fd : FuncData) (ps : List Str) (sp : Sp) : Prop where
  len : ∀ vs H Q E, sp vs H Q E → vs.length = ps.length
  run : ∀ (A : Around) (outer : List Env) (s : Shared) (H : Hp) (args : Args) (us : List Value) (vs : List V) (Q : VK) (E : XK), Room k A → A.guards = some [] → Env0 P w K mg base A outer s H → BindsTo s fd args (ps.zip us) → Vals vs us → sp vs H Q E →
    codeAny (model P w) A (.call (.ref f) args) (CR CX0 outer P w H s Q E) s
theorem FnG.mono {P : Program} {w : World} {K : PySem.W.Frag} {mg : Str → Option Value} {base : Heap} {j k : Nat} {f : Addr} {fd : FuncData} {ps : List Str} {sp : Sp} (F : FnG P w K mg base j f fd ps sp) (h : j ≤ k) : FnG P w K mg base k f fd ps sp :=
  ⟨F.len, fun A outer s H args us vs Q E room => F.run A outer s H args us vs Q E (room.mono h)⟩
section
variable {P : Program} {w : World} {K : PySem.W.Frag} {mg : Str → Option Value} {base : Heap}
end
end SW
namespace SW
open PySem L2
section
variable {X : Cx} {pos : Pos}
end
end SW
/-! sorted(t), a tuple of ints -/
namespace PySem
open Sem (wp)
open PyProof.Rows
open AutoSeq1
section
variable {prog : Program} {w : World} {A : Around} {E : Value → Shared → Prop} {s : Shared}
end
end PySem
namespace SrtO
open PySem PyProof.Rows Srt
variable {prog : Program} {w : World} {A : Around} {E : Value → Shared → Prop} {s : Shared}
end SrtO
namespace SW
open PySem PySem.Spec PyProof.Rows L2
end SW
/-! dict(list of pairs), the keys ints -/
namespace SW
open PySem L2 PyProof.Rows

section
variable {K : PySem.W.Frag} {ρ : List Addr} {S : Sto} {H : Hp}
end
end SW
/-! list(d.values()), the keys ints and texts -/
namespace SW
open PySem PySem.Spec PyProof.Rows L2

def valO (p a : Addr) : HO := .ext fun h => h.IsValuesView p a
def rVals : V → List V → Hp → VK → Prop := fun x xs H Q => ∃ (a : Addr) (kvs : List (Key × V)), x = .ref a ∧ xs = [] ∧ H a = some (.dK kvs) ∧ ∀ p, H p = none → Q (.ref p) (upd H p (valO p a))
theorem valO_new {P : Program} {w : World} {H : Hp} {h : Heap} {p a : Addr} (v : h.IsValuesView p a) : ObjOk P w H h p (valO p a) := by
  simp only [valO, ObjOk]
  obtain ⟨o, ho, hc, hd⟩ := v
  exact ⟨⟨o, ho, hc, hd⟩, ⟨o, ho⟩, fun h1 h2 ⟨o, ho, hc, hd⟩ k => ⟨o, k o ho, hc, hd⟩⟩
theorem mt_values {X : Cx} : MtR X "dict.values" rVals := by
  intro pins s σ H x xs v us Q I rx rxs h
  obtain ⟨a, kvs, rfl, rfl, ha, q⟩ := h
  obtain rfl : v = Value.ref a := rx
  cases rxs
  have ok := I.hok a _ ha
  simp only [ObjOk] at ok
  obtain ⟨hl, hm, vs, kv, hd⟩ := ok
  refine call_meetsIn F.slot_dict_values hd.typeIs F.entry_dict_values (F.args_dict_values_1 _) (meets_dict_values (mixKind _ _) a hm) ⟨⟨_, hd⟩, ?_⟩
  exact ⟨.ref s.heap.objs.size, upd H s.heap.objs.size (valO s.heap.objs.size a), I.laid (t' := s.toks) (fun _ _ q => Heap.get?_push_of_some _ q) (Nat.le_refl _) (valO_new ⟨_, Heap.get?_push_size _ rfl, rfl, rfl⟩), rfl, q _ (I.hok.fresh (Nat.le_refl _))⟩
def rListV : List V → Hp → VK → Prop := fun vs H Q => ∃ (p a : Addr) (kvs : List (Key × V)), vs = [.ref p] ∧ H p = some (valO p a) ∧ H a = some (.dK kvs) ∧ ∀ q, H q = none → Q (.ref q) (upd H q (.lst (kvs.map (·.2))))
theorem kv_vals : ∀ {kvs : List (Key × V)} {vs : List (Key × Value)}, KV kvs vs → Vals (kvs.map (·.2)) (vs.map (·.2)) := by
  intro kvs vs h
  induction h with
  | nil => exact .nil
  | cons a _ ih => exact .cons a.2 ih
theorem call_listV {X : Cx} (hc : X.calm = true) : CallR X (.type "list") rListV := by
  intro pins s σ H vs us Q I r h
  obtain ⟨p, a, kvs, rfl, hp, ha, q⟩ := h
  rw [Vals.ref1 r]
  have ok := I.hok a _ ha
  simp only [ObjOk] at ok
  obtain ⟨hl, hm, vs, kv, hd⟩ := ok
  have okp := I.hok p _ hp
  simp only [valO, ObjOk] at okp
  have hv := okp.1
  obtain ⟨o, es, ep, hd⟩ := hd
  have hlen : vs.length = kvs.length := by
    have := (kv_vals kv).length
    simpa using this.symm
  refine W.kdl_call (W.kdl_values (knd := mixKind _ _) (kvs := vs) (ep := ep)) (I.ok.hd hc) ⟨hv, o, es, hd⟩ (by omega) fun h' tk acc' c' hk hS' hacc => ?_
  have ev : acc'.toList = vs.map (·.2) := by
    apply List.ext_getElem?
    intro j
    rw [List.getElem?_map]
    by_cases hj : j < vs.length
    · obtain ⟨v, hv⟩ : ∃ v, acc'.toList[j]? = some v := ⟨_, List.getElem?_eq_getElem (by rw [Array.length_toList, hacc.1]; exact hj)⟩
      obtain ⟨k, e⟩ := hacc.2 j v (by rw [← Array.getElem?_toList]; exact hv)
      rw [hv, e]; rfl
    · rw [List.getElem?_eq_none (by rw [Array.length_toList, hacc.1]; omega), List.getElem?_eq_none (by omega)]; rfl
  refine ⟨.ref s.heap.objs.size, upd H s.heap.objs.size (.lst (kvs.map (·.2))), I.laid (t' := tk) hk (Nat.le_refl _) ⟨by rw [List.length_map]; exact hl, acc'.toList, c', ?_, ?_⟩, rfl, q _ (I.hok.fresh (Nat.le_refl _))⟩
  · rw [ev]; exact kv_vals kv
  · simpa using hS'
def listValsD (d : D) (S : Sto) : Option (D × Sto) := match d with
  | .loc n => match S[n]? with
    | some (.dK kvs) => some (newD (.lst (kvs.map (·.2))) S)
    | _ => none
  | _ => none
section
variable {X : Cx} {e : Expr} {f : EvE} {p pos apos pos2 : Pos}
theorem ee_listVals (hcalm : X.calm = true) (hg1 : Gl X "list") (hm1 : X.mg "list" = none) (h : EE X e f)
    (ha : attributeBase e "values" X.env (eval e X.env) = eval e X.env := by rfl) (hb : (apos.endLine == pos2.line) = true := by rfl)
    (he2 : starEach [(Expr.Call (.Attribute e "values" apos) [] [] pos2)] X.env = (false, eval (.Call (.Attribute e "values" apos) [] [] pos2) X.env) :: starEach [] X.env := by rfl)
    (hpl : (backTo pos (starEach [] X.env)).any (·.1) = false := by rfl) : EE X (.Call (.Name "list" p) [.Call (.Attribute e "values" apos) [] [] pos2] [] pos) (u1E listValsD f) :=
  wkE (pe_callTy (call_listV hcalm) hg1 hm1 (by decide +kernel) (pa_cons (hs := he2) (pe_bm0 PySem.F.plainAttrs_dict PySem.F.slot_dict_values PySem.F.type_dict_values mt_values h ha hb) pa_nil) (by decide) (by decide) he2 hpl) fun σ H Q q => by
    obtain ⟨ρ, τ, S, d, S', A, e0, q⟩ := q
    obtain ⟨⟨d1, S1⟩, e1, e2⟩ := bindE e0
    refine goE A e1 fun ρ1 v1 H1 A1 P1 r1 => ?_
    cases d1 with
    | loc n =>
      simp only [listValsD] at e2
      split at e2
      · rename_i kds hn
        cases e2
        obtain ⟨a, kvs, rfl, hna, ha, qr⟩ := A1.s.dK hn r1
        refine ⟨.inr (.inr (.inl ⟨rfl, .inl ⟨_, ha⟩⟩)), a, kvs, rfl, rfl, ha, fun p hp => ?_⟩
        have P2 := A1.s.side hp (valO p a)
        have hpa : p ≠ a := fun e => by rw [e, ha] at hp; cases hp
        refine ⟨p, a, kvs, rfl, upd_same, ?_, fun z hz => ?_⟩
        · rw [upd_ne (Ne.symm hpa)]; exact ha
        · have q2 := qr.2.mono (P2.imm A1.s) List.prefix_rfl
          obtain ⟨P3, r3⟩ := new_lst P2.rel hz q2
          exact q _ _ _ (P1.trans (P2.trans P3)) r3
      · cases e2
    | _ => cases e2
end
end SW
/-! d.setdefault(k, v), the keys ints and texts -/
namespace SW
open PySem PySem.Spec PyProof.Rows L2

section
variable {X : Cx} {o e f : Expr} {fo fe ff : EvE} {apos cpos : Pos}
end
end SW
/-! defs that may raise; raise; calls of such defs -/
namespace SW
open PySem PySem.Spec PyProof.Rows L2

section
variable {P : Program} {w : World} {K : PySem.W.Frag} {mg : Str → Option Value} {base : Heap}
end
section
variable {X : Cx} {W : WX}
end
end SW
/-! try: .. except X as n: y = n -- the exception is held -/
namespace SW
open PySem PySem.Spec PyProof.Rows L2

end SW
/-! try in the layer -/
namespace SW
open PySem PySem.Spec PyProof.Rows L2

/-- the exceptions of these classes are caught by the class of value cv -/
def Caught (K : PySem.W.Frag) (subs : List String) (cv : Value) : Prop := ∀ c ∈ subs, ∃ C, PySem.W.nsIn K mainGlobals c = some (some (.ref C)) ∧ PySem.W.exmOne K (.ref C) cv = some true
theorem Caught.nil {K : PySem.W.Frag} {cv : Value} : Caught K [] cv := fun c h => by cases h
theorem Caught.cons {K : PySem.W.Frag} {cv : Value} {c : String} {C : Addr} {subs : List String} (h0 : PySem.W.nsIn K mainGlobals c = some (some (.ref C))) (h : PySem.W.exmOne K (.ref C) cv = some true) (t : Caught K subs cv) : Caught K (c :: subs) cv := fun x hx => by
  rcases List.mem_cons.mp hx with rfl | hx
  · exact ⟨C, h0, h⟩
  · exact t x hx
section
variable {X : Cx} {W : WX}
end
end SW
/-! isinstance of an exception that is held -/
namespace SW
open PySem PySem.Spec PyProof.Rows L2

section
variable {X : Cx}
end
/-- the table tells of each class what isinstance tells -/
def IsTbl (K : PySem.W.Frag) (cvs : List Value) (tup : Bool) (tbl : List (String × Bool)) : Prop := ∀ c b, tbl.lookup c = some b → ∃ C, PySem.W.nsIn K mainGlobals c = some (some (.ref C)) ∧ ExcC K C ∧ (if tup then PySem.W.kitAny K (.ref C) cvs = some b else ∃ cv, cvs = [cv] ∧ PySem.W.kitOne K (.ref C) cv = some b)
theorem IsTbl.nil {K : PySem.W.Frag} {cvs : List Value} {tup : Bool} : IsTbl K cvs tup [] := fun c b h => by cases h
theorem IsTbl.cons {K : PySem.W.Frag} {cvs : List Value} {tup : Bool} {c : String} {b : Bool} {C : Addr} {tbl : List (String × Bool)} (h0 : PySem.W.nsIn K mainGlobals c = some (some (.ref C))) (h1 : ExcC K C) (h2 : if tup then PySem.W.kitAny K (.ref C) cvs = some b else ∃ cv, cvs = [cv] ∧ PySem.W.kitOne K (.ref C) cv = some b) (t : IsTbl K cvs tup tbl) : IsTbl K cvs tup ((c, b) :: tbl) := fun x v hx => by
  rw [List.lookup_cons] at hx
  split at hx
  · rename_i e
    have e : x = c := by simpa using e
    subst e
    cases hx
    exact ⟨C, h0, h1, h2⟩
  · exact t x v hx
section
variable {X : Cx} {W : WX}
end
end SW
/-! len(f(..)), f may raise; ties to gen.py -/
namespace SW
open PySem PySem.Spec PyProof.Rows L2

section
variable {X : Cx} {W : WX}
end
end SW
/-! dict displays of more keys, xs.remove(k) -/
namespace SW
open PySem L2
section
variable {X : Cx} {pos : Pos}
end
section
variable {K : PySem.W.Frag}
end
end SW
/-! xs.count(b), xs a list of truths -/
namespace L2
open PySem PySem.Spec PyProof.Rows
section
variable {X : Cx}
end
end L2
namespace SW
open PySem L2
section
variable {K : PySem.W.Frag}
end
end SW
/-! try: .. except X as n: a suite that looks at n -/
namespace SW
open PySem PySem.Spec PyProof.Rows L2

section
variable {X : Cx} {W : WX}
end
end SW
/-! for k, v in f().items(): the dict stays locked from there on -/
namespace SW
open PySem PySem.Spec PyProof.Rows L2

section
variable {X : Cx}
end
end SW
/-! dict displays of four keys -/
namespace SW
open PySem L2
section
variable {X : Cx} {pos : Pos}
end
end SW
/-! text * n -/
namespace L2
open PySem PySem.Spec PyProof.Rows
end L2
namespace SW
open PySem L2
section
variable {K : PySem.W.Frag}
end
end SW
/-! x in a tuple of data of any depth -/
namespace L2
open PySem PySem.Spec PyProof.Rows
end L2
namespace SW
open PySem L2
section
variable {K : PySem.W.Frag}
end
section
variable {X : Cx} {a b : Expr} {fa fb : EvE} {pos : Pos}
end
end SW
/-! for with targets that look into the store; a, b, .. = a list -/
namespace SW
open PySem PySem.Spec PyProof.Rows L2
section
variable {X : Cx} {W : WX} {tg : Expr} {pos : Pos}
end
end SW
/-! d.pop(k) where the keys are tuples; d.get(e) where e may raise; x in a tuple of data, as a value -/
namespace L2
open PySem PySem.Spec PyProof.Rows
section
variable {X : Cx}
end
end L2
namespace SW
open PySem L2
section
variable {K : PySem.W.Frag} {ρ : List Addr} {S : Sto} {H : Hp}
theorem RelKV.drop {κ : Type} [DecidableEq κ] {k : κ} : ∀ {kds : List (κ × D)} {kvs : List (κ × V)}, RelKV K ρ H kds kvs → RelKV K ρ H (kds.filter fun p => decide (p.1 ≠ k)) (dropK kvs k)
  | [], kvs, h => by rw [h.nil_]; exact .nil
  | (k0, d) :: kds, kvs, h => by
    obtain ⟨v, r, rfl, h1, h2⟩ := h.split
    have ih := RelKV.drop (k := k) h2
    by_cases e : k0 = k
    · have a1 : ((k0, d) :: kds).filter (fun p => decide (p.1 ≠ k)) = kds.filter fun p => decide (p.1 ≠ k) := List.filter_cons_of_neg (by simp [e])
      have a2 : dropK ((k0, v) :: r) k = dropK r k := List.filter_cons_of_neg (by simp [e])
      rw [a1, a2]; exact ih
    · have a1 : ((k0, d) :: kds).filter (fun p => decide (p.1 ≠ k)) = (k0, d) :: kds.filter fun p => decide (p.1 ≠ k) := List.filter_cons_of_pos (by simp [e])
      have a2 : dropK ((k0, v) :: r) k = (k0, v) :: dropK r k := List.filter_cons_of_pos (by simp [e])
      rw [a1, a2]; exact .cons h1 ih
end
section
variable {X : Cx} {W : WX} {a b o e : Expr} {fa fb fo : EvE} {pos apos cpos : Pos}
end
end SW
set_option maxHeartbeats 1000000
/-! tuple(reversed(x)), x a tuple -/
namespace RT
open PySem PySem.Spec PyProof.Rows
section
variable {prog : Program} {w : World} {A : Around} {E : Value → Shared → Prop} {s : Shared}
end
end RT
namespace SW
open PySem L2 PyProof.Rows
section
variable {X : Cx} {e : Expr} {te : TE} {f : EvE} {p p2 pos pos2 : Pos}
end
end SW
/-! min(a, b) and max(a, b) of two pairs of numbers -/
namespace SW
open PySem L2 PyProof.Rows PySem.W

section
variable {prog : Program} {w : World} {A : Around} {E : Value → Shared → Prop} {s : Shared}
/-- the first pair is ahead of the second one -/
def prLt (i j k l : Int) : Prop := i < k ∨ (i = k ∧ j < l)
instance : Decidable (prLt i j k l) := inferInstanceAs (Decidable (_ ∨ _))
end
variable {K : PySem.W.Frag}
end SW
/-! one walk or another one; tuple * n for n of two and more -/
namespace SW
open PySem L2
section
variable {X : Cx} {tg e : Expr} {K : PySem.W.Frag}
end
end SW
/-! a truth and a number added -/
namespace SW
open PySem L2
section
variable {X : Cx} {K : PySem.W.Frag}
end
end SW
/-! comprehensions whose target a, b = a tuple or a list -/
namespace SW
open PySem PySem.Spec PyProof.Rows L2
section
variable {K : PySem.W.Frag} {ρ : List Addr} {S : Sto} {H : Hp}
end
end SW
/-! enumerate(zip(a, b)) of two tuples: the zip's own tuple stays given out, so it makes a new one each time (or uses its own again, where that is free). -/
namespace SW
open PySem PySem.Spec PyProof.Rows L2

section
variable {prog : Program} {w : World} {A : Around} {E : Value → Shared → Prop} {s : Shared}
end
section
variable {prog : Program} {w : World} {A : Around} {E : Value → Shared → Prop} {s : Shared} {z TI TO i1 i2 : Addr} {l1 l2 : List Addr} {n1 n2 i : Nat} {P1 P2 : Nat → Value → Prop} {St1 St2 : Nat → Heap → Prop} {u1 u2 f0 f1 : Value}
end
end SW
namespace SW
open PySem PySem.Spec PyProof.Rows L2

section
variable {prog : Program} {w : World} {A : Around} {E : Value → Shared → Prop} {s : Shared} {z TI TO i1 i2 e : Addr} {l1 l2 : List Addr} {n1 n2 i : Nat} {P1 P2 : Nat → Value → Prop} {St1 St2 : Nat → Heap → Prop} {c : Int} {old : Value}
end
end SW
namespace SW
open PySem PySem.Spec PyProof.Rows L2

section
variable {prog : Program} {w : World} {A : Around} {E : Value → Shared → Prop} {s : Shared}
end
/-! in the layer -/
section
variable {X : Cx} {K : PySem.W.Frag} {ρ : List Addr} {S : Sto} {H : Hp} {e e2 : Expr}
end
end SW
/-! sorted(set(t)), t a tuple of tuples of any depth -/
namespace SW
open PySem PySem.Spec PyProof.Rows L2

section
variable {P : Program} {w : World} {A : Around} {E : Value → Shared → Prop} {s : Shared}
end
section
variable {X : Cx}
end
section
variable {X : Cx} {e : Expr} {f : EvE} {p p2 pos pos2 : Pos}
end
end SW
/-! str(i), bool(i) -/
namespace SW
open PySem PySem.Spec PyProof.Rows L2

section
variable {K : PySem.W.Frag}
end
section
variable {K : PySem.W.Frag}
end
end SW
/-! sorted(xs), xs a list of tuples of any depth -/
namespace SW
open PySem PySem.Spec PyProof.Rows L2

section
variable {P : Program} {w : World} {A : Around} {E : Value → Shared → Prop} {s : Shared}
end
section
variable {X : Cx}
end
end SW
set_option maxHeartbeats 1000000
/-! list(reversed(x)), x a list; f() -/
namespace RT
open PySem PySem.Spec PyProof.Rows PySem.W
section
variable {prog : Program} {w : World} {A : Around} {E : Value → Shared → Prop} {s : Shared}
end
end RT
namespace SW
open PySem L2 PyProof.Rows
section
variable {X : Cx} {e : Expr} {te : TE} {f : EvE} {p p2 pos pos2 : Pos}
end
/-! f() -/
section
variable {X : Cx}
end
end SW
set_option maxHeartbeats 1000000
/-! dict(d): a copy, the keys pairs of small numbers -/
namespace RT
open PySem PySem.Spec PyProof.Rows PySem.W
section
variable {K : Type} [DecidableEq K] {prog : Program} {w : World} {A : Around} {E : Value → Shared → Prop} {s : Shared} {knd : HeapKind prog w K}
end
end RT
namespace SW
open PySem L2 PyProof.Rows
end SW
/-! sorted(set(t)), t a tuple of numbers -/
namespace SW
open PySem PySem.Spec PyProof.Rows L2

section
variable {P : Program} {w : World} {A : Around} {E : Value → Shared → Prop} {s : Shared}
end
section
variable {X : Cx}
end
section
variable {X : Cx} {e : Expr} {f : EvE} {p p2 pos pos2 : Pos}
end
end SW
set_option maxHeartbeats 1000000
/-! sum(list of lists, []) -/
namespace RT
open PySem PySem.Spec PyProof.Rows
section
variable {prog : Program} {w : World} {A : Around} {E : Value → Shared → Prop} {s : Shared}
end
section
variable {prog : Program} {w : World} {A : Around} {R : Result → Shared → Prop} {I : Addr} {fp wr : List Addr} {G : Array GenState → Array GenState → Prop} {n : Nat} {P : Nat → Value → Prop} {St : Nat → Shared → Prop}
end
section
variable {prog : Program} {w : World} {A : Around} {E : Value → Shared → Prop} {s : Shared}
end
end RT
namespace SW
open PySem PySem.Spec PyProof.Rows L2
section
variable {X : Cx}
end
section
variable {K : PySem.W.Frag} {ρ : List Addr} {S : Sto} {H : Hp}
end
end SW
/-! a list of anything against []; xs.count(None) -/
namespace L2
open PySem PySem.Spec PyProof.Rows
section
variable {X : Cx}
end
end L2
namespace SW
open PySem L2
section
variable {K : PySem.W.Frag}
end
end SW
/-! sorted(set(xs)) with up to 76 members -/
namespace SW
open PySem PySem.Spec PyProof.Rows L2
section
variable {P : Program} {w : World} {A : Around} {E : Value → Shared → Prop} {s : Shared}
structure SetNRB (w : World) (h : Heap) (a : Addr) (L : List KA) (es : Array (Int × Value)) (ep : Nat) (t : SetTable) : Prop where
  ob : ∃ o, h.get? a = some o ∧ o.ExactSet ∧ o.data = .set es ep t
  rows : es.toList = rowsN w L
  tab : TabOk t (L.map fun p => nkh w p.2)
  nd : (L.map (·.2)).Nodup
  tup : ∀ p ∈ L, NtK h p.2 p.1
  plain : t.plain = true
  led : w.params.followText "set-order" = true ∨ t.led = true
  room : L.length * 5 < t.mask * 3
  few : L.length < 77
variable {a : Addr} {L : List KA} {es : Array (Int × Value)} {ep : Nat} {t : SetTable}
theorem SetNRB.size (R : SetNRB w s.heap a L es ep t) : es.size = L.length := by
  have h := congrArg List.length R.rows
  unfold rowsN at h
  rw [Array.length_toList, List.length_map] at h
  exact h
theorem SetNRB.fits (R : SetNRB w s.heap a L es ep t) : t.fits es.size = true := by
  have h1 := R.tab.sz
  rw [List.length_map] at h1
  have h2 := R.size
  have h3 := R.room
  unfold SetTable.fits SetTable.fill
  rw [R.tab.dm, Bool.and_eq_true, beq_iff_eq, decide_eq_true_eq]
  show t.place.size = es.size ∧ t.place.size + 0 ≤ t.mask
  omega
theorem SetNRB.entry (R : SetNRB w s.heap a L es ep t) {i : Nat} {p : KA} (h : L[i]? = some p) : es[i]? = some (nkh w p.2, Value.ref p.1) := by
  rw [← Array.getElem?_toList, R.rows]
  unfold rowsN
  rw [List.getElem?_map, h] <;> rfl
theorem SetNRB.gw (R : SetNRB w s.heap a L es ep t) : ¬ t.gaveWay = true := by
  unfold SetTable.gaveWay
  rw [mask_odd R.tab.mok]
  decide
/-- the set stays small -/
def FewNB (ks : List KA) : Prop := ∀ (i : Nat) (L : List KA), i < ks.length → GotN ks i L → (L.map (·.2)).Nodup → L.length + 1 < 77
theorem FewNB.of {ks : List KA} (h : ks.length < 77) : FewNB ks := fun i L hi g _ => by have := g.len; omega
theorem SetNRB.keep {h h' : Heap} {a : Addr} {L : List KA} {es : Array (Int × Value)} {ep : Nat} {t : SetTable} (R : SetNRB w h a L es ep t) (ha : ∀ o, h.get? a = some o → h'.get? a = some o) (ht : ∀ p ∈ L, NtK h' p.2 p.1) : SetNRB w h' a L es ep t := by
  obtain ⟨o, ho, r⟩ := R.ob
  exact ⟨⟨o, ha o ho, r⟩, R.rows, R.tab, R.nd, ht, R.plain, R.led, R.room, R.few⟩
end
/-- the set at a, whatever its members are -/
def SetN0B (w : World) (h : Heap) (a : Addr) (L : List KA) : Prop :=
  ∃ (es : Array (Int × Value)) (ep : Nat) (t : SetTable), (∃ o, h.get? a = some o ∧ o.ExactSet ∧ o.data = .set es ep t) ∧ es.toList = rowsN w L ∧ TabOk t (L.map fun p => nkh w p.2) ∧ (L.map (·.2)).Nodup ∧ t.plain = true ∧
    (w.params.followText "set-order" = true ∨ t.led = true) ∧ L.length * 5 < t.mask * 3 ∧ L.length < 77
theorem SetNRB.bare0 {w : World} {h : Heap} {a : Addr} {L : List KA} {es : Array (Int × Value)} {ep : Nat} {t : SetTable} (R : SetNRB w h a L es ep t) : SetN0B w h a L := ⟨es, ep, t, R.ob, R.rows, R.tab, R.nd, R.plain, R.led, R.room, R.few⟩
theorem SetN0B.full {w : World} {h : Heap} {a : Addr} {L : List KA} (R : SetN0B w h a L) (all : ∀ p ∈ L, NtK h p.2 p.1) : ∃ es ep t, SetNRB w h a L es ep t :=
  let ⟨es, ep, t, h1, h2, h3, h4, h5, h6, h7, h8⟩ := R
  ⟨es, ep, t, h1, h2, h3, h4, all, h5, h6, h7, h8⟩
theorem FewNB.ded {ks : List KA} (h : ks.length < 77 ∨ (dedL (ks.map (·.2))).length < 76) : FewNB ks := by
  rcases h with h | h
  · exact .of h
  · intro i L hi g nd
    have sub : (L.map (·.2)) ⊆ dedL (ks.map (·.2)) := fun x hx => by
      obtain ⟨p, hp, rfl⟩ := List.mem_map.mp hx
      exact dedL_mem.mpr (List.mem_map.mpr ⟨p, List.mem_of_mem_take (g.sub p hp), rfl⟩)
    have := nodup_sub_len nd sub
    rw [List.length_map] at this
    omega
section
variable {X : Cx}
end
section
variable {X : Cx} {e : Expr} {f : EvE} {p p2 pos pos2 : Pos}
end
end SW
/-! exceptions with a field of their own: raise C(words, x); except X as n: y = n; isinstance; y.f -/
namespace SW
open PySem PySem.Spec PyProof.Rows L2

section
variable {X : Cx} {e : Expr} {es : List Expr} {ta : TA} {p1 p2 pos : Pos}
end
section
variable {P : Program} {w : World} {K : PySem.W.Frag} {mg : Str → Option Value} {base : Heap}
end
section
variable {X : Cx} {W : WX}
end
section
variable {X : Cx} {pins : List (Addr × Obj)} {σ : L2.St} {H : Hp} {s : Shared}
end
section
variable {X : Cx} {W : WX}
end
end SW

namespace PySem.W
open PySem PySem.Calls PyProof.Rows
section
variable {prog : Program} {w : World} {A : Around} {E : Value → Shared → Prop} {s : Shared} {K : Frag} {x D : Addr} {ox : Obj} {od : Option Obj}
end
end PySem.W
/-! isinstance of a held exception that may have fields; its field -/
namespace SW
open PySem PySem.Spec PyProof.Rows L2

section
variable {X : Cx}
end
section
variable {X : Cx} {W : WX}
end
end SW
/-! try: .. except X as n: y = n.f -/
namespace SW
open PySem PySem.Spec PyProof.Rows L2

section
variable {X : Cx} {W : WX}
end
end SW
/-! sorted(xs), min(xs): xs a list of data of any kind (texts, tuples with texts, nested) -/
namespace SW
open PySem PySem.Spec PyProof.Rows L2

section
variable {X : Cx}
end
section
variable {K : PySem.W.Frag} {ρ : List Addr} {S : Sto} {H : Hp}
end
section
variable {X : Cx}
end
end SW
/-! d != {}; list(d) of a dict whose keys are ints and texts -/
namespace PySem.W
open PySem PySem.Calls PyProof.Rows PySem.Spec
section
variable {prog : Program} {w : World} {A : Around} {E : Value → Shared → Prop} {s : Shared}
end
end PySem.W
namespace SW
open PySem PySem.Spec PyProof.Rows L2
section
variable {X : Cx}
end
end SW
/-! for k in a locked dict, the keys whole numbers or texts -/
namespace SW
open PySem PySem.Spec PyProof.Rows L2

section
variable {X : Cx} {tg e : Expr}
end
end SW
/-! tuples made by tuple(xs), their object known (.tn): t.index(i), t a tuple of numbers -/
namespace SW
open PySem PySem.Spec PyProof.Rows L2

def tnD (as : List D) (S : Sto) : Option (D × Sto) := match as with
  | [.loc n] => match S[n]? with
    | some (.lst ds) => some (.tn ds, S)
    | _ => none
  | _ => none
def tyF (x : V) (H : Hp) : Prop := ∃ (a : Addr) (o : Obj) (xs : List V), x = .ref a ∧ H a = some (.frz o (.tup xs)) ∧ o.cls = .type "tuple" ∧ o.dict = none
def tBMF (r : V → List V → Hp → VK → Prop) (to : TE) (t : TA) : TE := fun σ H Q => to σ H fun x H1 => tyF x H1 ∧ t σ H1 fun xs H2 => r x xs H2 Q
def rTupF (K : PySem.W.Frag) : List V → Hp → VK → Prop := fun xs H Q => ∃ p ys, xs = [.ref p] ∧ SqL K H p ys ∧ ∀ (l : Addr) (o : Obj), H l = none → o.cls = .type "tuple" → o.dict = none → Q (.ref l) (upd H l (.frz o (.tup ys)))
def rIdxT : V → List V → Hp → VK → Prop := fun x xs H Q => ∃ (a : Addr) (is : List Int) (i : Int), x = .ref a ∧ xs = [.int i] ∧ (∃ o, H a = some (.frz o (.tup (is.map V.int)))) ∧ i ∈ is ∧ Q (.int (is.idxOf i : Nat)) H
section
variable {X : Cx}
theorem cr_tupleF : CallR X (.type "tuple") (rTupF X.K) := by
  intro pins s σ H xs us Q I r h
  obtain ⟨p, ys, rfl, hq, q⟩ := h
  obtain ⟨u, rfl, rx⟩ := vals1 r
  cases rx
  obtain ⟨its, r', pl, hz⟩ := I.list hq
  have hlen := r'.length
  refine call_tuple_list pl.isList (fun h' kp => ?_) (by simp only [List.size_toArray] <;> omega)
  have I1 : Inv X pins σ H { s with heap := h' } := I.kept (t' := s.toks) kp
  have I2 : Inv X pins σ (upd H h'.objs.size (.frz { cls := .type "tuple", data := .seq its.toArray } (.tup ys))) { s with heap := h'.push { cls := .type "tuple", data := .seq its.toArray } } :=
    I1.laid (t' := s.toks) (fun b o e => Heap.get?_push_of_some _ e) (Nat.le_refl _) (show ObjOk X.prog X.w _ _ _ (.frz _ (.tup ys)) from ⟨Heap.get?_push_size _ rfl, hz, its, r', IsTup.new _ _⟩)
  exact ⟨.ref h'.objs.size, _, I2, rfl, q _ _ (I1.hok.fresh (Nat.le_refl _)) rfl rfl⟩
theorem mt_tindex : MtR X "tuple.index" rIdxT := by
  intro pins s σ H x xs v us Q I rx rxs h
  obtain ⟨a, is, i, rfl, rfl, ⟨o, ho⟩, hi, q⟩ := h
  cases rx
  obtain ⟨u, rfl, ry⟩ := vals1 rxs
  obtain ⟨t, rfl⟩ := ry
  obtain ⟨he, hz, its, rv, tp⟩ := I.hok a _ ho
  refine PySem.SeqAt.tuple_index_ints tp (intsAre_of rv) hi ?_
  exact ⟨.int ((is.idxOf i : Nat) : Int), H, I.tok _, ⟨_, rfl⟩, q⟩
theorem tyF_is {pins : List (Addr × Obj)} {σ : L2.St} {H : Hp} {s : Shared} {x : V} {v : Value} (I : Inv X pins σ H s) (r : RelV x v) (ty : tyF x H) :
    s.TypeIs v "tuple" ∧ ∀ a, v = .ref a → ∃ ob, s.heap.get? a = some ob ∧ ob.dict = none := by
  obtain ⟨a, o, xs, rfl, ho, hc, hd⟩ := ty
  cases r
  obtain ⟨he, _⟩ := I.hok a _ ho
  refine ⟨⟨o, he, hc⟩, fun b e => ?_⟩
  cases e
  exact ⟨o, he, hd⟩
theorem pe_bmF {o e : Expr} {es : List Expr} {to : TE} {t : TA} {name : Str} {apos cpos : Pos} {id : String} {r : V → List V → Hp → VK → Prop} (pa : PlainAttrs "tuple") (slot : Slot "tuple" name id) (hty : typeOf (.builtin id) = pure (.type "method_descriptor")) (hm : MtR X id r) (ho : PE X o to) (ha : PA X (e :: es) t)
    (hbase : attributeBase o name X.env (eval o X.env) = eval o X.env := by rfl)
    (hfew : ((backTo cpos (starEach (e :: es) X.env)).all (fun x => !x.1) && (backToKw cpos (keywordEach [] X.env)).all (fun x => x.1.isSome)
      && decide ((e :: es).length + ([] : List Keyword).length + (if ([] : List Keyword).isEmpty then 0 else 1) < 30)) = true := by rfl)
    (hline : (apos.endLine == cpos.line) = true := by rfl) (hs : starEach (e :: es) X.env = (false, eval e X.env) :: starEach es X.env := by rfl) (hplain : (backTo cpos (starEach es X.env)).any (·.1) = false := by rfl) :
    PE X (.Call (.Attribute o name apos) (e :: es) [] cpos) (tBMF r to t) := by
  refine ⟨fun pins s σ H Q I h => ?_⟩
  refine wpAny_Call_method_late hbase hfew hline rfl (thn (ho.run pins s σ H _ I h) fun v s1 ⟨x, H1, I1, r1, ty, q1⟩ => ?_)
  obtain ⟨h1, h2⟩ := tyF_is I1 r1 ty
  refine ⟨"tuple", id, pa, slot, hty, h1, h2, ?_⟩
  have hA := ha.run cpos pins s1 σ H1 _ I1 q1
  rw [hs] at hA ⊢
  refine Calls.callWith_builtin (by show (false || (backTo cpos (starEach es X.env)).any (·.1)) = false; rw [hplain] <;> rfl) (Calls.evalArgs_plain ?_)
  exact thn hA fun us s2 ⟨vs, H2, I2, r2, q2⟩ => hm pins s2 σ H2 x vs v us Q I2 r1 r2 q2
end
section
variable {K : PySem.W.Frag}
theorem opa_tn : OpA K (rTupF K) tnD := fun ρ S H x v d S' R r e Q k => by
  unfold tnD at e
  split at e
  · rename_i n
    obtain ⟨w, rfl, q⟩ := r.one_
    split at e
    · rename_i ds eo
      cases e
      obtain ⟨a, xs, rfl, _, h, q1⟩ := R.lst eo q
      refine ⟨a, xs, rfl, SqL.of h, fun p o hp hc hd => ?_⟩
      have P := R.side hp (.frz o (.tup xs))
      exact k _ _ _ P (RelD.tn upd_same hc hd (q1.mono (P.imm R) List.prefix_rfl))
    · cases e
  · cases e
def mT (fo : EvE) (fa : EvA) : EvE := fun τ S => (fo τ S).bind fun p => match p.1 with
  | .tn ds => (fa τ p.2).bind fun q => match q.1 with
    | [.int i] => (intsOf ds).bind fun is => if i ∈ is then some (.int ((is.idxOf i : Nat) : Int), q.2) else none
    | _ => none
  | _ => none
end
theorem ee_mT {X : Cx} {o e0 : Expr} {es : List Expr} {name : Str} {fo : EvE} {fa : EvA} {apos cpos : Pos}
    (h : PE X (.Call (.Attribute o name apos) (e0 :: es) [] cpos) (tBMF rIdxT (tE X.K fo) (tA X.K fa))) : EE X (.Call (.Attribute o name apos) (e0 :: es) [] cpos) (mT fo fa) := wkE h fun σ H Q q => by
  obtain ⟨ρ, τ, S, d, S', A, e, k⟩ := q
  obtain ⟨⟨x, S1⟩, e1, e⟩ := bindE e
  cases x <;> simp only at e <;> try cases e
  rename_i ds
  obtain ⟨⟨ys, S2⟩, e2, e⟩ := bindE e
  simp only at e
  split at e
  · rename_i i
    obtain ⟨is, e3, e⟩ := bindE e
    split at e
    · rename_i hi
      cases e
      refine goE A e1 fun ρ1 v1 H1 A1 P1 r1 => ?_
      obtain ⟨a, ob, xs, rfl, ha, hc, hd, q1⟩ := r1.tn_
      refine ⟨⟨a, ob, xs, rfl, ha, hc, hd⟩, goA A1 e2 fun ρ2 v2 H2 A2 P2 r2 => ?_⟩
      obtain ⟨w, rfl, q2⟩ := r2.one_
      rw [q2.int_]
      have hx := intsOf_rel q1 e3
      subst hx
      refine ⟨a, is, i, rfl, rfl, ⟨ob, P2.lck _ _ _ ha⟩, hi, k ρ2 _ H2 (P1.trans P2) (RelD.int _)⟩
    · cases e
  · cases e
end SW

namespace SW
open PySem L2
def b_l_folded : EvS := (seqS (stS 2 (aE listD (consA (slE (vE 0) noO (someO (vE 1))) nilA)))
  (seqS (forS (enI (slE (vE 0) (someO (vE 1)) (someO (cE (.int 63))))) (.tp [(.nm 3), (.nm 4)]) (asS (b2E addD (b2E sbD (vE 2) (b2E modD (vE 3) (vE 1))) (b2E mulD (vE 4) (b2E addD (vE 3) (cE (.int 2))))) (subG (vE 2) (b2E modD (vE 3) (vE 1)))))
  (rtS (vE 2))))
def g_l_folded : Fn := fnD 2 5 b_l_folded
def b_l_box : EvS := (seqS (stS 2 (b2E sbD (b2E addD (vE 0) (b2E mulD (aE lstD (consA (cE (.int 0)) nilA)) (b2E addD (vE 1) (cE (.int 1))))) (vE 1)))
  (rtS (aE lstD (consA (b2E mulD (aE absD (consA (vE 2) nilA)) (aE intD (consA (b2E geD (aE absD (consA (vE 2) nilA)) (b2E powD (cE (.int 10)) (cE (.int 18)))) nilA))) (consA (b2E modD (b2E mulD (b2E addD (b2E addD (b2E modD (vE 2) (cE (.int 2147483647))) (b2E mulD (cE (.int 7919)) (vE 1))) (cE (.int 11))) (cE (.int 48271))) (cE (.int 2147483629))) (consA (cE (.int 0)) nilA))))))
def g_l_box : Fn := fnD 2 3 b_l_box
def b_l_take : EvS := (seqS (ifS (tB (b2E gtD (b2E sbD (vE 0) (cE (.int 0))) (cE (.int 0)))) (seqS (asS (aE divmodD (consA (b2E sbD (vE 0) (cE (.int 0))) (consA (vE 1) nilA))) (tupG (consG (subG (vE 0) (cE (.int 0))) (consG (patG (.nm 3)) nilG))))
  (rtS (vE 3))) nxS)
  (seqS (asS (b2E addD (b2E sbD (vE 0) (cE (.int 2))) (cE (.int 1))) (subG (vE 0) (cE (.int 2))))
  (seqS (stS 2 (b2E modD (b2E mulD (b2E addD (b2E sbD (vE 0) (cE (.int 1))) (b2E mulD (cE (.int 39373)) (b2E sbD (vE 0) (cE (.int 2))))) (b2E addD (cE (.int 48271)) (b2E sbD (vE 0) (cE (.int 2))))) (cE (.int 2147483647))))
  (seqS (asS (b2E modD (b2E addD (b2E mulD (vE 2) (b2E addD (b2E modD (vE 2) (cE (.int 40009))) (cE (.int 7)))) (b2E sbD (vE 0) (cE (.int 2)))) (cE (.int 2147483629))) (subG (vE 0) (cE (.int 1))))
  (rtS (b2E modD (b2E fdivD (b2E modD (b2E mulD (b2E sbD (vE 0) (cE (.int 1))) (b2E addD (b2E modD (b2E sbD (vE 0) (cE (.int 1))) (cE (.int 1009))) (cE (.int 3)))) (cE (.int 998244353))) (cE (.int 7))) (vE 1)))))))
def g_l_take : Fn := fnD 2 4 b_l_take
def b_l_joined : EvS := (seqS (stS 1 nT)
  (seqS (forS (rgI1 (aE lenD (consA (vE 0) nilA))) (.nm 2) (forS (enI (b2E sbD (vE 0) (vE 2))) (.tp [(.nm 5), (.nm 6)]) (asS (aE tupD (consA (vE 2) (consA (vE 5) nilA))) (subG (vE 1) (vE 6)))))
  (seqS (stS 3 (aE lstD nilA))
  (seqS (forS (sqI (vE 0)) (.nm 4) (exS (mE appendM (vE 3) (consA (aE tupleD (consA (lcE (sqI (vE 4)) (.tp [(.nm 7), (.nm 8)]) yesT (b2E sbD (vE 1) (aE tupD (consA (vE 7) (consA (b2E sbD (aE lstD (consA (cE (.int 1)) (consA (cE (.int 0)) (consA (cE (.int 2)) nilA)))) (vE 8)) nilA)))) [7, 8]) nilA)) nilA))))
  (rtS (aE tupleD (consA (vE 3) nilA)))))))
def g_l_joined : Fn := fnD 1 9 b_l_joined
def b_l_doors_put : EvS := (seqS (stS 3 (lcE (rgI1 (vE 2)) (.nm 6) yesT (aE lstD nilA) [6]))
  (seqS (forS (enI (vE 1)) (.tp [(.nm 4), (.tp [(.nm 7), (.nm 8)])]) (seqS (stS 5 (iteE (tB (b2E eqD (vE 8) (vE 2))) (aE lstD (consA (aE tupD (consA (vE 7) (consA (cE (.int 2)) nilA))) nilA)) (aE lstD (consA (aE tupD (consA (vE 7) (consA (cE (.int 0)) nilA))) (consA (aE tupD (consA (vE 8) (consA (cE (.int 1)) nilA))) nilA)))))
  (forS (sqI (vE 5)) (.tp [(.nm 6), (.nm 9)]) (exS (mE insertM (b2E sbD (vE 3) (vE 6)) (consA (aE g_l_take (consA (vE 0) (consA (b2E addD (aE lenD (consA (b2E sbD (vE 3) (vE 6)) nilA)) (cE (.int 1))) nilA))) (consA (aE tupD (consA (vE 4) (consA (vE 9) nilA))) nilA)))))))
  (rtS (aE g_l_joined (consA (vE 3) nilA)))))
def g_l_doors_put : Fn := fnD 3 10 b_l_doors_put
def b_l_web : EvS := (seqS (stS 3 (b2E mulD (aE lstD (consA (cE (.int 0)) nilA)) (vE 1)))
  (seqS (stS 4 (aE lstD nilA))
  (seqS (forS (rgI2 (cE (.int 1)) (vE 1)) (.nm 5) (seqS (stS 7 (lcE (rgI1 (vE 5)) (.nm 11) (tB (b2E ltD (b2E sbD (vE 3) (vE 11)) (vE 2))) (vE 11) [11]))
  (seqS (exS (mE appendM (vE 4) (consA (aE tupD (consA (b2E sbD (vE 7) (aE g_l_take (consA (vE 0) (consA (aE lenD (consA (vE 7) nilA)) nilA)))) (consA (vE 5) nilA))) nilA)))
  (forS (sqI (b2E sbD (vE 4) (u1E negD (cE (.int 1))))) (.nm 8) (asS (b2E addD (b2E sbD (vE 3) (vE 8)) (cE (.int 1))) (subG (vE 3) (vE 8)))))))
  (seqS (forS (rgI1 (aE g_l_take (consA (vE 0) (consA (b2E addD (vE 1) (cE (.int 2))) nilA)))) (.nm 6) (seqS (stS 9 (aE tupD (consA (aE g_l_take (consA (vE 0) (consA (vE 1) nilA))) (consA (aE g_l_take (consA (vE 0) (consA (b2E addD (vE 1) (cE (.int 1))) nilA))) nilA))))
  (seqS (stS 10 (lcE (sqI (vE 9)) (.nm 8) (tB (b2E ltD (vE 8) (vE 1))) (vE 8) [8]))
  (ifS (tB (aE allD (consA (lcE (sqI (vE 10)) (.nm 8) yesT (b2E leD (b2E addD (b2E sbD (vE 3) (vE 8)) (mE countM (vE 10) (consA (vE 8) nilA))) (vE 2)) [8]) nilA))) (seqS (exS (mE appendM (vE 4) (consA (vE 9) nilA)))
  (forS (sqI (vE 10)) (.nm 8) (asS (b2E addD (b2E sbD (vE 3) (vE 8)) (cE (.int 1))) (subG (vE 3) (vE 8))))) nxS))))
  (rtS (aE g_l_doors_put (consA (vE 0) (consA (vE 4) (consA (vE 1) nilA)))))))))
def g_l_web : Fn := fnD 3 12 b_l_web
def b_l_ends : EvS := (seqS (stS 1 (aE lstD nilA))
  (seqS (forS (rgI1 (aE lenD (consA (vE 0) nilA))) (.nm 2) (forS (rgI1 (aE lenD (consA (b2E sbD (vE 0) (vE 2)) nilA))) (.nm 3) (ifS (tB (b2E leD (aE tupD (consA (vE 2) (consA (vE 3) nilA))) (b2E sbD (b2E sbD (vE 0) (vE 2)) (vE 3)))) (exS (mE appendM (vE 1) (consA (aE tupD (consA (aE tupD (consA (vE 2) (consA (vE 3) nilA))) (consA (b2E sbD (b2E sbD (vE 0) (vE 2)) (vE 3)) nilA))) nilA))) nxS)))
  (rtS (vE 1))))
def g_l_ends : Fn := fnD 1 4 b_l_ends
def b_l_sheeted : EvS := (seqS (stS 3 (lcE (rgI1 (b2E mulD (vE 2) (aE lenD (consA (vE 0) nilA)))) (.nm 6) yesT (b2E mulD (aE lstD (consA (cE .non) nilA)) (aE lenD (consA (b2E sbD (vE 0) (b2E modD (vE 6) (aE lenD (consA (vE 0) nilA)))) nilA))) [6]))
  (seqS (forS (enI (aE g_l_ends (consA (vE 0) nilA))) (.tp [(.nm 4), (.tp [(.nm 7), (.nm 8)])]) (forS (rgI1 (vE 2)) (.nm 5) (seqS (stS 9 (b2E addD (b2E sbD (vE 7) (cE (.int 0))) (b2E mulD (vE 5) (aE lenD (consA (vE 0) nilA)))))
  (seqS (stS 10 (b2E addD (b2E sbD (vE 8) (cE (.int 0))) (b2E mulD (b2E sbD (b2E sbD (vE 1) (vE 4)) (vE 5)) (aE lenD (consA (vE 0) nilA)))))
  (seqS (asS (aE tupD (consA (vE 10) (consA (b2E sbD (vE 8) (cE (.int 1))) nilA))) (subG (b2E sbD (vE 3) (vE 9)) (b2E sbD (vE 7) (cE (.int 1)))))
  (asS (aE tupD (consA (vE 9) (consA (b2E sbD (vE 7) (cE (.int 1))) nilA))) (subG (b2E sbD (vE 3) (vE 10)) (b2E sbD (vE 8) (cE (.int 1))))))))))
  (rtS (aE tupleD (consA (lcE (sqI (vE 3)) (.nm 11) yesT (aE tupleD (consA (vE 11) nilA)) [11]) nilA)))))
def g_l_sheeted : Fn := fnD 3 12 b_l_sheeted
def b_l_reached : EvS := (seqS (stS 2 (aE lstD (consA (vE 1) nilA)))
  (seqS (stS 3 (cE (.int 0)))
  (seqS (whS (tB (b2E ltD (vE 3) (aE lenD (consA (vE 2) nilA)))) (seqS (forS (sqI (b2E sbD (vE 0) (b2E sbD (vE 2) (vE 3)))) (.tp [(.nm 4), (.nm 5)]) (ifS (tB (b2E notInD (vE 4) (vE 2))) (exS (mE appendM (vE 2) (consA (vE 4) nilA))) nxS))
  (stS 3 (b2E addD (vE 3) (cE (.int 1))))))
  (rtS (vE 2)))))
def g_l_reached : Fn := fnD 2 6 b_l_reached
def b_l_ring : EvS := (rtS (aE tupleD (consA (lcE (rgI1 (vE 0)) (.nm 1) yesT (aE tupD (consA (aE tupD (consA (b2E modD (b2E addD (vE 1) (cE (.int 1))) (vE 0)) (consA (cE (.int 1)) nilA))) (consA (aE tupD (consA (b2E modD (b2E subD (vE 1) (cE (.int 1))) (vE 0)) (consA (cE (.int 0)) nilA))) nilA))) [1]) nilA)))
def g_l_ring : Fn := fnD 1 2 b_l_ring
def b_l_gone : EvS := (seqS (stS 3 (aE lstD (consA (aE tupD (consA (vE 1) (consA (cE .non) nilA))) nilA)))
  (seqS (forS (sqI (vE 2)) (.nm 4) (seqS (stS 5 (b2E sbD (vE 0) (b2E sbD (b2E sbD (vE 3) (u1E negD (cE (.int 1)))) (cE (.int 0)))))
  (seqS (ifS (notT (tB (b2E ltD (vE 4) (aE lenD (consA (vE 5) nilA))))) (rtS (cE .non)) nxS)
  (exS (mE appendM (vE 3) (consA (b2E sbD (vE 5) (vE 4)) nilA))))))
  (rtS (vE 3))))
def g_l_gone : Fn := fnD 3 6 b_l_gone
def b_l_alike (self : Fn) : EvS := (seqS (ifS (tB (b2E isD (vE 1) (cE .non))) (rtS (b2E isD (vE 0) (cE .non))) nxS)
  (seqS (ifS (tB (aE isiD (consA (vE 1) (consA (cE (.ty "bool")) nilA)))) (rtS (andE (aE isiD (consA (vE 0) (consA (cE (.ty "bool")) nilA))) (b2E eqD (vE 0) (vE 1)))) nxS)
  (seqS (ifS (tB (aE isiD (consA (vE 1) (consA (aE tupD (consA (cE (.ty "list")) (consA (cE (.ty "tuple")) nilA))) nilA)))) (seqS (ifS (orT' (tB (b2E neD (aE isiD (consA (vE 0) (consA (cE (.ty "list")) nilA))) (aE isiD (consA (vE 1) (consA (cE (.ty "list")) nilA))))) (tB (b2E neD (aE isiD (consA (vE 0) (consA (cE (.ty "tuple")) nilA))) (aE isiD (consA (vE 1) (consA (cE (.ty "tuple")) nilA)))))) (rtS (cE (.bl false))) nxS)
  (rtS (andE (b2E eqD (aE lenD (consA (vE 0) nilA)) (aE lenD (consA (vE 1) nilA))) (aE allD (consA (lcE (ziI (vE 0) (vE 1)) (.tp [(.nm 2), (.nm 3)]) yesT (aE self (consA (vE 2) (consA (vE 3) nilA))) [2, 3]) nilA))))) nxS)
  (rtS (andE (aE isiD (consA (vE 0) (consA (cE (.ty "int")) nilA))) (andE (notE (aE isiD (consA (vE 0) (consA (cE (.ty "bool")) nilA)))) (b2E eqD (vE 0) (vE 1))))))))
def g_l_alike : Nat → Fn
  | 0 => fun _ _ => none
  | n + 1 => fnD 2 4 (b_l_alike (g_l_alike n))
end SW
namespace SW
open PySem L2

/-! Plain runs: Wp m Q says that m ends, with what Q asks. -/
def Wp {α : Type} (m : Option (α × Sto)) (Q : α → Sto → Prop) : Prop := ∃ a S, m = some (a, S) ∧ Q a S
theorem Wp.mono {α : Type} {m : Option (α × Sto)} {Q Q' : α → Sto → Prop} (h : Wp m Q) (k : ∀ a S, Q a S → Q' a S) : Wp m Q' := let ⟨a, S, e, q⟩ := h; ⟨a, S, e, k a S q⟩
theorem Wp.of {α : Type} {m : Option (α × Sto)} {a : α} {S : Sto} {Q : α → Sto → Prop} (e : m = some (a, S)) (q : Q a S) : Wp m Q := ⟨a, S, e, q⟩
theorem wp_some {α : Type} {a : α} {S : Sto} {Q : α → Sto → Prop} : Wp (some (a, S)) Q ↔ Q a S :=
  ⟨fun ⟨_, _, e, q⟩ => by cases e; exact q, fun q => ⟨_, _, rfl, q⟩⟩
theorem wp_none {α : Type} {Q : α → Sto → Prop} : Wp (none : Option (α × Sto)) Q ↔ False := ⟨fun ⟨_, _, e, _⟩ => (nomatch e), False.elim⟩
theorem wp_bind {α β : Type} {m : Option (α × Sto)} {f : α × Sto → Option (β × Sto)} {Q : β → Sto → Prop} : Wp (m.bind f) Q ↔ Wp m fun a S => Wp (f (a, S)) Q := by
  constructor
  · rintro ⟨b, S, e, q⟩
    obtain ⟨⟨a, S1⟩, e1, e2⟩ := bindE e
    exact ⟨a, S1, e1, b, S, e2, q⟩
  · rintro ⟨a, S1, e1, b, S, e2, q⟩
    exact ⟨b, S, by rw [e1]; exact e2, q⟩
theorem wp_map {α β : Type} {m : Option (α × Sto)} {f : α × Sto → β × Sto} {Q : β → Sto → Prop} : Wp (m.map f) Q ↔ Wp m fun a S => Q (f (a, S)).1 (f (a, S)).2 := by
  constructor
  · rintro ⟨b, S, e, q⟩
    obtain ⟨⟨a, S1⟩, e1, e2⟩ := Option.map_eq_some_iff.mp e
    refine ⟨a, S1, e1, ?_⟩
    show Q (f (a, S1)).1 (f (a, S1)).2
    rw [e2]; exact q
  · rintro ⟨a, S1, e1, q⟩
    exact ⟨_, _, by rw [e1]; rfl, q⟩
theorem wp_ite {α : Type} {c : Prop} [Decidable c] {m n : Option (α × Sto)} {Q : α → Sto → Prop} : Wp (if c then m else n) Q ↔ if c then Wp m Q else Wp n Q := by
  by_cases h : c
  · rw [if_pos h, if_pos h]
  · rw [if_neg h, if_neg h]
section
variable {τ : Tau} {S : Sto}
theorem wp_cE {d : D} {Q} : Wp (cE d τ S) Q ↔ Q d S := wp_some
theorem wp_vE {i : Nat} {Q} : Wp (vE i τ S) Q ↔ ∃ d, τ[i]? = some (some d) ∧ Q d S := by
  unfold vE
  constructor
  · rintro ⟨a, S1, e, q⟩
    obtain ⟨d, e1, e2⟩ := Option.map_eq_some_iff.mp e
    cases e2
    cases h : τ[i]? with
    | none => rw [h] at e1; cases e1
    | some o => rw [h] at e1; cases o <;> cases e1; exact ⟨_, rfl, q⟩
  · rintro ⟨d, e, q⟩
    exact ⟨d, S, by rw [e]; rfl, q⟩
theorem wp_b2E {g : D → D → Sto → Option (D × Sto)} {fa fb : EvE} {Q} : Wp (b2E g fa fb τ S) Q ↔ Wp (fa τ S) fun x S1 => Wp (fb τ S1) fun y S2 => Wp (g x y S2) Q := by
  unfold b2E; rw [wp_bind]; simp only [wp_bind]
theorem wp_u1E {g : D → Sto → Option (D × Sto)} {fa : EvE} {Q} : Wp (u1E g fa τ S) Q ↔ Wp (fa τ S) fun x S1 => Wp (g x S1) Q := by unfold u1E; rw [wp_bind]
theorem wp_aE {g : List D → Sto → Option (D × Sto)} {fa : EvA} {Q} : Wp (aE g fa τ S) Q ↔ Wp (fa τ S) fun x S1 => Wp (g x S1) Q := by unfold aE; rw [wp_bind]
theorem wp_nilA {Q} : Wp (nilA τ S) Q ↔ Q [] S := wp_some
theorem wp_consA {fa : EvE} {fr : EvA} {Q} : Wp (consA fa fr τ S) Q ↔ Wp (fa τ S) fun x S1 => Wp (fr τ S1) fun y S2 => Q (x :: y) S2 := by
  unfold consA; rw [wp_bind]; simp only [wp_bind, wp_some]
theorem wp_tB {f : EvE} {Q} : Wp (tB f τ S) Q ↔ Wp (f τ S) fun d S1 => ∃ b, d = .bl b ∧ Q b S1 := by
  unfold tB; rw [wp_bind]
  constructor
  · rintro ⟨d, S1, e, q⟩
    refine ⟨d, S1, e, ?_⟩
    cases d with
    | bl b => exact ⟨b, rfl, wp_some.mp q⟩
    | _ => exact (wp_none.mp q).elim
  · rintro ⟨d, S1, e, b, rfl, q⟩
    exact ⟨_, S1, e, wp_some.mpr q⟩
theorem wp_notT {f : EvT} {Q} : Wp (notT f τ S) Q ↔ Wp (f τ S) fun b S1 => Q (!b) S1 := by unfold notT; rw [wp_map]
theorem wp_andT {f g : EvT} {Q} : Wp (andT f g τ S) Q ↔ Wp (f τ S) fun b S1 => if b = true then Wp (g τ S1) Q else Q false S1 := by
  unfold andT; rw [wp_bind]; simp only [wp_ite, wp_some]
theorem wp_orT {f g : EvT} {Q} : Wp (orT' f g τ S) Q ↔ Wp (f τ S) fun b S1 => if b = true then Q true S1 else Wp (g τ S1) Q := by
  unfold orT'; rw [wp_bind]; simp only [wp_ite, wp_some]
theorem wp_iteE {c : EvT} {f g : EvE} {Q} : Wp (iteE c f g τ S) Q ↔ Wp (c τ S) fun b S1 => if b = true then Wp (f τ S1) Q else Wp (g τ S1) Q := by
  unfold iteE; rw [wp_bind]; simp only [wp_ite]
theorem wp_andE {f g : EvE} {Q} : Wp (andE f g τ S) Q ↔ Wp (f τ S) fun d S1 => ∃ b, d = .bl b ∧ if b = true then Wp (g τ S1) Q else Q (.bl false) S1 := by
  unfold andE; rw [wp_bind]
  constructor
  · rintro ⟨d, S1, e, q⟩
    refine ⟨d, S1, e, ?_⟩
    cases d with
    | bl b => exact ⟨b, rfl, by simpa only [wp_ite, wp_some] using q⟩
    | _ => exact (wp_none.mp q).elim
  · rintro ⟨d, S1, e, b, rfl, q⟩
    exact ⟨_, S1, e, by simpa only [wp_ite, wp_some] using q⟩
theorem wp_orE {f g : EvE} {Q} : Wp (orE' f g τ S) Q ↔ Wp (f τ S) fun d S1 => ∃ b, d = .bl b ∧ if b = true then Q (.bl true) S1 else Wp (g τ S1) Q := by
  unfold orE'; rw [wp_bind]
  constructor
  · rintro ⟨d, S1, e, q⟩
    refine ⟨d, S1, e, ?_⟩
    cases d with
    | bl b => exact ⟨b, rfl, by simpa only [wp_ite, wp_some] using q⟩
    | _ => exact (wp_none.mp q).elim
  · rintro ⟨d, S1, e, b, rfl, q⟩
    exact ⟨_, S1, e, by simpa only [wp_ite, wp_some] using q⟩
theorem wp_notE {f : EvE} {Q} : Wp (notE f τ S) Q ↔ Wp (f τ S) fun d S1 => ∃ b, d = .bl b ∧ Q (.bl (!b)) S1 := by
  unfold notE; rw [wp_bind]
  constructor
  · rintro ⟨d, S1, e, q⟩
    refine ⟨d, S1, e, ?_⟩
    cases d with
    | bl b => exact ⟨b, rfl, wp_some.mp q⟩
    | _ => exact (wp_none.mp q).elim
  · rintro ⟨d, S1, e, b, rfl, q⟩
    exact ⟨_, S1, e, wp_some.mpr q⟩
theorem wp_chE {g g' : D → D → Sto → Option (D × Sto)} {fa fb fc : EvE} {Q} : Wp (chE g g' fa fb fc τ S) Q ↔ Wp (fa τ S) fun x S1 => Wp (fb τ S1) fun y S2 => Wp (g x y S2) fun d S3 => ∃ b, d = .bl b ∧ if b = true then Wp (fc τ S3) fun z S4 => Wp (g' y z S4) Q else Q (.bl false) S3 := by
  unfold chE; rw [wp_bind]; simp only [wp_bind]
  constructor
  · rintro ⟨x, S1, e1, y, S2, e2, d, S3, e3, q⟩
    refine ⟨x, S1, e1, y, S2, e2, d, S3, e3, ?_⟩
    cases d with
    | bl b => exact ⟨b, rfl, by simpa only [wp_ite, wp_some, wp_bind] using q⟩
    | _ => exact (wp_none.mp q).elim
  · rintro ⟨x, S1, e1, y, S2, e2, d, S3, e3, b, rfl, q⟩
    exact ⟨x, S1, e1, y, S2, e2, _, S3, e3, by simpa only [wp_ite, wp_some, wp_bind] using q⟩
theorem wp_yesT {Q} : Wp (yesT τ S) Q ↔ Q true S := wp_some
theorem wp_noO {Q} : Wp (noO τ S) Q ↔ Q none S := wp_some
theorem wp_someO {f : EvE} {Q} : Wp (someO f τ S) Q ↔ Wp (f τ S) fun d S1 => ∃ i, d = .int i ∧ Q (some i) S1 := by
  unfold someO; rw [wp_bind]
  constructor
  · rintro ⟨d, S1, e, q⟩
    refine ⟨d, S1, e, ?_⟩
    cases d with
    | int b => exact ⟨b, rfl, wp_some.mp q⟩
    | _ => exact (wp_none.mp q).elim
  · rintro ⟨d, S1, e, b, rfl, q⟩
    exact ⟨_, S1, e, wp_some.mpr q⟩
theorem wp_slE {f : EvE} {a b : EvO} {Q} : Wp (slE f a b τ S) Q ↔ Wp (f τ S) fun x S1 => Wp (a τ S1) fun l S2 => Wp (b τ S2) fun h S3 => Wp (slD x l h S3) Q := by
  unfold slE; rw [wp_bind]; simp only [wp_bind]
theorem wp_nK {Q} : Wp (nK τ S) Q ↔ Q (.loc S.length) (S ++ [.dK []]) := wp_some
theorem wp_nT {Q} : Wp (nT τ S) Q ↔ Q (.loc S.length) (S ++ [.dT []]) := wp_some
theorem wp_mE {g : D → List D → Sto → Option (D × Sto)} {fo : EvE} {fa : EvA} {Q} : Wp (mE g fo fa τ S) Q ↔ Wp (fo τ S) fun o S1 => isLst o S1 = true ∧ Wp (fa τ S1) fun as S2 => Wp (g o as S2) Q := by
  unfold mE; rw [wp_bind]
  simp only [wp_ite, wp_bind, wp_none]
  constructor
  · rintro ⟨o, S1, e, q⟩
    refine ⟨o, S1, e, ?_⟩
    split at q
    · rename_i h; exact ⟨h, q⟩
    · exact q.elim
  · rintro ⟨o, S1, e, h, q⟩
    refine ⟨o, S1, e, ?_⟩
    show if isLst o S1 = true then _ else _
    rw [if_pos h]; exact q
/-! statements -/
theorem wp_nxS {Q} : Wp (nxS τ S) Q ↔ Q (.nx τ) S := wp_some
theorem wp_brS {Q} : Wp (brS τ S) Q ↔ Q (.bk τ) S := wp_some
theorem wp_ctS {Q} : Wp (ctS τ S) Q ↔ Q (.ct τ) S := wp_some
theorem wp_retN {Q} : Wp (retN τ S) Q ↔ Q (.rt .non) S := wp_some
/-- what comes behind a statement that goes on -/
def cont (g : EvS) (Q : Out → Sto → Prop) : Out → Sto → Prop := fun o S1 => match o with | .nx τ' => Wp (g τ' S1) Q | o => Q o S1
theorem cont_nx {g : EvS} {Q} : cont g Q (.nx τ) S = Wp (g τ S) Q := rfl
theorem cont_rt {g : EvS} {Q} {d : D} : cont g Q (.rt d) S = Q (.rt d) S := rfl
theorem cont_bk {g : EvS} {Q} : cont g Q (.bk τ) S = Q (.bk τ) S := rfl
theorem cont_ct {g : EvS} {Q} : cont g Q (.ct τ) S = Q (.ct τ) S := rfl
theorem cont_ex {g : EvS} {Q} {c : String} {fs : List (Str × D)} : cont g Q (.ex c fs τ) S = Q (.ex c fs τ) S := rfl
theorem wp_seqS {f g : EvS} {Q} : Wp (seqS f g τ S) Q ↔ Wp (f τ S) (cont g Q) := by
  unfold seqS; rw [wp_bind]
  constructor
  · rintro ⟨o, S1, e, q⟩
    refine ⟨o, S1, e, ?_⟩
    cases o with
    | nx τ' => exact q
    | rt d => exact (wp_some (Q := Q)).mp q
    | bk d => exact (wp_some (Q := Q)).mp q
    | ct d => exact (wp_some (Q := Q)).mp q
    | ex c fs d => exact (wp_some (Q := Q)).mp q
  · rintro ⟨o, S1, e, q⟩
    refine ⟨o, S1, e, ?_⟩
    cases o with
    | nx τ' => exact q
    | rt d => exact wp_some.mpr q
    | bk d => exact wp_some.mpr q
    | ct d => exact wp_some.mpr q
    | ex c fs d => exact wp_some.mpr q
theorem wp_exS {f : EvE} {Q} : Wp (exS f τ S) Q ↔ Wp (f τ S) fun _ S1 => Q (.nx τ) S1 := by unfold exS; rw [wp_map]
theorem wp_rtS {f : EvE} {Q} : Wp (rtS f τ S) Q ↔ Wp (f τ S) fun d S1 => Q (.rt d) S1 := by unfold rtS; rw [wp_map]
theorem wp_ifS {c : EvT} {f g : EvS} {Q} : Wp (ifS c f g τ S) Q ↔ Wp (c τ S) fun b S1 => if b = true then Wp (f τ S1) Q else Wp (g τ S1) Q := by
  unfold ifS; rw [wp_bind]; simp only [wp_ite]
theorem wp_stS {i : Nat} {f : EvE} {Q} : Wp (stS i f τ S) Q ↔ Wp (f τ S) fun d S1 => Q (.nx (τ.set i (some d))) S1 := by
  unfold stS asS; rw [wp_bind]
  simp only [patG, Pat.bind, Option.map_some, wp_some]
theorem wp_parS {i j : Nat} {f : EvA} {Q} : Wp (parS i j f τ S) Q ↔ Wp (f τ S) fun ds S1 => ∃ v w, ds = [v, w] ∧ Q (.nx ((τ.set i (some v)).set j (some w))) S1 := by
  unfold parS; rw [wp_bind]
  constructor
  · rintro ⟨ds, S1, e, q⟩
    refine ⟨ds, S1, e, ?_⟩
    rcases ds with _ | ⟨v, _ | ⟨w, _ | ⟨x, r⟩⟩⟩
    · exact (wp_none.mp q).elim
    · exact (wp_none.mp q).elim
    · exact ⟨v, w, rfl, wp_some.mp q⟩
    · exact (wp_none.mp q).elim
  · rintro ⟨ds, S1, e, v, w, rfl, q⟩
    exact ⟨_, S1, e, wp_some.mpr q⟩
/-- a target takes a value -/
theorem wp_asS {f : EvE} {g : EvG} {Q} : Wp (asS f g τ S) Q ↔ Wp (f τ S) fun d S1 => Wp (g d τ S1) fun τ2 S2 => Q (.nx τ2) S2 := by
  unfold asS; rw [wp_bind]; simp only [wp_map]
theorem wp_augS {i : Nat} {g : D → D → Sto → Option (D × Sto)} {f : EvE} {Q} : Wp (augS i g f τ S) Q ↔ ∃ x, τ[i]? = some (some x) ∧ Wp (f τ S) fun y S1 => Wp (g x y S1) fun z S2 => Q (.nx (τ.set i (some z))) S2 := by
  unfold augS
  constructor
  · rintro ⟨o, S1, e, q⟩
    obtain ⟨x, e0, e⟩ := bindE e
    refine ⟨x, ?_, ?_⟩
    · cases h : τ[i]? with
      | none => rw [h] at e0; cases e0
      | some o => rw [h] at e0; cases o <;> cases e0; rfl
    · have : Wp ((f τ S).bind fun p => (g x p.1 p.2).map fun q => (.nx (τ.set i (some q.1)), q.2)) Q := ⟨o, S1, e, q⟩
      rw [wp_bind] at this
      simpa only [wp_map] using this
  · rintro ⟨x, e0, h⟩
    have : Wp ((f τ S).bind fun p => (g x p.1 p.2).map fun q => (.nx (τ.set i (some q.1)), q.2)) Q := by
      rw [wp_bind]; simpa only [wp_map] using h
    obtain ⟨o, S1, e, q⟩ := this
    exact ⟨o, S1, by rw [e0]; exact e, q⟩
theorem wp_patG {p : Pat} {d : D} {Q} : Wp (patG p d τ S) Q ↔ ∃ τ', p.bind d τ = some τ' ∧ Q τ' S := by
  unfold patG
  constructor
  · rintro ⟨τ', S1, e, q⟩
    obtain ⟨t, e1, e2⟩ := Option.map_eq_some_iff.mp e
    cases e2
    exact ⟨_, e1, q⟩
  · rintro ⟨τ', e, q⟩
    exact ⟨τ', S, by rw [e]; rfl, q⟩
theorem wp_tupG {gs : EvGs} {d : D} {Q} : Wp (tupG gs d τ S) Q ↔ ∃ ds, d = .tup ds ∧ Wp (gs ds τ S) Q := by
  constructor
  · intro h
    cases d with
    | tup ds => exact ⟨ds, rfl, h⟩
    | _ => exact (wp_none.mp h).elim
  · rintro ⟨ds, rfl, h⟩
    exact h
theorem wp_nilG {Q} : Wp (nilG [] τ S) Q ↔ Q τ S := wp_some
theorem wp_consG {g : EvG} {gs : EvGs} {d : D} {ds : List D} {Q} : Wp (consG g gs (d :: ds) τ S) Q ↔ Wp (g d τ S) fun τ1 S1 => Wp (gs ds τ1 S1) Q := by
  show Wp ((g d τ S).bind _) Q ↔ _
  rw [wp_bind]
theorem wp_subG {fo fi : EvE} {d : D} {Q} : Wp (subG fo fi d τ S) Q ↔ Wp (fo τ S) fun o S1 => Wp (fi τ S1) fun i S2 => ∃ S3, stD o i d S2 = some S3 ∧ Q τ S3 := by
  unfold subG; rw [wp_bind]; simp only [wp_bind]
  constructor
  · rintro ⟨o, S1, e1, i, S2, e2, τ', S3, e3, q⟩
    obtain ⟨t, e4, e5⟩ := Option.map_eq_some_iff.mp e3
    cases e5
    exact ⟨o, S1, e1, i, S2, e2, _, e4, q⟩
  · rintro ⟨o, S1, e1, i, S2, e2, S3, e3, q⟩
    exact ⟨o, S1, e1, i, S2, e2, τ, S3, by show (stD o i d S2).map _ = _; rw [e3]; rfl, q⟩
theorem wp_fnD {n m : Nat} {b : EvS} {ds : List D} {Q : D → Sto → Prop} (h : ds.length = n) : Wp (fnD n m b ds S) Q ↔ Wp (b (ds.map some ++ List.replicate (m - n) none) S) fun o S1 => match o with
    | .rt d => Q d S1
    | .nx _ => Q .non S1
    | _ => False := by
  unfold fnD
  rw [if_pos h, wp_bind]
  constructor
  · rintro ⟨o, S1, e, q⟩
    refine ⟨o, S1, e, ?_⟩
    cases o with
    | rt d => exact wp_some.mp q
    | nx d => exact wp_some.mp q
    | bk d => exact (wp_none.mp q).elim
    | ct d => exact (wp_none.mp q).elim
    | ex c fs d => exact (wp_none.mp q).elim
  · rintro ⟨o, S1, e, q⟩
    refine ⟨o, S1, e, ?_⟩
    cases o with
    | rt d => exact wp_some.mpr q
    | nx d => exact wp_some.mpr q
    | bk d => exact q.elim
    | ct d => exact q.elim
    | ex c fs d => exact q.elim
/-! values by operators -/
theorem wp_add {i j : Int} {Q} : Wp (addD (.int i) (.int j) S) Q ↔ Q (.int (i + j)) S := wp_some
theorem wp_addI {i j : Int} {Q} : Wp (addI (.int i) (.int j) S) Q ↔ Q (.int (i + j)) S := wp_some
theorem wp_sub {i j : Int} {Q} : Wp (subD (.int i) (.int j) S) Q ↔ Q (.int (i - j)) S := wp_some
theorem wp_lt {i j : Int} {Q} : Wp (ltD (.int i) (.int j) S) Q ↔ Q (.bl (decide (i < j))) S := wp_some
theorem wp_le {i j : Int} {Q} : Wp (leD (.int i) (.int j) S) Q ↔ Q (.bl (decide (i ≤ j))) S := wp_some
theorem wp_gt {i j : Int} {Q} : Wp (gtD (.int i) (.int j) S) Q ↔ Q (.bl (decide (j < i))) S := wp_some
theorem wp_ge {i j : Int} {Q} : Wp (geD (.int i) (.int j) S) Q ↔ Q (.bl (decide (j ≤ i))) S := wp_some
theorem wp_neg {i : Int} {Q} : Wp (negD (.int i) S) Q ↔ Q (.int (-i)) S := wp_some
theorem wp_abs {i : Int} {Q} : Wp (absD [.int i] S) Q ↔ Q (.int (if i < 0 then -i else i)) S := wp_some
theorem wp_max2 {i j : Int} {Q} : Wp (max2D [.int i, .int j] S) Q ↔ Q (.int (if j > i then j else i)) S := wp_some
theorem wp_min2 {i j : Int} {Q} : Wp (min2D [.int i, .int j] S) Q ↔ Q (.int (if j < i then j else i)) S := wp_some
theorem wp_intb {b : Bool} {Q} : Wp (intD [.bl b] S) Q ↔ Q (.int (if b then 1 else 0)) S := wp_some
theorem wp_is_non {d : D} {Q} : Wp (isD d .non S) Q ↔ Q (.bl (isNonD d)) S := by cases d <;> exact wp_some
theorem wp_isnot_non {d : D} {Q} : Wp (isNotD d .non S) Q ↔ Q (.bl (!isNonD d)) S := by cases d <;> exact wp_some
theorem atI_of {α : Type} {ds : List α} {i : Nat} {d : α} (h : ds[i]? = some d) : atI ds (i : Int) = some d := L2.atI_nat h
theorem stD_lst {n : Nat} {ds : List D} {i : Nat} {v : D} (h : S[n]? = some (.lst ds)) (hi : i < ds.length) : stD (.loc n) (.int (i : Int)) v S = some (S.set n (.lst (ds.set i v))) := by
  have : ixN ds.length (i : Int) = some i := by
    unfold ixN
    rw [if_pos (by omega), if_pos (by omega)]
    simp
  simp only [stD, h, Option.bind_some, this, Option.map_some]
theorem len_loc {n : Nat} {ds : List D} {Q : D → Sto → Prop} (h : S[n]? = some (.lst ds)) : Wp (lenD [.loc n] S) Q ↔ Q (.int ds.length) S := by
  simp only [lenD, h]; exact wp_some
theorem len_tup {ds : List D} {Q : D → Sto → Prop} : Wp (lenD [.tup ds] S) Q ↔ Q (.int ds.length) S := wp_some
theorem len_fl {ds : List D} {Q : D → Sto → Prop} : Wp (lenD [.fl ds] S) Q ↔ Q (.int ds.length) S := wp_some
end
/-! the store -/
theorem sto_new {S : Sto} {o : MO} : (S ++ [o])[S.length]? = some o := by simp
theorem sto_old {S : Sto} {o p : MO} {n : Nat} (h : S[n]? = some p) : (S ++ [o])[n]? = some p := by
  rw [List.getElem?_append_left (List.getElem?_eq_some_iff.mp h).1]; exact h
theorem sto_lt {S : Sto} {p : MO} {n : Nat} (h : S[n]? = some p) : n < S.length := (List.getElem?_eq_some_iff.mp h).1
theorem sto_set {S : Sto} {o p : MO} {n : Nat} (h : S[n]? = some p) : (S.set n o)[n]? = some o := List.getElem?_set_self (sto_lt h)
theorem sto_ne {S : Sto} {o : MO} {n m : Nat} (h : n ≠ m) : (S.set n o)[m]? = S[m]? := List.getElem?_set_ne h
/-! the same as equivalences, for simp -/
section
variable {S : Sto}
theorem wq_mod {i j : Int} {Q : D → Sto → Prop} : Wp (modD (.int i) (.int j) S) Q ↔ 0 < j ∧ Q (.int (i % j)) S := by
  simp only [modD, wp_ite, wp_some, wp_none]
  by_cases h : 0 < j
  · simp [h]
  · simp [h]
theorem wq_fdiv {i j : Int} {Q : D → Sto → Prop} : Wp (fdivD (.int i) (.int j) S) Q ↔ (0 < j ∧ j < 1073741824) ∧ Q (.int (i / j)) S := by
  simp only [fdivD, wp_ite, wp_some, wp_none]
  by_cases h : 0 < j ∧ j < 1073741824
  · simp [h]
  · simp only [h, if_false, false_and]
theorem wq_mul {i j : Int} {Q : D → Sto → Prop} : Wp (mulD (.int i) (.int j) S) Q ↔ ((-(2 ^ 64) < i ∧ i < 2 ^ 64) ∨ (-(2 ^ 64) < j ∧ j < 2 ^ 64)) ∧ Q (.int (i * j)) S := by
  simp only [mulD, wp_ite, wp_some, wp_none, small64, Bool.or_eq_true, Bool.and_eq_true, decide_eq_true_eq]
  by_cases h : ((-(2 ^ 64) < i ∧ i < 2 ^ 64) ∨ (-(2 ^ 64) < j ∧ j < 2 ^ 64))
  · simp only [h, if_true, true_and]
  · simp only [h, if_false, false_and]
theorem wq_pow {i j : Int} {Q : D → Sto → Prop} : Wp (powD (.int i) (.int j) S) Q ↔ (0 ≤ j ∧ j ≤ 1000000 ∧ i.natAbs < 2 ^ 64) ∧ Q (.int (i ^ j.toNat)) S := by
  simp only [powD, wp_ite, wp_some, wp_none]
  by_cases h : (0 ≤ j ∧ j ≤ 1000000 ∧ i.natAbs < 2 ^ 64)
  · simp only [h, if_true, true_and, and_self]
  · simp only [h, if_false, false_and]
theorem wq_divmod {i j : Int} {Q : D → Sto → Prop} : Wp (divmodD [.int i, .int j] S) Q ↔ (0 < j ∧ j < 1073741824) ∧ Q (.tup [.int (i / j), .int (i % j)]) S := by
  simp only [divmodD, wp_ite, wp_some, wp_none]
  by_cases h : 0 < j ∧ j < 1073741824
  · simp [h]
  · simp only [h, if_false, false_and]
theorem wq_tup {ds : List D} {Q : D → Sto → Prop} : Wp (tupD ds S) Q ↔ ds.length ≤ 10000000 ∧ Q (.tup ds) S := by
  simp only [tupD, wp_ite, wp_some, wp_none]
  by_cases h : ds.length ≤ 10000000
  · simp [h]
  · simp only [h, if_false, false_and]
theorem wq_lst {ds : List D} {Q : D → Sto → Prop} : Wp (lstD ds S) Q ↔ ds.length ≤ 10000000 ∧ Q (.loc S.length) (S ++ [.lst ds]) := by
  simp only [lstD, wp_ite, wp_some, wp_none]
  by_cases h : ds.length ≤ 10000000
  · simp [h]
  · simp only [h, if_false, false_and]
theorem wq_map {α β : Type} {m : Option α} {f : α → β × Sto} {Q : β → Sto → Prop} : Wp (m.map f) Q ↔ ∃ a, m = some a ∧ Q (f a).1 (f a).2 := by
  constructor
  · rintro ⟨b, S1, e, q⟩
    obtain ⟨a, e1, e2⟩ := Option.map_eq_some_iff.mp e
    exact ⟨a, e1, by rw [e2]; exact q⟩
  · rintro ⟨a, e, q⟩
    exact ⟨_, _, by rw [e]; rfl, q⟩
theorem wq_sbT {ds : List D} {i : Int} {Q : D → Sto → Prop} : Wp (sbD (.tup ds) (.int i) S) Q ↔ ∃ d, atI ds i = some d ∧ Q d S := by
  have e : sbD (.tup ds) (.int i) S = (atI ds i).map fun d => (d, S) := by
    show (ixD (.tup ds) (.int i) S).orElse _ = _
    simp only [ixD]
    cases atI ds i <;> rfl
  rw [e, wq_map]
theorem wq_sbF {ds : List D} {i : Int} {Q : D → Sto → Prop} : Wp (sbD (.fl ds) (.int i) S) Q ↔ ∃ d, atI ds i = some d ∧ Q d S := by
  have e : sbD (.fl ds) (.int i) S = (atI ds i).map fun d => (d, S) := by
    show (ixD (.fl ds) (.int i) S).orElse _ = _
    simp only [ixD]
    cases atI ds i <;> rfl
  rw [e, wq_map]
theorem wq_sbL {n : Nat} {ds : List D} {i : Int} {Q : D → Sto → Prop} (h : S[n]? = some (.lst ds)) : Wp (sbD (.loc n) (.int i) S) Q ↔ ∃ d, atI ds i = some d ∧ Q d S := by
  have e : sbD (.loc n) (.int i) S = (atI ds i).map fun d => (d, S) := by
    show (ixD (.loc n) (.int i) S).orElse _ = _
    simp only [ixD, h]
    cases atI ds i with
    | some d => rfl
    | none => simp [dgD, gnD, nHas, h, nAt, Option.orElse]
  rw [e, wq_map]
theorem wq_rep {n : Nat} {ds : List D} {k : Nat} {Q : D → Sto → Prop} (h : S[n]? = some (.lst ds)) (hk : k < 1000000) (hl : ds.length * k ≤ 10000000) : Wp (mulD (.loc n) (.int (k : Int)) S) Q ↔ Q (.loc S.length) (S ++ [.lst (List.replicate k ds).flatten]) := by
  simp only [mulD, h, Int.toNat_natCast]
  rw [if_pos ⟨by omega, by omega, hl⟩]
  exact wp_some
theorem wq_rep1 {n : Nat} {d : D} {k : Nat} {Q : D → Sto → Prop} (h : S[n]? = some (.lst [d])) (hk : k < 1000000) : Wp (mulD (.loc n) (.int (k : Int)) S) Q ↔ Q (.loc S.length) (S ++ [.lst (List.replicate k d)]) := by
  rw [wq_rep h hk (by simp; omega)]
  have e : ∀ k : Nat, (List.replicate k [d]).flatten = List.replicate k d := by
    intro k
    induction k with
    | zero => rfl
    | succ k ih => simp only [List.replicate_succ, List.flatten_cons, ih]; rfl
  rw [e]
theorem wq_catL {m n : Nat} {as bs : List D} {Q : D → Sto → Prop} (h : S[m]? = some (.lst as)) (h2 : S[n]? = some (.lst bs)) : Wp (addD (.loc m) (.loc n) S) Q ↔ as.length + bs.length ≤ 10000000 ∧ Q (.loc S.length) (S ++ [.lst (as ++ bs)]) := by
  simp only [addD, h, h2, wp_ite, newD, wp_some, wp_none]
  by_cases hl : as.length + bs.length ≤ 10000000
  · simp [hl]
  · simp only [hl, if_false, false_and]
theorem wq_catT {as bs : List D} {Q : D → Sto → Prop} : Wp (addD (.tup as) (.tup bs) S) Q ↔ as.length + bs.length ≤ 10000000 ∧ Q (.tup (as ++ bs)) S := by
  simp only [addD, wp_ite, wp_some, wp_none]
  by_cases hl : as.length + bs.length ≤ 10000000
  · simp [hl]
  · simp only [hl, if_false, false_and]
theorem wq_listL {n : Nat} {ds : List D} {Q : D → Sto → Prop} (h : S[n]? = some (.lst ds)) : Wp (listD [.loc n] S) Q ↔ Q (.loc S.length) (S ++ [.lst ds]) := by
  simp only [listD, itemsOf, h]; exact wp_some
theorem wq_listT {ds : List D} {Q : D → Sto → Prop} : Wp (listD [.tup ds] S) Q ↔ Q (.loc S.length) (S ++ [.lst ds]) := wp_some
theorem wq_tupleL {n : Nat} {ds : List D} {Q : D → Sto → Prop} (h : S[n]? = some (.lst ds)) : Wp (tupleD [.loc n] S) Q ↔ Q (.tup ds) S := by
  simp only [tupleD, itemsOf, h]; exact wp_some
theorem wq_tupleT {ds : List D} {Q : D → Sto → Prop} : Wp (tupleD [.tup ds] S) Q ↔ Q (.tup ds) S := wp_some
theorem wq_slT {ds : List D} {lo hi : Option Int} {Q : D → Sto → Prop} : Wp (slD (.tup ds) lo hi S) Q ↔ Q (.tup (cutD ds lo hi)) S := wp_some
theorem wq_slF {ds : List D} {lo hi : Option Int} {Q : D → Sto → Prop} : Wp (slD (.fl ds) lo hi S) Q ↔ Q (.loc S.length) (S ++ [.lst (cutD ds lo hi)]) := wp_some
theorem wq_slL {n : Nat} {ds : List D} {lo hi : Option Int} {Q : D → Sto → Prop} (h : S[n]? = some (.lst ds)) : Wp (slD (.loc n) lo hi S) Q ↔ Q (.loc S.length) (S ++ [.lst (cutD ds lo hi)]) := by
  simp only [slD, h]; exact wp_some
theorem wq_append {n : Nat} {ds : List D} {y : D} {Q : D → Sto → Prop} (h : S[n]? = some (.lst ds)) : Wp (appendM (.loc n) [y] S) Q ↔ ds.length ≤ 10000000 ∧ Q .non (S.set n (.lst (ds ++ [y]))) := by
  simp only [appendM, lstAt, h, Option.bind_some, wp_ite, wp_some, wp_none]
  by_cases hl : ds.length ≤ 10000000
  · simp [hl]
  · simp only [hl, if_false, false_and]
theorem wq_insert {n : Nat} {ds : List D} {i : Nat} {y : D} {Q : D → Sto → Prop} (h : S[n]? = some (.lst ds)) (hi : i < 1000000) : Wp (insertM (.loc n) [.int (i : Int), y] S) Q ↔ ds.length ≤ 10000000 ∧ Q .non (S.set n (.lst (ds.take i ++ [y] ++ ds.drop i))) := by
  simp only [insertM, lstAt, h, Option.bind_some, wp_ite, wp_some, wp_none, Int.toNat_natCast]
  by_cases hl : ds.length ≤ 10000000
  · rw [if_pos ⟨hl, by omega, by omega⟩]; simp [hl]
  · rw [if_neg (fun z => hl z.1)]; simp only [hl, false_and]
theorem isLst_loc {n : Nat} {ds : List D} (h : S[n]? = some (.lst ds)) : isLst (.loc n) S = true := by
  simp only [isLst, lenAt, h]; rfl
theorem lsN_of {n : Nat} {ds : List D} (h : S[n]? = some (.lst ds)) : lsN (.loc n) ds.length S = some ds := by
  simp only [lsN, lsOf, h, Option.bind_some, if_true]
theorem at3_0 (a b c : D) : atI [a, b, c] 0 = some a := rfl
theorem at3_1 (a b c : D) : atI [a, b, c] 1 = some b := rfl
theorem at3_2 (a b c : D) : atI [a, b, c] 2 = some c := rfl
theorem sto_app {n : Nat} {o : MO} (h : n < S.length) : (S ++ [o])[n]? = S[n]? := List.getElem?_append_left h
theorem stD_L {n : Nat} {ds : List D} {i : Int} {v : D} (h : S[n]? = some (.lst ds)) : stD (.loc n) (.int i) v S = (ixN ds.length i).map fun j => S.set n (.lst (ds.set j v)) := by
  simp only [stD, h, Option.bind_some]
end
theorem rep_none_s {n : Nat} : List.replicate (n + 1) (none : Option D) = none :: List.replicate n none := rfl
theorem rep_none_z : List.replicate 0 (none : Option D) = [] := rfl
theorem pb_nm {i : Nat} {d : D} {τ : Tau} : Pat.bind (.nm i) d τ = some (τ.set i (some d)) := by simp only [Pat.bind]
theorem pb_tp {ps : List Pat} {ds : List D} {τ : Tau} : Pat.bind (.tp ps) (.tup ds) τ = Pat.binds ps ds τ := by simp only [Pat.bind]
theorem pb_nil {τ : Tau} : Pat.binds [] [] τ = some τ := by simp only [Pat.binds]
theorem pb_cons {p : Pat} {ps : List Pat} {d : D} {ds : List D} {τ : Tau} : Pat.binds (p :: ps) (d :: ds) τ = (Pat.bind p d τ).bind (Pat.binds ps ds) := by simp only [Pat.binds]
/-! loops -/
def LoopQ (I : Tau → Sto → Prop) (Q : Out → Sto → Prop) : Out → Sto → Prop := fun o S => match o with
  | .nx τ => I τ S
  | .ct τ => I τ S
  | .bk τ => Q (.nx τ) S
  | .rt d => Q (.rt d) S
  | .ex c fs τ => Q (.ex c fs τ) S
theorem lq_nx {I : Tau → Sto → Prop} {Q} {τ : Tau} {S : Sto} : LoopQ I Q (.nx τ) S = I τ S := rfl
theorem lq_ct {I : Tau → Sto → Prop} {Q} {τ : Tau} {S : Sto} : LoopQ I Q (.ct τ) S = I τ S := rfl
theorem lq_bk {I : Tau → Sto → Prop} {Q} {τ : Tau} {S : Sto} : LoopQ I Q (.bk τ) S = Q (.nx τ) S := rfl
theorem lq_ex {I : Tau → Sto → Prop} {Q} {τ : Tau} {S : Sto} {c : String} {fs : List (Str × D)} : LoopQ I Q (.ex c fs τ) S = Q (.ex c fs τ) S := rfl
theorem lq_rt {I : Tau → Sto → Prop} {Q} {d : D} {S : Sto} : LoopQ I Q (.rt d) S = Q (.rt d) S := rfl
theorem wp_lo (s : Src) (ds : List D) (g : D → Tau → Option Tau) (b : EvS) (I : Nat → Tau → Sto → Prop) {Q : Out → Sto → Prop}
    (hg : ∀ i d τ S, ds[i]? = some d → I i τ S → s.get S i = some d) (hf : ∀ τ S, I ds.length τ S → s.fin S = true)
    (hs : ∀ i d τ S, ds[i]? = some d → I i τ S → ∃ τ1, g d τ = some τ1 ∧ Wp (b τ1 S) (LoopQ (I (i + 1)) Q))
    (he : ∀ τ S, I ds.length τ S → Q (.nx τ) S) : ∀ (m i : Nat) (τ : Tau) (S : Sto), i + m = ds.length → I i τ S → Wp (loE s g b m i τ S) Q
  | 0, i, τ, S, h, hI => by
    have hi : i = ds.length := by omega
    subst hi
    simp only [loE]
    rw [if_pos (hf τ S hI)]
    exact wp_some.mpr (he τ S hI)
  | m + 1, i, τ, S, h, hI => by
    have hi : i < ds.length := by omega
    have hd : ds[i]? = some ds[i] := List.getElem?_eq_getElem hi
    obtain ⟨τ1, e1, o, S2, e2, q⟩ := hs i _ τ S hd hI
    have hn := wp_lo s ds g b I hg hf hs he m (i + 1)
    simp only [loE, hg i _ τ S hd hI, Option.bind_some, e1, e2]
    cases o with
    | nx τ2 => exact hn τ2 S2 (by omega) q
    | ct τ2 => exact hn τ2 S2 (by omega) q
    | bk τ2 => exact wp_some.mpr q
    | rt d => exact wp_some.mpr q
    | ex c fs τ2 => exact wp_some.mpr q
theorem wp_while {c : EvT} {b : EvS} {τ : Tau} {S : Sto} {Q : Out → Sto → Prop} (I : Nat → Tau → Sto → Prop) (n : Nat) (hn : n < 1000000) (h0 : I n τ S)
    (hs : ∀ n τ S, I n τ S → Wp (c τ S) fun v S1 => if v = true then Wp (b τ S1) (LoopQ (fun τ S => ∃ m, m < n ∧ I m τ S) Q) else Q (.nx τ) S1) : Wp (whS c b τ S) Q := by
  have all : ∀ (k n : Nat) (τ : Tau) (S : Sto), n < k → I n τ S → Wp (whE c b k τ S) Q := by
    intro k
    induction k with
    | zero => intro n τ S h; omega
    | succ k ih =>
      intro n τ S hk hI
      obtain ⟨v, S1, e, q⟩ := hs n τ S hI
      simp only [whE, e, Option.bind_some]
      cases v with
      | false => exact wp_some.mpr q
      | true =>
        simp only [if_true] at q ⊢
        obtain ⟨o, S2, e2, q⟩ := q
        rw [e2]
        cases o with
        | nx τ2 => obtain ⟨m, hm, q⟩ := q; exact ih m τ2 S2 (by omega) q
        | ct τ2 => obtain ⟨m, hm, q⟩ := q; exact ih m τ2 S2 (by omega) q
        | bk τ2 => exact wp_some.mpr q
        | rt d => exact wp_some.mpr q
        | ex c fs τ2 => exact wp_some.mpr q
  exact all fuel n τ S (by unfold fuel; exact hn) h0
/-! comprehensions -/
theorem wp_lcL (s : Src) (ds : List D) (g : D → Tau → Option Tau) (t : EvT) (f : EvE) (τ : Tau) (I : Nat → List D → Sto → Prop) {Q : List D → Sto → Prop} (hl : ds.length ≤ 1000000)
    (hg : ∀ i d acc S, ds[i]? = some d → I i acc S → s.get S i = some d) (hf : ∀ acc S, I ds.length acc S → s.fin S = true)
    (hs : ∀ i d acc S, ds[i]? = some d → I i acc S → ∃ τ1, g d τ = some τ1 ∧ Wp (t τ1 S) fun v S1 => if v = true then Wp (f τ1 S1) fun y S2 => I (i + 1) (acc ++ [y]) S2 else I (i + 1) acc S1)
    (he : ∀ acc S, I ds.length acc S → Q acc S) : ∀ (m i : Nat) (acc : List D) (S : Sto), i + m = ds.length → acc.length ≤ i → I i acc S → Wp (lcL s g t f τ m i acc S) Q
  | 0, i, acc, S, h, ha, hI => by
    have hi : i = ds.length := by omega
    subst hi
    simp only [lcL]
    rw [if_pos (hf acc S hI)]
    exact wp_some.mpr (he acc S hI)
  | m + 1, i, acc, S, h, ha, hI => by
    have hi : i < ds.length := by omega
    have hd : ds[i]? = some ds[i] := List.getElem?_eq_getElem hi
    obtain ⟨τ1, e1, v, S2, e2, q⟩ := hs i _ acc S hd hI
    have hn := wp_lcL s ds g t f τ I hl hg hf hs he m (i + 1)
    simp only [lcL, hg i _ acc S hd hI, Option.bind_some, e1, e2]
    cases v with
    | false => exact hn acc S2 (by omega) (by omega) q
    | true =>
      simp only [if_true] at q ⊢
      obtain ⟨y, S3, e3, q⟩ := q
      rw [e3]
      simp only [Option.bind_some]
      rw [if_pos (by omega)]
      exact hn _ S3 (by omega) (by simp; omega) q
/-! loops and comprehensions in two steps: the source, then the turns -/
theorem wp_forS {fi : EvI} {p : Pat} {b : EvS} {τ : Tau} {S : Sto} {Q : Out → Sto → Prop} : Wp (forS fi p b τ S) Q ↔ Wp (fi τ S) fun s S1 => Wp (loE s p.bind b s.len 0 τ S1) Q := by unfold forS; rw [wp_bind]
theorem wp_lcS {fi : EvI} {p : Pat} {t : EvT} {f : EvE} {vs : List Nat} {τ : Tau} {S : Sto} {Q : D → Sto → Prop} : Wp (lcE fi p t f vs τ S) Q ↔ Wp (fi τ S) fun s S1 => Wp (lcL s p.bind t f (wipeT τ vs) s.len 0 [] S1) fun acc S2 => Q (.loc S2.length) (S2 ++ [.lst acc]) := by
  unfold lcE; rw [wp_bind]; simp only [wp_map, newD]
theorem wp_sqI {f : EvE} {τ : Tau} {S : Sto} {Q : Src → Sto → Prop} : Wp (sqI f τ S) Q ↔ Wp (f τ S) fun d S1 => ∃ s, srcOf d S1 = some s ∧ Q s S1 := by unfold sqI; rw [wp_bind]; simp only [wq_map]
theorem wp_enI {f : EvE} {τ : Tau} {S : Sto} {Q : Src → Sto → Prop} : Wp (enI f τ S) Q ↔ Wp (f τ S) fun d S1 => ∃ s, srcEnum d S1 = some s ∧ Q s S1 := by unfold enI; rw [wp_bind]; simp only [wq_map]
theorem wp_reI {f : EvE} {τ : Tau} {S : Sto} {Q : Src → Sto → Prop} : Wp (reI f τ S) Q ↔ Wp (f τ S) fun d S1 => ∃ s, srcRev d S1 = some s ∧ Q s S1 := by unfold reI; rw [wp_bind]; simp only [wq_map]
theorem wp_ziI {f g : EvE} {τ : Tau} {S : Sto} {Q : Src → Sto → Prop} : Wp (ziI f g τ S) Q ↔ Wp (f τ S) fun d S1 => Wp (g τ S1) fun e S2 => ∃ s, srcZip d e S2 = some s ∧ Q s S2 := by unfold ziI; rw [wp_bind]; simp only [wp_bind, wq_map]
theorem wp_rgI1 {f : EvE} {τ : Tau} {S : Sto} {Q : Src → Sto → Prop} : Wp (rgI1 f τ S) Q ↔ Wp (f τ S) fun d S1 => ∃ j, d = .int j ∧ big62 j = true ∧ Q (.fixed (rng 0 j.toNat)) S1 := by
  unfold rgI1; rw [wp_bind]
  constructor
  · rintro ⟨d, S1, e, q⟩
    refine ⟨d, S1, e, ?_⟩
    cases d with
    | int j =>
      simp only [wp_ite, wp_some, wp_none] at q
      split at q
      · rename_i hb; exact ⟨j, rfl, hb, q⟩
      · exact q.elim
    | _ => exact (wp_none.mp q).elim
  · rintro ⟨d, S1, e, j, rfl, hb, q⟩
    refine ⟨_, S1, e, ?_⟩
    simp only [hb, if_true]
    exact wp_some.mpr q
theorem wp_rgI2 {f g : EvE} {τ : Tau} {S : Sto} {Q : Src → Sto → Prop} : Wp (rgI2 f g τ S) Q ↔ Wp (f τ S) fun d S1 => Wp (g τ S1) fun e S2 => ∃ i j, d = .int i ∧ e = .int j ∧ (big62 i = true ∧ big62 j = true) ∧ Q (.fixed (rng i (j - i).toNat)) S2 := by
  unfold rgI2; rw [wp_bind]; simp only [wp_bind]
  constructor
  · rintro ⟨d, S1, e, d2, S2, e2, q⟩
    refine ⟨d, S1, e, d2, S2, e2, ?_⟩
    cases d with
    | int i =>
      cases d2 with
      | int j =>
        simp only [wp_ite, wp_some, wp_none, Bool.and_eq_true] at q
        split at q
        · rename_i hb; exact ⟨i, j, rfl, rfl, hb, q⟩
        · exact q.elim
      | _ => exact (wp_none.mp q).elim
    | _ => exact (wp_none.mp q).elim
  · rintro ⟨d, S1, e, d2, S2, e2, i, j, rfl, rfl, hb, q⟩
    refine ⟨_, S1, e, _, S2, e2, ?_⟩
    simp only [hb, Bool.and_self, if_true]
    exact wp_some.mpr q
theorem wp_rgI3 {f g h : EvE} {τ : Tau} {S : Sto} {Q : Src → Sto → Prop} (k : Wp (f τ S) fun d S1 => Wp (g τ S1) fun e S2 => Wp (h τ S2) fun c S3 => ∃ i j c', d = .int i ∧ e = .int j ∧ c = .int c' ∧ (c' ≠ 0 ∧ c'.natAbs < 1073741824 ∧ Builtin.Range.small i j c' = true ∧ 0 ≤ Builtin.Range.rangeSize i j c') ∧ Q (.fixed (rngC i c' (Builtin.Range.rangeSize i j c').toNat)) S3) : Wp (rgI3 f g h τ S) Q := by
  unfold rgI3; rw [wp_bind]; simp only [wp_bind]
  obtain ⟨d, S1, e, d2, S2, e2, d3, S3, e3, i, j, c, rfl, rfl, rfl, hb, q⟩ := k
  refine ⟨_, S1, e, _, S2, e2, _, S3, e3, ?_⟩
  simp only
  rw [if_pos hb]
  exact wp_some.mpr q
theorem src_tup {ds : List D} {S : Sto} : srcOf (.tup ds) S = some (.fixed ds) := rfl
theorem src_fl {ds : List D} {S : Sto} : srcOf (.fl ds) S = some (.fixed ds) := rfl
theorem src_loc {n : Nat} {ds : List D} {S : Sto} (h : S[n]? = some (.lst ds)) : srcOf (.loc n) S = some (.live n ds.length) := by simp only [srcOf, lenAt, h]; rfl
theorem srcE_tup {ds : List D} {S : Sto} : srcEnum (.tup ds) S = some (.fixed (enumsT 0 ds)) := rfl
def Src.en (n l : Nat) : Src := ⟨l, fun S i => (lsN (.loc n) l S).bind fun es => (es[i]?).map (pr (i : Int)), fun S => (lsN (.loc n) l S).isSome⟩
theorem srcE_loc {n : Nat} {ds : List D} {S : Sto} (h : S[n]? = some (.lst ds)) : srcEnum (.loc n) S = some (.en n ds.length) := by
  simp only [srcEnum, lsOf, h]; rfl
theorem srcZ_tup {as bs : List D} {S : Sto} : srcZip (.tup as) (.tup bs) S = some (.fixed (zipsT as bs)) := rfl
section
variable {g : D → Tau → Option Tau} {b : EvS} {τ : Tau} {S : Sto} {Q : Out → Sto → Prop}
theorem lo_fixed (ds : List D) (I : Nat → Tau → Sto → Prop) (h0 : I 0 τ S)
    (hs : ∀ i d τ S, ds[i]? = some d → I i τ S → ∃ τ1, g d τ = some τ1 ∧ Wp (b τ1 S) (LoopQ (I (i + 1)) Q))
    (he : ∀ τ S, I ds.length τ S → Q (.nx τ) S) : Wp (loE (.fixed ds) g b (Src.fixed ds).len 0 τ S) Q :=
  wp_lo (.fixed ds) ds g b I (fun i d τ S h _ => h) (fun _ _ _ => rfl) hs he _ 0 τ S (by simp [Src.fixed]) h0
theorem lo_rng (lo : Int) (n : Nat) (I : Nat → Tau → Sto → Prop) (h0 : I 0 τ S)
    (hs : ∀ i τ S, i < n → I i τ S → ∃ τ1, g (.int (lo + (i : Int))) τ = some τ1 ∧ Wp (b τ1 S) (LoopQ (I (i + 1)) Q))
    (he : ∀ τ S, I n τ S → Q (.nx τ) S) : Wp (loE (.fixed (rng lo n)) g b (Src.fixed (rng lo n)).len 0 τ S) Q :=
  lo_fixed (rng lo n) I h0 (fun i d τ S h hI => by
    rw [rng_get] at h
    split at h
    · cases h; exact hs i τ S (by assumption) hI
    · cases h) (by rw [rng_len]; exact he)
theorem lo_live (n : Nat) (ds : List D) (I : Nat → Tau → Sto → Prop) (h0 : I 0 τ S) (hl : ∀ i τ S, I i τ S → S[n]? = some (.lst ds))
    (hs : ∀ i d τ S, ds[i]? = some d → I i τ S → ∃ τ1, g d τ = some τ1 ∧ Wp (b τ1 S) (LoopQ (I (i + 1)) Q))
    (he : ∀ τ S, I ds.length τ S → Q (.nx τ) S) : Wp (loE (.live n ds.length) g b (Src.live n ds.length).len 0 τ S) Q :=
  wp_lo (.live n ds.length) ds g b I (fun i d τ S h hI => by simp only [Src.live, lenAt, itemAt, hl i τ S hI, if_true]; exact h) (fun τ S hI => by simp [Src.live, lenAt, hl _ τ S hI]) hs he _ 0 τ S (by simp [Src.live]) h0
theorem lo_en (n : Nat) (ds : List D) (I : Nat → Tau → Sto → Prop) (h0 : I 0 τ S) (hl : ∀ i τ S, I i τ S → S[n]? = some (.lst ds))
    (hs : ∀ i d τ S, ds[i]? = some d → I i τ S → ∃ τ1, g (pr (i : Int) d) τ = some τ1 ∧ Wp (b τ1 S) (LoopQ (I (i + 1)) Q))
    (he : ∀ τ S, I ds.length τ S → Q (.nx τ) S) : Wp (loE (.en n ds.length) g b (Src.en n ds.length).len 0 τ S) Q :=
  wp_lo (.en n ds.length) (enumsT 0 ds) g b I (fun i d τ S h hI => by
    rw [enumsT_get, Nat.zero_add] at h
    simp only [Src.en, lsN_of (hl i τ S hI), Option.bind_some]; exact h) (fun τ S hI => by simp only [Src.en, lsN_of (hl _ τ S hI)]; rfl)
    (fun i d τ S h hI => by
      rw [enumsT_get, Nat.zero_add] at h
      obtain ⟨d', h1, rfl⟩ := Option.map_eq_some_iff.mp h
      exact hs i d' τ S h1 hI) (by rw [enumsT_len]; exact he) _ 0 τ S (by simp [Src.en, enumsT_len]) h0
theorem lo_enT (ds : List D) (I : Nat → Tau → Sto → Prop) (h0 : I 0 τ S)
    (hs : ∀ i d τ S, ds[i]? = some d → I i τ S → ∃ τ1, g (pr (i : Int) d) τ = some τ1 ∧ Wp (b τ1 S) (LoopQ (I (i + 1)) Q))
    (he : ∀ τ S, I ds.length τ S → Q (.nx τ) S) : Wp (loE (.fixed (enumsT 0 ds)) g b (Src.fixed (enumsT 0 ds)).len 0 τ S) Q :=
  lo_fixed (enumsT 0 ds) I h0 (fun i d τ S h hI => by
      rw [enumsT_get, Nat.zero_add] at h
      obtain ⟨d', h1, rfl⟩ := Option.map_eq_some_iff.mp h
      exact hs i d' τ S h1 hI) (by rw [enumsT_len]; exact he)
end
section
variable {g : D → Tau → Option Tau} {t : EvT} {f : EvE} {τ : Tau} {S : Sto} {Q : List D → Sto → Prop}
theorem lc_fixed (ds : List D) (hz : ds.length ≤ 1000000) (I : Nat → List D → Sto → Prop) (h0 : I 0 [] S)
    (hs : ∀ i d acc S, ds[i]? = some d → I i acc S → ∃ τ1, g d τ = some τ1 ∧ Wp (t τ1 S) fun v S1 => if v = true then Wp (f τ1 S1) fun y S2 => I (i + 1) (acc ++ [y]) S2 else I (i + 1) acc S1)
    (he : ∀ acc S, I ds.length acc S → Q acc S) : Wp (lcL (.fixed ds) g t f τ (Src.fixed ds).len 0 [] S) Q :=
  wp_lcL (.fixed ds) ds g t f τ I hz (fun i d acc S h _ => h) (fun _ _ _ => rfl) hs he _ 0 [] S (by simp [Src.fixed]) (by simp) h0
theorem lc_rng (lo : Int) (n : Nat) (hz : n ≤ 1000000) (I : Nat → List D → Sto → Prop) (h0 : I 0 [] S)
    (hs : ∀ i acc S, i < n → I i acc S → ∃ τ1, g (.int (lo + (i : Int))) τ = some τ1 ∧ Wp (t τ1 S) fun v S1 => if v = true then Wp (f τ1 S1) fun y S2 => I (i + 1) (acc ++ [y]) S2 else I (i + 1) acc S1)
    (he : ∀ acc S, I n acc S → Q acc S) : Wp (lcL (.fixed (rng lo n)) g t f τ (Src.fixed (rng lo n)).len 0 [] S) Q :=
  lc_fixed (rng lo n) (by rw [rng_len]; exact hz) I h0 (fun i d acc S h hI => by
    rw [rng_get] at h
    split at h
    · cases h; exact hs i acc S (by assumption) hI
    · cases h) (by rw [rng_len]; exact he)
theorem lc_live (n : Nat) (ds : List D) (hz : ds.length ≤ 1000000) (I : Nat → List D → Sto → Prop) (h0 : I 0 [] S) (hl : ∀ i acc S, I i acc S → S[n]? = some (.lst ds))
    (hs : ∀ i d acc S, ds[i]? = some d → I i acc S → ∃ τ1, g d τ = some τ1 ∧ Wp (t τ1 S) fun v S1 => if v = true then Wp (f τ1 S1) fun y S2 => I (i + 1) (acc ++ [y]) S2 else I (i + 1) acc S1)
    (he : ∀ acc S, I ds.length acc S → Q acc S) : Wp (lcL (.live n ds.length) g t f τ (Src.live n ds.length).len 0 [] S) Q :=
  wp_lcL (.live n ds.length) ds g t f τ I hz (fun i d acc S h hI => by simp only [Src.live, lenAt, itemAt, hl i acc S hI, if_true]; exact h) (fun acc S hI => by simp [Src.live, lenAt, hl _ acc S hI]) hs he _ 0 [] S (by simp [Src.live]) (by simp) h0
end
/-! dicts with pairs as keys -/
theorem lk_nil {κ : Type} [DecidableEq κ] {k : κ} : lk ([] : List (κ × D)) k = none := rfl
theorem lk_cons {κ : Type} [DecidableEq κ] {p : κ × D} {r : List (κ × D)} {k : κ} : lk (p :: r) k = if p.1 = k then some p.2 else lk r k := by
  by_cases e : p.1 = k
  · simp [lk, List.find?_cons, e]
  · simp [lk, List.find?_cons, e]
theorem lk_any {κ : Type} [DecidableEq κ] (k : κ) : ∀ kvs : List (κ × D), (kvs.any fun kv => decide (kv.1 = k)) = (lk kvs k).isSome
  | [] => rfl
  | p :: r => by
    rw [List.any_cons, lk_cons, lk_any k r]
    by_cases e : p.1 = k <;> simp [e]
theorem lk_map {κ : Type} [DecidableEq κ] (k j : κ) (y : D) : ∀ kvs : List (κ × D), lk (kvs.map fun kv => if kv.1 = k then (kv.1, y) else kv) j = (lk kvs j).map fun x => if j = k then y else x
  | [] => rfl
  | p :: r => by
    have ih := lk_map k j y r
    rw [List.map_cons, lk_cons, lk_cons, ih]
    by_cases h : p.1 = k
    · rw [if_pos h]
      by_cases e : p.1 = j
      · have : j = k := e.symm.trans h
        simp [e, this]
      · simp [e]
    · rw [if_neg h]
      by_cases e : p.1 = j
      · have : ¬ j = k := fun z => h (e.trans z)
        simp [e, this]
      · simp [e]
theorem lk_app {κ : Type} [DecidableEq κ] (k j : κ) (y : D) : ∀ kvs : List (κ × D), lk (kvs ++ [(k, y)]) j = ((lk kvs j).or (if k = j then some y else none))
  | [] => by simp [lk_cons, lk_nil]
  | p :: r => by
    rw [List.cons_append, lk_cons, lk_cons, lk_app k j y r]
    by_cases e : p.1 = j <;> simp [e]
theorem lk_pt {κ : Type} [DecidableEq κ] (kvs : List (κ × D)) (k j : κ) (y : D) : lk (ptK kvs k y) j = if j = k then some y else lk kvs j := by
  unfold ptK
  rw [lk_any]
  by_cases h : (lk kvs k).isSome = true
  · rw [if_pos h, lk_map]
    by_cases e : j = k
    · subst e
      obtain ⟨x, hx⟩ := Option.isSome_iff_exists.mp h
      simp [hx]
    · simp [e]
  · rw [if_neg h, lk_app]
    by_cases e : j = k
    · subst e
      have : lk kvs j = none := by cases q : lk kvs j with | none => rfl | some x => rw [q] at h; exact absurd rfl h
      simp [this]
    · have : ¬ k = j := fun z => e z.symm
      simp [e, this]
theorem pt_len {κ : Type} [DecidableEq κ] (kvs : List (κ × D)) (k : κ) (y : D) : (ptK kvs k y).length ≤ kvs.length + 1 := by
  unfold ptK
  split <;> simp
section
variable {S : Sto}
theorem wq_dgT {a : Nat} {kvs : List (List Key × D)} {t s : Int} {Q : D → Sto → Prop} (h : S[a]? = some (.dT kvs)) : Wp (sbD (.loc a) (.tup [.int t, .int s]) S) Q ↔ ∃ d, lk kvs [Sum.inl t, Sum.inl s] = some d ∧ Q d S := by
  have e : sbD (.loc a) (.tup [.int t, .int s]) S = (lk kvs [Sum.inl t, Sum.inl s]).map fun d => (d, S) := by
    show ((none : Option (D × Sto)).orElse fun _ => (dgD (.loc a) (.tup [.int t, .int s]) S).orElse fun _ => gnD (.loc a) (.tup [.int t, .int s]) S) = _
    have e0 : dgD (.loc a) (.tup [.int t, .int s]) S = (lk kvs [Sum.inl t, Sum.inl s]).map fun d => (d, S) := by
      simp only [dgD, h]; rfl
    rw [e0]
    cases lk kvs [Sum.inl t, Sum.inl s] with
    | some d => rfl
    | none => simp [Option.orElse, gnD, nHas, h, nAt]
  rw [e, wq_map]
theorem stD_T {a : Nat} {kvs : List (List Key × D)} {t s : Int} {v : D} (h : S[a]? = some (.dT kvs)) (hl : kvs.length ≤ 10000000) : stD (.loc a) (.tup [.int t, .int s]) v S = some (S.set a (.dT (ptK kvs [Sum.inl t, Sum.inl s] v))) := by
  simp only [stD, h, tOf, ksOf, kOf, Option.bind_some, Option.map_some]
  rw [if_pos hl]
end
/-! slices of parts -/
theorem cut_take {ds : List D} {k : Nat} : cutD ds none (some (k : Int)) = ds.take k := by
  unfold cutD
  rw [HT.sIx_none, HT.sIx_nat, List.drop_zero, Nat.sub_zero, List.take_eq_take_iff]
  omega
theorem cut_drop {ds : List D} {k : Nat} : cutD ds (some (k : Int)) none = ds.drop k := by
  unfold cutD
  rw [HT.sIx_none, HT.sIx_nat]
  by_cases h : k ≤ ds.length
  · rw [Nat.min_eq_left h, List.take_of_length_le (by simp)]
  · rw [Nat.min_eq_right (by omega), List.drop_of_length_le (Nat.le_refl _), List.drop_of_length_le (by omega)]; simp
theorem cut_mid {ds : List D} {a b : Nat} : cutD ds (some (a : Int)) (some (b : Int)) = (ds.drop a).take (b - a) := by
  unfold cutD
  rw [HT.sIx_nat, HT.sIx_nat]
  by_cases h : a ≤ ds.length
  · rw [Nat.min_eq_left h, List.take_eq_take_iff, List.length_drop]
    omega
  · have e : min a ds.length = ds.length := by omega
    rw [e, List.drop_of_length_le (Nat.le_refl _), List.drop_of_length_le (by omega)]; simp
end SW
local macro_rules
  | `(tactic| simp! only [$as,*]) => `(tactic| try simp only [SW.wp_seqS, SW.cont_nx, SW.cont_rt, SW.cont_bk, SW.cont_ct, SW.cont_ex, SW.lq_ex, SW.lq_nx, SW.lq_ct, SW.lq_bk, SW.lq_rt, SW.wp_ifS, SW.wp_tB, SW.wp_b2E, SW.wp_u1E, SW.wp_aE, SW.wp_nilA, SW.wp_consA, SW.wp_vE, SW.wp_cE, SW.wp_notT, SW.wp_andT, SW.wp_orT, SW.wp_iteE, SW.wp_andE, SW.wp_orE, SW.wp_notE, SW.wp_chE, SW.wp_yesT, SW.wp_noO, SW.wp_someO, SW.wp_slE, SW.wp_mE, SW.wp_nxS, SW.wp_brS, SW.wp_ctS, SW.wp_retN, SW.wp_exS, SW.wp_rtS, SW.wp_stS, SW.wp_parS, SW.wp_asS, SW.wp_augS, SW.wp_patG, SW.pb_nm, SW.pb_tp, SW.pb_nil, SW.pb_cons, Option.bind_some, SW.pr, SW.wp_tupG, SW.wp_nilG, SW.wp_consG, SW.wp_subG, SW.wp_some, SW.wp_none, SW.wp_forS, SW.wp_lcS, SW.wp_sqI, SW.wp_enI, SW.wp_reI, SW.wp_ziI, SW.wp_rgI1, SW.wp_rgI2, SW.src_tup, SW.src_fl, SW.srcE_tup, SW.srcZ_tup, SW.wipeT, SW.wq_catT, SW.wq_listT, SW.wq_tupleT, SW.wq_slT, SW.wq_slF, SW.wp_add, SW.wp_addI, SW.wp_sub, SW.wp_lt, SW.wp_le, SW.wp_gt, SW.wp_ge, SW.wp_neg, SW.wq_mod, SW.wq_fdiv, SW.wq_mul, SW.wq_pow, SW.wp_abs, SW.wp_max2, SW.wp_min2, SW.wp_intb, SW.wq_divmod, SW.wq_tup, SW.wq_lst, SW.wp_is_non, SW.wp_isnot_non, SW.wq_sbT, SW.wq_sbF, SW.len_tup, SW.len_fl, SW.wp_nK, SW.wp_nT, List.map_cons, List.map_nil, List.cons_append, List.nil_append, SW.rep_none_s, SW.rep_none_z, List.length_cons, List.length_nil, List.set_cons_zero, List.set_cons_succ, List.getElem?_cons_zero, List.getElem?_cons_succ, Option.some.injEq, exists_eq_left', exists_eq_left, exists_eq', exists_and_left, SW.D.bl.injEq, SW.D.int.injEq, SW.D.tup.injEq, SW.D.loc.injEq, List.cons.injEq, and_true, true_and, decide_eq_true_eq, Bool.not_eq_true', Bool.false_eq_true, if_false, if_true, reduceIte, Nat.reduceSub, Nat.reduceAdd, Nat.reduceLeDiff, $as,*])
local macro_rules
  | `(tactic| dsimp! only [$as,*]) => `(tactic| try simp only [SW.cont_rt, SW.cont_bk, SW.cont_ct, SW.cont_ex, SW.lq_ex, SW.lq_nx, SW.lq_ct, SW.lq_bk, SW.lq_rt, SW.wp_ifS, SW.wp_tB, SW.wp_b2E, SW.wp_u1E, SW.wp_aE, SW.wp_nilA, SW.wp_consA, SW.wp_vE, SW.wp_cE, SW.wp_notT, SW.wp_andT, SW.wp_orT, SW.wp_iteE, SW.wp_andE, SW.wp_orE, SW.wp_notE, SW.wp_chE, SW.wp_yesT, SW.wp_noO, SW.wp_someO, SW.wp_slE, SW.wp_mE, SW.wp_nxS, SW.wp_brS, SW.wp_ctS, SW.wp_retN, SW.wp_exS, SW.wp_rtS, SW.wp_stS, SW.wp_parS, SW.wp_asS, SW.wp_augS, SW.wp_patG, SW.pb_nm, SW.pb_tp, SW.pb_nil, SW.pb_cons, Option.bind_some, SW.pr, SW.wp_tupG, SW.wp_nilG, SW.wp_consG, SW.wp_subG, SW.wp_some, SW.wp_none, SW.wp_forS, SW.wp_lcS, SW.wp_sqI, SW.wp_enI, SW.wp_reI, SW.wp_ziI, SW.wp_rgI1, SW.wp_rgI2, SW.src_tup, SW.src_fl, SW.srcE_tup, SW.srcZ_tup, SW.wipeT, SW.wq_catT, SW.wq_listT, SW.wq_tupleT, SW.wq_slT, SW.wq_slF, SW.wp_add, SW.wp_addI, SW.wp_sub, SW.wp_lt, SW.wp_le, SW.wp_gt, SW.wp_ge, SW.wp_neg, SW.wq_mod, SW.wq_fdiv, SW.wq_mul, SW.wq_pow, SW.wp_abs, SW.wp_max2, SW.wp_min2, SW.wp_intb, SW.wq_divmod, SW.wq_tup, SW.wq_lst, SW.wp_is_non, SW.wp_isnot_non, SW.wq_sbT, SW.wq_sbF, SW.len_tup, SW.len_fl, SW.wp_nK, SW.wp_nT, List.map_cons, List.map_nil, List.cons_append, List.nil_append, SW.rep_none_s, SW.rep_none_z, List.length_cons, List.length_nil, List.set_cons_zero, List.set_cons_succ, List.getElem?_cons_zero, List.getElem?_cons_succ, Option.some.injEq, exists_eq_left', exists_eq_left, exists_eq', exists_and_left, SW.D.bl.injEq, SW.D.int.injEq, SW.D.tup.injEq, SW.D.loc.injEq, List.cons.injEq, and_true, true_and, decide_eq_true_eq, Bool.not_eq_true', Bool.false_eq_true, if_false, if_true, reduceIte, Nat.reduceSub, Nat.reduceAdd, Nat.reduceLeDiff, $as,*])
namespace SW
open PySem L2
def boxD (x y z : Int) : MO := .lst [.int x, .int y, .int z]
theorem ix3_0 : ixN 3 0 = some 0 := rfl
theorem ix3_1 : ixN 3 1 = some 1 := rfl
theorem ix3_2 : ixN 3 2 = some 2 := rfl
theorem wp_take {S : Sto} {b : Nat} {x y z m : Int} {Q : D → Sto → Prop} (h : S[b]? = some (boxD x y z)) (hx : 0 ≤ x) (hy : 0 ≤ y ∧ y < 2147483629) (hz : 0 ≤ z ∧ z < 1000000) (hm : 0 < m ∧ m < 1000000)
    (k : ∀ v x' y' z', 0 ≤ v ∧ v < m → 0 ≤ x' → 0 ≤ y' ∧ y' < 2147483629 → 0 ≤ z' ∧ z' ≤ z + 1 → Q (.int v) (S.set b (boxD x' y' z'))) : Wp (g_l_take [.loc b, .int m] S) Q := by
  unfold g_l_take
  refine (wp_fnD (by rfl)).mpr ?_
  unfold b_l_take boxD at *
  (simp! only [wq_sbL h, at3_0])
  split
  · simp only [stD_L h, List.length_cons, List.length_nil, Nat.reduceAdd, ix3_0, Option.map_some, Option.some.injEq, exists_eq_left', List.set_cons_zero]
    refine ⟨⟨hm.1, by omega⟩, k _ _ _ _ ⟨Int.emod_nonneg _ (by omega), Int.emod_lt_of_pos _ hm.1⟩ (Int.ediv_nonneg hx (by omega)) hy ⟨hz.1, by omega⟩⟩
  · (simp! only [wq_sbL h, at3_2])
    simp only [stD_L h, List.length_cons, List.length_nil, Nat.reduceAdd, ix3_2, Option.map_some, Option.some.injEq, exists_eq_left', List.set_cons_zero, List.set_cons_succ]
    have h2 : (S.set b (.lst [.int x, .int y, .int (z + 1)]))[b]? = some (.lst [.int x, .int y, .int (z + 1)]) := sto_set h
    (simp! only [wq_sbL h2, at3_1, at3_2, stD_L h2, ix3_1, Option.map_some])
    have a0 : 0 ≤ (y + 39373 * (z + 1)) * (48271 + (z + 1)) % 2147483647 := Int.emod_nonneg _ (by omega)
    have a1 : (y + 39373 * (z + 1)) * (48271 + (z + 1)) % 2147483647 < 2147483647 := Int.emod_lt_of_pos _ (by omega)
    generalize (y + 39373 * (z + 1)) * (48271 + (z + 1)) % 2147483647 = w at a0 a1 ⊢
    have b0 : 0 ≤ (w * (w % 40009 + 7) + (z + 1)) % 2147483629 := Int.emod_nonneg _ (by omega)
    have b1 : (w * (w % 40009 + 7) + (z + 1)) % 2147483629 < 2147483629 := Int.emod_lt_of_pos _ (by omega)
    generalize (w * (w % 40009 + 7) + (z + 1)) % 2147483629 = u at b0 b1 ⊢
    have h3 : ((S.set b (.lst [.int x, .int y, .int (z + 1)])).set b (.lst [.int x, .int u, .int (z + 1)]))[b]? = some (.lst [.int x, .int u, .int (z + 1)]) := sto_set h2
    (simp! only [wq_sbL h3, at3_1, at3_2])
    rw [List.set_set]
    refine ⟨by omega, by omega, by omega, by omega, by omega, by omega, by omega, by omega, by omega, ⟨by omega, by omega⟩, hm.1, ?_⟩
    exact k _ _ _ _ ⟨Int.emod_nonneg _ (by omega), Int.emod_lt_of_pos _ hm.1⟩ hx ⟨b0, b1⟩ ⟨by omega, by omega⟩
/-- a box at b, its count not above z; only it may be changed -/
def Bx (S : Sto) (b : Nat) (z : Nat) : Prop := ∃ x y z' : Int, S[b]? = some (boxD x y z') ∧ 0 ≤ x ∧ (0 ≤ y ∧ y < 2147483629) ∧ 0 ≤ z' ∧ z' ≤ z
theorem Bx.le {S : Sto} {b z z' : Nat} (h : Bx S b z) (l : z ≤ z') : Bx S b z' := let ⟨x, y, w, e, a, c, d, f⟩ := h; ⟨x, y, w, e, a, c, d, by omega⟩
theorem Bx.lt {S : Sto} {b z : Nat} (h : Bx S b z) : b < S.length := let ⟨x, y, w, e, _⟩ := h; sto_lt e
theorem Bx.of {S S' : Sto} {b z : Nat} (h : Bx S b z) (e : S'[b]? = S[b]?) : Bx S' b z := let ⟨x, y, w, e', r⟩ := h; ⟨x, y, w, e.trans e', r⟩
/-- the store behind: it may have grown, and only b may be another -/
structure Fr (S S' : Sto) (b : Nat) : Prop where
  len : S.length ≤ S'.length
  at_ : ∀ n, n < S.length → n ≠ b → S'[n]? = S[n]?
theorem Fr.refl (S : Sto) (b : Nat) : Fr S S b := ⟨Nat.le_refl _, fun _ _ _ => rfl⟩
theorem Fr.trans {S S1 S2 : Sto} {b : Nat} (h : Fr S S1 b) (g : Fr S1 S2 b) : Fr S S2 b := ⟨Nat.le_trans h.len g.len, fun n hn hb => (g.at_ n (Nat.lt_of_lt_of_le hn h.len) hb).trans (h.at_ n hn hb)⟩
theorem Fr.set (S : Sto) (b : Nat) (o : MO) : Fr S (S.set b o) b := ⟨by simp, fun n _ hb => sto_ne (Ne.symm hb)⟩
theorem Fr.app (S : Sto) (b : Nat) (o : MO) : Fr S (S ++ [o]) b := ⟨by simp, fun n hn _ => sto_app hn⟩
theorem Fr.get {S S' : Sto} {b n : Nat} {o : MO} (h : Fr S S' b) (hb : n ≠ b) (e : S[n]? = some o) : S'[n]? = some o := (h.at_ n (sto_lt e) hb).trans e
/-- a new place is changed -/
theorem Fr.new {S S' : Sto} {b n : Nat} {o : MO} (h : Fr S S' b) (hn : S.length ≤ n) : Fr S (S'.set n o) b := ⟨by simpa using h.len, fun m hm hb => by
  rw [sto_ne (by omega)]; exact h.at_ m hm hb⟩
theorem take_ok {S : Sto} {b z m : Nat} {Q : D → Sto → Prop} (h : Bx S b z) (hz : z < 1000000) (hm : 0 < m) (hm2 : m < 1000000)
    (k : ∀ (v : Nat) (S' : Sto), v < m → Bx S' b (z + 1) → S'.length = S.length → (∀ n, n ≠ b → S'[n]? = S[n]?) → Q (.int v) S') : Wp (g_l_take [.loc b, .int m] S) Q := by
  obtain ⟨x, y, z', e, hx, hy, h0, h1⟩ := h
  refine wp_take e hx hy ⟨h0, by omega⟩ ⟨by omega, by omega⟩ fun v x' y' z2 hv a1 a2 a3 => ?_
  obtain ⟨w, rfl⟩ : ∃ w : Nat, v = w := ⟨v.toNat, by omega⟩
  exact k w _ (by omega) ⟨x', y', z2, sto_set e, a1, a2, a3.1, by omega⟩ (by simp) fun n hn => sto_ne (Ne.symm hn)
/-! _law_box -/
theorem box_ok {S : Sto} {c k : Nat} {cs : List Int} {Q : D → Sto → Prop} (h : S[c]? = some (.lst (cs.map D.int))) (hl : cs.length ≤ 100) (hk : k ≤ 100)
    (q : ∀ (n : Nat) (S' : Sto), Bx S' n 0 → S.length ≤ n → S.length ≤ S'.length → (∀ m, m < S.length → S'[m]? = S[m]?) → Q (.loc n) S') : Wp (g_l_box [.loc c, .int k] S) Q := by
  unfold g_l_box
  refine (wp_fnD (by rfl)).mpr ?_
  unfold b_l_box
  have h1 : (S ++ [MO.lst [.int 0]])[S.length]? = some (.lst [.int 0]) := sto_new
  (simp! only [])
  have ek : ((k : Int) + 1) = ((k + 1 : Nat) : Int) := by omega
  rw [ek, wq_rep1 h1 (by omega)]
  have lc : c < S.length := sto_lt h
  have h2 : (S ++ [MO.lst [.int 0]])[c]? = some (.lst (cs.map D.int)) := by rw [sto_app lc]; exact h
  have h3 : (S ++ [MO.lst [.int 0]] ++ [MO.lst (List.replicate (k + 1) (D.int 0))])[c]? = some (.lst (cs.map D.int)) := by rw [sto_app (by simp; omega)]; exact h2
  have h4 : (S ++ [MO.lst [.int 0]] ++ [MO.lst (List.replicate (k + 1) (D.int 0))])[(S ++ [MO.lst [.int 0]]).length]? = some (.lst (List.replicate (k + 1) (D.int 0))) := sto_new
  rw [wq_catL h3 h4]
  refine ⟨by simp; omega, ?_⟩
  generalize hS : S ++ [MO.lst [.int 0]] ++ [MO.lst (List.replicate (k + 1) (D.int 0))] = S1
  have l1 : S1.length = S.length + 2 := by rw [← hS]; simp
  have f1 : ∀ m, m < S.length → S1[m]? = S[m]? := fun m hm => by rw [← hS, sto_app (by simp; omega), sto_app hm]
  have h5 : (S1 ++ [MO.lst (cs.map D.int ++ List.replicate (k + 1) (D.int 0))])[S1.length]? = some (.lst (cs.map D.int ++ List.replicate (k + 1) (D.int 0))) := sto_new
  obtain ⟨c0, hc0⟩ : ∃ c0 : Int, (cs.map D.int ++ List.replicate (k + 1) (D.int 0))[k]? = some (.int c0) := by
    by_cases hk : k < cs.length
    · exact ⟨cs[k], by rw [List.getElem?_append_left (by simpa using hk)]; simp [hk]⟩
    · refine ⟨0, ?_⟩
      rw [List.getElem?_append_right (by simpa using hk), List.getElem?_replicate, if_pos (by simp; omega)]
  (simp! only [wq_sbL h5, atI_of hc0])
  have ha : 0 ≤ (if c0 < 0 then -c0 else c0) := by split <;> omega
  generalize (if c0 < 0 then -c0 else c0) = a at ha ⊢
  (simp! only [])
  have hb : 0 ≤ (if (10 : Int) ^ Int.toNat 18 ≤ a then (1 : Int) else 0) ∧ (if (10 : Int) ^ Int.toNat 18 ≤ a then (1 : Int) else 0) ≤ 1 := by split <;> omega
  generalize (if (10 : Int) ^ Int.toNat 18 ≤ a then (1 : Int) else 0) = e at hb ⊢
  have d0 : 0 ≤ (c0 % 2147483647 + 7919 * (k : Int) + 11) * 48271 % 2147483629 := Int.emod_nonneg _ (by omega)
  have d1 : (c0 % 2147483647 + 7919 * (k : Int) + 11) * 48271 % 2147483629 < 2147483629 := Int.emod_lt_of_pos _ (by omega)
  refine ⟨by decide, by omega, by omega, by omega, by omega, by omega, ?_⟩
  refine q _ _ ⟨_, _, _, sto_new, Int.mul_nonneg ha hb.1, ⟨d0, d1⟩, by omega, by omega⟩ (by simp; omega) (by simp; omega) fun m hm => ?_
  rw [sto_app (by simp; omega), sto_app (by omega)]
  exact f1 m hm
/-! _law_folded -/
theorem ints_set (cs : List Int) (j : Nat) (v : Int) : (cs.map D.int).set j (.int v) = (cs.set j v).map D.int := by rw [List.map_set]
theorem folded_ok {S : Sto} {ns : List Int} {m : Nat} {Q : D → Sto → Prop} (hm : 0 < m) (hm2 : m ≤ 63) (hl : ns.length ≤ 63)
    (q : ∀ (n : Nat) (S' : Sto) (cs : List Int), S'[n]? = some (.lst (cs.map D.int)) → cs.length = min m ns.length → S.length ≤ n → (∀ k, k < S.length → S'[k]? = S[k]?) → Q (.loc n) S') : Wp (g_l_folded [.fl (ns.map D.int), .int m] S) Q := by
  unfold g_l_folded
  refine (wp_fnD (by rfl)).mpr ?_
  unfold b_l_folded
  (simp! only [])
  generalize hS1 : S ++ [MO.lst (cutD (ns.map D.int) none (some (m : Int)))] = S1
  have g1 : S1[S.length]? = some (.lst (cutD (ns.map D.int) none (some (m : Int)))) := by rw [← hS1]; exact sto_new
  have l1 : S1.length = S.length + 1 := by rw [← hS1]; simp
  have f1 : ∀ k, k < S.length → S1[k]? = S[k]? := fun k hk => by rw [← hS1]; exact sto_app hk
  rw [wq_listL g1]
  generalize hS2 : S1 ++ [MO.lst (cutD (ns.map D.int) none (some (m : Int)))] = S2
  have g2 : S2[S1.length]? = some (.lst (cutD (ns.map D.int) none (some (m : Int)))) := by rw [← hS2]; exact sto_new
  have l2 : S2.length = S.length + 2 := by rw [← hS2]; simp; omega
  have f2 : ∀ k, k < S.length → S2[k]? = S[k]? := fun k hk => by rw [← hS2, sto_app (by omega)]; exact f1 k hk
  generalize hS3 : S2 ++ [MO.lst (cutD (ns.map D.int) (some (m : Int)) (some 63))] = S3
  have g3 : S3[S2.length]? = some (.lst (cutD (ns.map D.int) (some (m : Int)) (some 63))) := by rw [← hS3]; exact sto_new
  have g4 : S3[S1.length]? = some (.lst (cutD (ns.map D.int) none (some (m : Int)))) := by rw [← hS3, sto_app (by omega)]; exact g2
  have f3 : ∀ k, k < S.length → S3[k]? = S[k]? := fun k hk => by rw [← hS3, sto_app (by omega)]; exact f2 k hk
  have e63 : (63 : Int) = ((63 : Nat) : Int) := rfl
  rw [e63, cut_mid] at g3
  rw [cut_take] at g4
  refine ⟨_, srcE_loc g3, ?_⟩
  refine lo_en S2.length (((ns.map D.int).drop m).take (63 - m)) (fun i τ S' => ∃ cs : List Int, ∃ o3 o4, τ = [some (D.fl (ns.map D.int)), some (D.int m), some (.loc S1.length), o3, o4] ∧ cs.length = min m ns.length ∧ S'[S1.length]? = some (.lst (cs.map D.int)) ∧ S'[S2.length]? = some (.lst (((ns.map D.int).drop m).take (63 - m))) ∧ ∀ k, k < S.length → S'[k]? = S[k]?)
    ⟨ns.take m, _, _, rfl, by simp, by rw [← List.map_take] at g4; exact g4, g3, f3⟩ (fun i τ S' ⟨cs, o3, o4, _, _, _, h, _⟩ => h) ?_ ?_
  · rintro i d τ S' hi ⟨cs, o3, o4, rfl, hc, h1, h2, h3⟩
    have hi' : i < ((List.map D.int ns).drop m |>.take (63 - m)).length := (List.getElem?_eq_some_iff.mp hi).1
    simp only [List.length_take, List.length_drop, List.length_map] at hi'
    have hmn : m < ns.length := by omega
    obtain ⟨v, rfl⟩ : ∃ v : Int, d = .int v := by
      have := List.mem_of_getElem? hi
      have := List.mem_of_mem_drop (List.mem_of_mem_take this)
      simp only [List.mem_map] at this
      obtain ⟨v, _, rfl⟩ := this
      exact ⟨v, rfl⟩
    have em : ((i : Int) % (m : Int)) = ((i % m : Nat) : Int) := by simp
    have lt : i % m < cs.length := by have := Nat.mod_lt i hm; omega
    have at1 : atI (cs.map D.int) ((i % m : Nat) : Int) = some (.int cs[i % m]) := atI_of (by simp [lt])
    (simp! only [em, wq_sbL h1, at1, stD_lst h1 (show i % m < (cs.map D.int).length by simpa using lt)])
    refine ⟨by omega, by omega, by omega, ?_⟩
    rw [ints_set]
    exact ⟨_, _, _, ⟨rfl, rfl⟩, by simpa using hc, sto_set h1, by rw [sto_ne (by omega)]; exact h2, fun k hk => by rw [sto_ne (by omega)]; exact h3 k hk⟩
  · rintro τ S' ⟨cs, o3, o4, rfl, hc, h1, h2, h3⟩
    (simp! only [])
    exact q _ _ cs h1 hc (by omega) h3
end SW
namespace SW
open PySem L2

abbrev End := Nat × Nat
abbrev Wb := List (List End)
def eD (e : End) : D := .tup [.int e.1, .int e.2]
def rD (r : List End) : D := .tup (r.map eD)
def wD (w : Wb) : D := .tup (w.map rD)
/-- the thing at a room's door -/
def aT (w : Wb) (r i : Nat) : Option End := (w[r]?).bind fun x => x[i]?
theorem aT_some {w : Wb} {r i : Nat} {e : End} : aT w r i = some e ↔ ∃ x, w[r]? = some x ∧ x[i]? = some e := Option.bind_eq_some_iff
/-- each half tie stands once -/
def Dist (hs : Wb) : Prop := ∀ r i r' i' e, aT hs r i = some e → aT hs r' i' = some e → r = r' ∧ i = i'
def partner (e : End) : End := (e.1, if e.2 = 0 then 1 else if e.2 = 1 then 0 else e.2)
open Classical in
noncomputable def posOf (hs : Wb) (e : End) : End := if h : ∃ p : End, aT hs p.1 p.2 = some e then Classical.choose h else (0, 0)
theorem posOf_at {hs : Wb} {e : End} (h : ∃ p : End, aT hs p.1 p.2 = some e) : aT hs (posOf hs e).1 (posOf hs e).2 = some e := by
  unfold posOf; rw [dif_pos h]; exact Classical.choose_spec h
theorem posOf_eq {hs : Wb} (d : Dist hs) {e : End} {r i : Nat} (h : aT hs r i = some e) : posOf hs e = (r, i) := by
  have := posOf_at ⟨(r, i), h⟩
  obtain ⟨a, b⟩ := d _ _ _ _ _ this h
  exact Prod.ext a b
noncomputable def joinW (hs : Wb) : Wb := hs.map fun x => x.map fun e => posOf hs (partner e)
/-- lists of half ties in the store -/
structure Hv (S : Sto) (h : Nat) (ls : List Nat) (hs : Wb) : Prop where
  top : S[h]? = some (.lst (ls.map .loc))
  len : ls.length = hs.length
  at_ : ∀ (r l : Nat) (x : List End), ls[r]? = some l → hs[r]? = some x → S[l]? = some (.lst (x.map eD))
theorem Hv.of {S S' : Sto} {h : Nat} {ls : List Nat} {hs : Wb} (H : Hv S h ls hs) (k : ∀ n, n < S.length → S'[n]? = S[n]?) : Hv S' h ls hs :=
  ⟨(k _ (sto_lt H.top)).trans H.top, H.len, fun r l x a b => (k _ (sto_lt (H.at_ r l x a b))).trans (H.at_ r l x a b)⟩
structure JoinOk (hs : Wb) : Prop where
  dist : Dist hs
  side : ∀ r i e, aT hs r i = some e → e.2 ≤ 2
  part : ∀ r i e, aT hs r i = some e → ∃ p : End, aT hs p.1 p.2 = some (partner e)
  few : hs.length ≤ 100
  less : ∀ (r : Nat) (x : List End), hs[r]? = some x → x.length ≤ 1000
abbrev kE (e : End) : List Key := [Sum.inl (e.1 : Int), Sum.inl (e.2 : Int)]
theorem kE_inj {a b : End} (h : kE a = kE b) : a = b := by
  simp only [kE, List.cons.injEq, Sum.inl.injEq, and_true] at h
  exact Prod.ext (by omega) (by omega)
/-- what the dict holds when the doors ahead of (r, i) are in it -/
def Held (hs : Wb) (kvs : List (List Key × D)) (r i : Nat) : Prop := ∀ r' i' e, (r' < r ∨ (r' = r ∧ i' < i)) → aT hs r' i' = some e → lk kvs (kE e) = some (eD (r', i'))
theorem Held.put {hs : Wb} {kvs : List (List Key × D)} {r i : Nat} {e : End} (d : Dist hs) (h : Held hs kvs r i) (he : aT hs r i = some e) : Held hs (ptK kvs (kE e) (eD (r, i))) r (i + 1) := by
  intro r' i' e' hlt h'
  rw [lk_pt]
  by_cases q : kE e' = kE e
  · have := kE_inj q
    subst this
    obtain ⟨rfl, rfl⟩ := d _ _ _ _ _ h' he
    rw [if_pos rfl]
  · rw [if_neg q]
    refine h r' i' e' ?_ h'
    rcases hlt with z | ⟨z, y⟩
    · exact .inl z
    · subst z
      by_cases q2 : i' = i
      · subst q2
        rw [he] at h'; cases h'
        exact absurd rfl q
      · exact .inr ⟨rfl, by omega⟩
def I1 (S0 : Sto) (hs : Wb) (h : Nat) (a : Nat) (i : Nat) (τ : Tau) (S : Sto) : Prop := ∃ o2 o3 o4 o5 o6 o7 o8 kvs, τ = [some (.loc h), some (.loc a), o2, o3, o4, o5, o6, o7, o8] ∧ S[a]? = some (.dT kvs) ∧ Held hs kvs i 0 ∧ kvs.length ≤ i * 1000 ∧ ∀ n, n < S0.length → S[n]? = S0[n]?
def I1b (S0 : Sto) (hs : Wb) (h : Nat) (a : Nat) (r : Nat) (i : Nat) (τ : Tau) (S : Sto) : Prop := ∃ o3 o4 o5 o6 o7 o8 kvs, τ = [some (.loc h), some (.loc a), some (.int (r : Int)), o3, o4, o5, o6, o7, o8] ∧ S[a]? = some (.dT kvs) ∧ Held hs kvs r i ∧ kvs.length ≤ r * 1000 + i ∧ ∀ n, n < S0.length → S[n]? = S0[n]?
def I2 (S0 : Sto) (hs : Wb) (h a wl : Nat) (kvs : List (List Key × D)) (i : Nat) (τ : Tau) (S : Sto) : Prop := ∃ o2 o4 o5 o6 o7 o8, τ = [some (.loc h), some (.loc a), o2, some (.loc wl), o4, o5, o6, o7, o8] ∧ S[a]? = some (.dT kvs) ∧ S[wl]? = some (.lst (((joinW hs).take i).map rD)) ∧ ∀ n, n < S0.length → S[n]? = S0[n]?
def I3 (S0 : Sto) (hs : Wb) (a wl : Nat) (kvs : List (List Key × D)) (i : Nat) (x : List End) (j : Nat) (acc : List D) (S : Sto) : Prop := acc = (x.take j).map (fun e => eD (posOf hs (partner e))) ∧ S[a]? = some (.dT kvs) ∧ S[wl]? = some (.lst (((joinW hs).take i).map rD)) ∧ ∀ n, n < S0.length → S[n]? = S0[n]?
theorem side_at {e : End} (h : e.2 ≤ 2) : atI [D.int 1, D.int 0, D.int 2] (e.2 : Int) = some (.int ((partner e).2 : Int)) := by
  obtain ⟨t, s⟩ := e
  simp only at h ⊢
  rcases (show s = 0 ∨ s = 1 ∨ s = 2 by omega) with rfl | rfl | rfl <;> rfl
theorem joined_ok {S : Sto} {h : Nat} {ls : List Nat} {hs : Wb} {Q : D → Sto → Prop} (H : Hv S h ls hs) (J : JoinOk hs) (q : ∀ S' : Sto, (∀ n, n < S.length → S'[n]? = S[n]?) → Q (wD (joinW hs)) S') : Wp (g_l_joined [.loc h] S) Q := by
  unfold g_l_joined
  refine (wp_fnD (by rfl)).mpr ?_
  unfold b_l_joined
  have ht := H.top
  have h0 : h < S.length := sto_lt ht
  have hlen := H.len
  have hfew := J.few
  have ht1 : (S ++ [MO.dT []])[h]? = some (.lst (ls.map .loc)) := by rw [sto_app h0]; exact ht
  have lls : ∀ (r l : Nat) (x : List End), ls[r]? = some l → hs[r]? = some x → l < S.length := fun r l x a b => sto_lt (H.at_ r l x a b)
  (simp! only [len_loc ht1, List.length_map])
  refine ⟨by simp [big62]; omega, ?_⟩
  rw [Int.toNat_natCast]
  refine lo_rng 0 ls.length (I1 S hs h S.length) ⟨_, _, _, _, _, _, _, [], rfl, sto_new, ?_, by simp, fun n hn => sto_app hn⟩ ?_ ?_
  · rintro r' i' e (z | z) <;> omega
  · rintro i τ S1 hi ⟨o2, o3, o4, o5, o6, o7, o8, kvs, rfl, ha, hh, hk, hf⟩
    obtain ⟨l, hl⟩ : ∃ l, ls[i]? = some l := ⟨ls[i], List.getElem?_eq_getElem hi⟩
    obtain ⟨x, hx⟩ : ∃ x, hs[i]? = some x := ⟨hs[i], List.getElem?_eq_getElem (by omega)⟩
    have ht2 : S1[h]? = some (.lst (ls.map .loc)) := (hf h h0).trans ht
    have hl2 : S1[l]? = some (.lst (x.map eD)) := (hf l (lls i l x hl hx)).trans (H.at_ i l x hl hx)
    have at1 : atI (ls.map D.loc) (i : Int) = some (.loc l) := atI_of (by rw [List.getElem?_map, hl]; rfl)
    (simp! only [Int.zero_add, wq_sbL ht2, at1, srcE_loc hl2])
    refine lo_en l (x.map eD) (I1b S hs h S.length i) ⟨_, _, _, _, _, _, kvs, rfl, ha, hh, by omega, hf⟩ (fun j τ S' ⟨_, _, _, _, _, _, _, _, _, _, _, g⟩ => (g l (lls i l x hl hx)).trans (H.at_ i l x hl hx)) ?_ ?_
    · rintro j d τ S2 hj ⟨p3, p4, p5, p6, p7, p8, kvs2, rfl, ha2, hh2, hk2, hf2⟩
      rw [List.getElem?_map] at hj
      obtain ⟨e, he, rfl⟩ := Option.map_eq_some_iff.mp hj
      have he' : aT hs i j = some e := aT_some.mpr ⟨x, hx, he⟩
      have hjl : j < x.length := (List.getElem?_eq_some_iff.mp he).1
      have hx1 := J.less i x hx
      have st := stD_T (t := e.1) (s := e.2) (v := .tup [.int (i : Int), .int (j : Int)]) ha2 (by omega)
      (simp! only [eD, st])
      have ne : ∀ n, n < S.length → n ≠ S.length := fun n hn => by omega
      refine ⟨_, _, _, _, _, _, _, rfl, sto_set ha2, hh2.put J.dist he', ?_, fun n hn => by rw [sto_ne (by omega)]; exact hf2 n hn⟩
      exact Nat.le_trans (pt_len kvs2 (kE e) (eD (i, j))) (by omega)
    · rintro τ S2 ⟨p3, p4, p5, p6, p7, p8, kvs2, rfl, ha2, hh2, hk2, hf2⟩
      rw [List.length_map] at hh2 hk2
      have hx1 := J.less i x hx
      refine ⟨_, _, _, _, _, _, _, kvs2, rfl, ha2, ?_, by omega, hf2⟩
      rintro r' i' e (z | z) he
      · by_cases hr : r' < i
        · exact hh2 r' i' e (.inl hr) he
        · have : r' = i := by omega
          subst this
          obtain ⟨x', a1, a2⟩ := aT_some.mp he
          rw [hx] at a1; cases a1
          exact hh2 r' i' e (.inr ⟨rfl, (List.getElem?_eq_some_iff.mp a2).1⟩) he
      · omega
  · rintro τ S1 ⟨o2, o3, o4, o5, o6, o7, o8, kvs, rfl, ha, hh, hk, hf⟩
    have all : ∀ r i e, aT hs r i = some e → lk kvs (kE e) = some (eD (r, i)) := fun r i e he => by
      obtain ⟨x', a1, a2⟩ := aT_some.mp he
      have := (List.getElem?_eq_some_iff.mp a1).1
      exact hh r i e (.inl (by omega)) he
    have ht2 : S1[h]? = some (.lst (ls.map .loc)) := (hf h h0).trans ht
    have ht3 : (S1 ++ [MO.lst []])[h]? = some (.lst (ls.map .loc)) := by rw [sto_app (sto_lt ht2)]; exact ht2
    have la : S.length < S1.length := sto_lt ha
    (simp! only [src_loc ht3])
    refine lo_live h (ls.map .loc) (I2 S hs h S.length S1.length kvs) ⟨_, _, _, _, _, _, rfl, by rw [sto_app la]; exact ha, sto_new, fun n hn => by rw [sto_app (by omega)]; exact hf n hn⟩ (fun i τ S' ⟨_, _, _, _, _, _, _, _, _, g⟩ => (g h h0).trans ht) ?_ ?_
    · rintro i d τ S2 hi ⟨o2, o4, o5, o6, o7, o8, rfl, ha2, hw2, hf2⟩
      rw [List.getElem?_map] at hi
      obtain ⟨l, hl, rfl⟩ := Option.map_eq_some_iff.mp hi
      have hil : i < ls.length := (List.getElem?_eq_some_iff.mp hl).1
      obtain ⟨x, hx⟩ : ∃ x, hs[i]? = some x := ⟨hs[i], List.getElem?_eq_getElem (by omega)⟩
      have hll := lls i l x hl hx
      have hl2 : S2[l]? = some (.lst (x.map eD)) := (hf2 l hll).trans (H.at_ i l x hl hx)
      (simp! only [isLst_loc hw2, src_loc hl2])
      refine lc_live l (x.map eD) (by have := J.less i x hx; simp; omega) (I3 S hs S.length S1.length kvs i x) ⟨rfl, ha2, hw2, hf2⟩ (fun j acc S' ⟨_, _, _, g⟩ => (g l hll).trans (H.at_ i l x hl hx)) ?_ ?_
      · rintro j d acc S3 hj ⟨rfl, ha3, hw3, hf3⟩
        rw [List.getElem?_map] at hj
        obtain ⟨e, he, rfl⟩ := Option.map_eq_some_iff.mp hj
        have he' : aT hs i j = some e := aT_some.mpr ⟨x, hx, he⟩
        have hp := J.part i j e he'
        have hpos := posOf_at hp
        have hlk : lk kvs [Sum.inl (e.1 : Int), Sum.inl ((partner e).2 : Int)] = some (eD (posOf hs (partner e))) := all _ _ _ hpos
        have ha4 : (S3 ++ [MO.lst [D.int 1, D.int 0, D.int 2]])[S.length]? = some (.dT kvs) := by rw [sto_app (sto_lt ha3)]; exact ha3
        have hn4 : (S3 ++ [MO.lst [D.int 1, D.int 0, D.int 2]])[S3.length]? = some (.lst [D.int 1, D.int 0, D.int 2]) := sto_new
        (simp! only [eD, wq_sbL hn4, side_at (J.side i j e he'), wq_dgT ha4, hlk])
        refine ⟨?_, ha4, by rw [sto_app (sto_lt hw3)]; exact hw3, fun n hn => by rw [sto_app (by have := sto_lt ha3; omega)]; exact hf3 n hn⟩
        rw [List.take_succ, he, List.map_append]; rfl
      · rintro acc S3 ⟨rfl, ha3, hw3, hf3⟩
        rw [List.length_map, List.take_length]
        have hn4 : (S3 ++ [MO.lst (x.map fun e => eD (posOf hs (partner e)))])[S3.length]? = some (.lst (x.map fun e => eD (posOf hs (partner e)))) := sto_new
        have hw4 : (S3 ++ [MO.lst (x.map fun e => eD (posOf hs (partner e)))])[S1.length]? = some (.lst (((joinW hs).take i).map rD)) := by rw [sto_app (sto_lt hw3)]; exact hw3
        (simp! only [wq_tupleL hn4, wq_append hw4])
        refine ⟨by simp; omega, _, _, _, _, _, _, rfl, by rw [sto_ne (by omega), sto_app (sto_lt ha3)]; exact ha3, ?_, fun n hn => by rw [sto_ne (by omega), sto_app (by have := sto_lt ha3; omega)]; exact hf3 n hn⟩
        rw [sto_set hw4]
        have : (joinW hs)[i]? = some (x.map fun e => posOf hs (partner e)) := by unfold joinW; rw [List.getElem?_map, hx]; rfl
        rw [List.take_succ, this, List.map_append]
        simp [rD, List.map_map]
    · rintro τ S2 ⟨o2, o4, o5, o6, o7, o8, rfl, ha2, hw2, hf2⟩
      have e : (joinW hs).take (ls.map D.loc).length = joinW hs := by rw [List.take_of_length_le]; simp [joinW]; omega
      rw [e] at hw2
      (simp! only [wq_tupleL hw2])
      exact q S2 hf2
end SW
namespace SW
open PySem L2

/-- the half ties of tie t, with their rooms -/
def sidesOf (many t : Nat) (p : End) : List (End × Nat) := if p.2 = many then [((t, 2), p.1)] else [((t, 0), p.1), ((t, 1), p.2)]
def doneTo (many : Nat) (ps : List End) : Nat → List (End × Nat)
  | 0 => []
  | k + 1 => doneTo many ps k ++ (match ps[k]? with | some p => sidesOf many k p | none => [])
theorem mem_sides {many t : Nat} {p : End} {e : End} {r : Nat} (h : (e, r) ∈ sidesOf many t p) : e.1 = t := by
  unfold sidesOf at h
  split at h
  · simp at h; rw [h.1]
  · simp at h
    rcases h with h | h <;> rw [h.1]
theorem mem_done {many : Nat} {ps : List End} {e : End} {r : Nat} : ∀ {k : Nat}, (e, r) ∈ doneTo many ps k ↔ e.1 < k ∧ ∃ p, ps[e.1]? = some p ∧ (e, r) ∈ sidesOf many e.1 p
  | 0 => by simp [doneTo]
  | k + 1 => by
    simp only [doneTo, List.mem_append, mem_done (k := k)]
    constructor
    · rintro (⟨h1, h2⟩ | h)
      · exact ⟨by omega, h2⟩
      · cases hp : ps[k]? with
        | none => rw [hp] at h; simp at h
        | some p =>
          rw [hp] at h
          have := mem_sides h
          rw [this]
          exact ⟨by omega, p, hp, h⟩
    · rintro ⟨h1, p, h2, h3⟩
      by_cases hk : e.1 < k
      · exact .inl ⟨hk, p, h2, h3⟩
      · have : e.1 = k := by omega
        rw [this] at h2 h3
        rw [h2]
        exact .inr h3
theorem sides_len {many t : Nat} {p : End} : (sidesOf many t p).length ≤ 2 := by unfold sidesOf; split <;> simp
theorem done_len {many : Nat} {ps : List End} : ∀ k : Nat, (doneTo many ps k).length ≤ 2 * k
  | 0 => by simp [doneTo]
  | k + 1 => by
    simp only [doneTo, List.length_append]
    have := done_len (many := many) (ps := ps) k
    cases hp : ps[k]? with
    | none => simp; omega
    | some p => have := sides_len (many := many) (t := k) (p := p); simp only; omega
/-- lists of half ties that hold what is done, each once -/
structure HI (many : Nat) (hs : Wb) (done : List (End × Nat)) : Prop where
  len : hs.length = many
  nd : ∀ (r : Nat) (x : List End), hs[r]? = some x → x.Nodup
  cnt : ∀ (r : Nat) (x : List End), hs[r]? = some x → x.length = done.countP fun q => decide (q.2 = r)
  mem : ∀ (r : Nat) (x : List End) (e : End), hs[r]? = some x → (e ∈ x ↔ (e, r) ∈ done)
def insAt (x : List End) (i : Nat) (e : End) : List End := x.take i ++ [e] ++ x.drop i
theorem ins_perm (x : List End) (i : Nat) (e : End) : (insAt x i e).Perm (e :: x) := by
  unfold insAt
  rw [List.append_assoc]
  have := @List.perm_middle _ e (x.take i) (x.drop i)
  rw [List.take_append_drop] at this
  exact this
theorem HI.ins {many : Nat} {hs : Wb} {done : List (End × Nat)} (h : HI many hs done) {r i : Nat} {x : List End} {e : End} (hx : hs[r]? = some x) (hn : (e, r) ∉ done) : HI many (hs.set r (insAt x i e)) (done ++ [(e, r)]) := by
  have hr : r < hs.length := (List.getElem?_eq_some_iff.mp hx).1
  have hex : e ∉ x := fun m => hn ((h.mem r x e hx).mp m)
  have at_ : ∀ (r' : Nat) (y : List End), (hs.set r (insAt x i e))[r']? = some y → (r' = r ∧ y = insAt x i e) ∨ (r' ≠ r ∧ hs[r']? = some y) := fun r' y hy => by
    by_cases q : r = r'
    · subst q
      rw [List.getElem?_set_self hr] at hy
      exact .inl ⟨rfl, (Option.some.inj hy).symm⟩
    · rw [List.getElem?_set_ne q] at hy
      exact .inr ⟨fun z => q z.symm, hy⟩
  refine ⟨by simpa using h.len, fun r' y hy => ?_, fun r' y hy => ?_, fun r' y e' hy => ?_⟩
  · rcases at_ r' y hy with ⟨rfl, rfl⟩ | ⟨q, hy⟩
    · exact (ins_perm x i e).nodup_iff.mpr (List.nodup_cons.mpr ⟨hex, h.nd r' x hx⟩)
    · exact h.nd r' y hy
  · rcases at_ r' y hy with ⟨rfl, rfl⟩ | ⟨q, hy⟩
    · rw [(ins_perm x i e).length_eq, List.length_cons, h.cnt r' x hx, List.countP_append]; simp
    · rw [h.cnt r' y hy, List.countP_append]
      have : ¬ r = r' := fun z => q z.symm
      simp [this]
  · rw [List.mem_append, List.mem_singleton, Prod.mk.injEq]
    rcases at_ r' y hy with ⟨rfl, rfl⟩ | ⟨q, hy⟩
    · rw [(ins_perm x i e).mem_iff, List.mem_cons, h.mem r' x e' hx]
      constructor
      · rintro (z | z)
        · exact .inr ⟨z, rfl⟩
        · exact .inl z
      · rintro (z | z)
        · exact .inr z
        · exact .inl z.1
    · rw [h.mem r' y e' hy]
      constructor
      · exact .inl
      · rintro (z | z)
        · exact z
        · exact absurd z.2 q
/-- the ends lead back -/
def Back (w : Wb) : Prop := ∀ r i s j, aT w r i = some (s, j) → aT w s j = some (r, i)
def Adj (w : Wb) (r s : Nat) : Prop := ∃ i j, aT w r i = some (s, j)
theorem aT_join {hs : Wb} {r i : Nat} : aT (joinW hs) r i = (aT hs r i).map fun e => posOf hs (partner e) := by
  unfold aT joinW
  rw [List.getElem?_map]
  cases h : hs[r]? with
  | none => rfl
  | some x => simp
section
variable {many : Nat} {hs : Wb} {ps : List End}
theorem HI.at_ {done : List (End × Nat)} (h : HI many hs done) {e : End} {r : Nat} (hr : r < many) (hd : (e, r) ∈ done) : ∃ i, aT hs r i = some e := by
  have hr' : r < hs.length := by rw [h.len]; exact hr
  have hx : hs[r]? = some hs[r] := List.getElem?_eq_getElem hr'
  have := (h.mem r _ e hx).mpr hd
  obtain ⟨i, hi⟩ := List.getElem?_of_mem this
  exact ⟨i, aT_some.mpr ⟨_, hx, hi⟩⟩
theorem HI.of_at {done : List (End × Nat)} (h : HI many hs done) {e : End} {r i : Nat} (ha : aT hs r i = some e) : (e, r) ∈ done ∧ r < many := by
  obtain ⟨x, hx, hi⟩ := aT_some.mp ha
  exact ⟨(h.mem r x e hx).mp (List.mem_of_getElem? hi), by rw [← h.len]; exact (List.getElem?_eq_some_iff.mp hx).1⟩
theorem side_iff {t t' s r : Nat} {p : End} : (((t', s), r) : End × Nat) ∈ sidesOf many t p ↔ t' = t ∧ ((p.2 = many ∧ s = 2 ∧ r = p.1) ∨ (p.2 ≠ many ∧ ((s = 0 ∧ r = p.1) ∨ (s = 1 ∧ r = p.2)))) := by
  unfold sidesOf
  by_cases h : p.2 = many
  · rw [if_pos h]
    simp only [List.mem_singleton, Prod.mk.injEq, h, true_and, ne_eq, not_true_eq_false, false_and, or_false, and_assoc]
  · rw [if_neg h]
    simp only [List.mem_cons, List.not_mem_nil, or_false, Prod.mk.injEq, h, false_and, false_or, ne_eq, not_false_eq_true, true_and, and_assoc]
    constructor
    · rintro (⟨a, b, c⟩ | ⟨a, b, c⟩)
      · exact ⟨a, .inl ⟨b, c⟩⟩
      · exact ⟨a, .inr ⟨b, c⟩⟩
    · rintro ⟨a, ⟨b, c⟩ | ⟨b, c⟩⟩
      · exact .inl ⟨a, b, c⟩
      · exact .inr ⟨a, b, c⟩
theorem done_uniq {e : End} {r r' k : Nat} (h : (e, r) ∈ doneTo many ps k) (h' : (e, r') ∈ doneTo many ps k) : r = r' := by
  obtain ⟨_, p, hp, m⟩ := mem_done.mp h
  obtain ⟨_, p', hp', m'⟩ := mem_done.mp h'
  rw [hp] at hp'; cases hp'
  obtain ⟨t, s⟩ := e
  obtain ⟨_, m⟩ := side_iff.mp m
  obtain ⟨_, m'⟩ := side_iff.mp m'
  omega
theorem done_part {e : End} {r k : Nat} (h : (e, r) ∈ doneTo many ps k) : ∃ r', (partner e, r') ∈ doneTo many ps k := by
  obtain ⟨hk, p, hp, m⟩ := mem_done.mp h
  obtain ⟨t, s⟩ := e
  obtain ⟨_, m⟩ := side_iff.mp m
  rcases m with ⟨m1, rfl, m3⟩ | ⟨m1, ⟨rfl, m3⟩ | ⟨rfl, m3⟩⟩
  · exact ⟨p.1, mem_done.mpr ⟨hk, p, hp, side_iff.mpr ⟨rfl, .inl ⟨m1, rfl, rfl⟩⟩⟩⟩
  · exact ⟨p.2, mem_done.mpr ⟨hk, p, hp, side_iff.mpr ⟨rfl, .inr ⟨m1, .inr ⟨rfl, rfl⟩⟩⟩⟩⟩
  · exact ⟨p.1, mem_done.mpr ⟨hk, p, hp, side_iff.mpr ⟨rfl, .inr ⟨m1, .inl ⟨rfl, rfl⟩⟩⟩⟩⟩
structure PsOk (many : Nat) (ps : List End) : Prop where
  one : ∀ (t : Nat) (p : End), ps[t]? = some p → p.1 < many
  other : ∀ (t : Nat) (p : End), ps[t]? = some p → p.2 ≤ many
  few : ps.length ≤ 100
  many : many ≤ 100
theorem done_lt {e : End} {r k : Nat} (P : PsOk many ps) (h : (e, r) ∈ doneTo many ps k) : r < many ∧ e.2 ≤ 2 := by
  obtain ⟨hk, p, hp, m⟩ := mem_done.mp h
  have h1 := P.one _ p hp
  have h2 := P.other _ p hp
  obtain ⟨t, s⟩ := e
  obtain ⟨_, m⟩ := side_iff.mp m
  show r < many ∧ s ≤ 2
  omega
theorem HI.join (P : PsOk many ps) (h : HI many hs (doneTo many ps ps.length)) : JoinOk hs := by
  refine ⟨fun r i r' i' e a b => ?_, fun r i e a => ?_, fun r i e a => ?_, by rw [h.len]; exact P.many, fun r x hx => ?_⟩
  · obtain ⟨m1, l1⟩ := h.of_at a
    obtain ⟨m2, l2⟩ := h.of_at b
    have := done_uniq m1 m2
    subst this
    refine ⟨rfl, ?_⟩
    obtain ⟨x, hx, hi⟩ := aT_some.mp a
    obtain ⟨x', hx', hi'⟩ := aT_some.mp b
    rw [hx] at hx'; cases hx'
    exact (List.getElem?_inj (List.getElem?_eq_some_iff.mp hi).1 (h.nd r x hx)).mp (by rw [hi, hi'])
  · exact (done_lt P (h.of_at a).1).2
  · obtain ⟨r', m⟩ := done_part (h.of_at a).1
    obtain ⟨j, hj⟩ := h.at_ (done_lt P m).1 m
    exact ⟨(r', j), hj⟩
  · rw [h.cnt r x hx]
    refine Nat.le_trans (List.countP_le_length) (Nat.le_trans (done_len _) ?_)
    have := P.few
    omega
theorem partner_partner {e : End} (h : e.2 ≤ 2) : partner (partner e) = e := by
  obtain ⟨t, s⟩ := e
  simp only at h
  rcases (show s = 0 ∨ s = 1 ∨ s = 2 by omega) with rfl | rfl | rfl <;> rfl
theorem HI.back (P : PsOk many ps) (h : HI many hs (doneTo many ps ps.length)) : Back (joinW hs) := by
  have J := h.join P
  intro r i s j a
  rw [aT_join] at a
  obtain ⟨e, he, e2⟩ := Option.map_eq_some_iff.mp a
  have hp := posOf_at (J.part r i e he)
  rw [e2] at hp
  rw [aT_join, hp]
  show some (posOf hs (partner (partner e))) = _
  rw [partner_partner (J.side r i e he), posOf_eq J.dist he]
theorem HI.adj (P : PsOk many ps) (h : HI many hs (doneTo many ps ps.length)) {t : Nat} {p : End} (hp : ps[t]? = some p) (hm : p.2 < many) : Adj (joinW hs) p.1 p.2 := by
  have J := h.join P
  have ht : t < ps.length := (List.getElem?_eq_some_iff.mp hp).1
  have hq : ¬ p.2 = many := by omega
  have m0 : (((t, 0), p.1) : End × Nat) ∈ doneTo many ps ps.length := mem_done.mpr ⟨ht, p, hp, by unfold sidesOf; rw [if_neg hq]; simp⟩
  have m1 : (((t, 1), p.2) : End × Nat) ∈ doneTo many ps ps.length := mem_done.mpr ⟨ht, p, hp, by unfold sidesOf; rw [if_neg hq]; simp⟩
  obtain ⟨i, hi⟩ := h.at_ (P.one t p hp) m0
  obtain ⟨j, hj⟩ := h.at_ hm m1
  refine ⟨i, j, ?_⟩
  rw [aT_join, hi]
  show some (posOf hs (partner (t, 0))) = _
  have : partner (t, 0) = (t, 1) := rfl
  rw [this, posOf_eq J.dist hj]
end
end SW
namespace SW
open PySem L2

/-- the lists of half ties at L, L + 1, .., their list at L + many -/
structure Hw (S : Sto) (L many : Nat) (hs : Wb) : Prop where
  top : S[L + many]? = some (.lst ((List.range many).map fun i => .loc (L + i)))
  len : hs.length = many
  at_ : ∀ (r : Nat) (x : List End), hs[r]? = some x → S[L + r]? = some (.lst (x.map eD))
theorem Hw.hv {S : Sto} {L many : Nat} {hs : Wb} (H : Hw S L many hs) : Hv S (L + many) ((List.range many).map (L + ·)) hs := by
  refine ⟨by rw [H.top, List.map_map]; rfl, by simp [H.len], fun r l x a b => ?_⟩
  rw [List.getElem?_map] at a
  obtain ⟨i, h1, h2⟩ := Option.map_eq_some_iff.mp a
  have hr : r < many := by rw [← H.len]; exact (List.getElem?_eq_some_iff.mp b).1
  rw [List.getElem?_range hr] at h1
  cases h1
  rw [← h2]
  exact H.at_ r x b
theorem Hw.of {S S' : Sto} {L many : Nat} {hs : Wb} (H : Hw S L many hs) (k : ∀ n, L ≤ n → n < S.length → S'[n]? = S[n]?) : Hw S' L many hs :=
  ⟨(k _ (by omega) (sto_lt H.top)).trans H.top, H.len, fun r x a => (k _ (by omega) (sto_lt (H.at_ r x a))).trans (H.at_ r x a)⟩
theorem Hw.ins {S : Sto} {L many : Nat} {hs : Wb} (H : Hw S L many hs) {r : Nat} {x y : List End} (hx : hs[r]? = some x) : Hw (S.set (L + r) (.lst (y.map eD))) L many (hs.set r y) := by
  have hr : r < hs.length := (List.getElem?_eq_some_iff.mp hx).1
  have hl := H.len
  refine ⟨by rw [sto_ne (by omega)]; exact H.top, by simpa using hl, fun r' z hz => ?_⟩
  by_cases q : r = r'
  · subst q
    rw [List.getElem?_set_self hr] at hz
    cases hz
    exact sto_set (H.at_ r x hx)
  · rw [List.getElem?_set_ne q] at hz
    rw [sto_ne (by omega)]
    exact H.at_ r' z hz
def putT : EvS := exS (mE insertM (b2E sbD (vE 3) (vE 6)) (consA (aE g_l_take (consA (vE 0) (consA (b2E addD (aE lenD (consA (b2E sbD (vE 3) (vE 6)) nilA)) (cE (.int 1))) nilA))) (consA (aE tupD (consA (vE 4) (consA (vE 9) nilA))) nilA)))
theorem ins_map (x : List End) (v : Nat) (e : End) : (x.map eD).take v ++ [eD e] ++ (x.map eD).drop v = (insAt x v e).map eD := by simp [insAt, List.map_take, List.map_drop]
/-- one half tie is put in -/
theorem put_turn {S : Sto} {b p L many c t r s : Nat} {hs : Wb} {x : List End} {done : List (End × Nat)} {o1 o5 o7 o8 : Option D} {Q : Out → Sto → Prop} (hb : Bx S b c) (hc : c < 900000) (H : Hw S L many hs) (hL : b < L) (I : HI many hs done) (hd : done.length ≤ 1000) (hn : (((t, s), r) : End × Nat) ∉ done) (hr : r < many)
    (q : ∀ (S' : Sto) (hs' : Wb), Bx S' b (c + 1) → Hw S' L many hs' → HI many hs' (done ++ [((t, s), r)]) → S'.length = S.length → (∀ n, n < L → n ≠ b → S'[n]? = S[n]?) → (∀ n, L + many < n → S'[n]? = S[n]?) → Q (.nx [some (.loc b), o1, some (.int (many : Int)), some (.loc (L + many)), some (.int (t : Int)), o5, some (.int (r : Int)), o7, o8, some (.int (s : Int))]) S') :
    Wp (putT [some (.loc b), o1, some (.int (many : Int)), some (.loc (L + many)), some (.int (t : Int)), o5, some (.int (r : Int)), o7, o8, some (.int (s : Int))] S) Q := by
  have hl := H.len
  have hx : hs[r]? = some hs[r] := List.getElem?_eq_getElem (by omega)
  generalize hs[r]'(by omega) = x at hx
  have ht := H.top
  have hrl := H.at_ r x hx
  have at1 : atI ((List.range many).map fun i => D.loc (L + i)) (r : Int) = some (.loc (L + r)) := atI_of (by rw [List.getElem?_map, List.getElem?_range hr]; rfl)
  have hxl : x.length ≤ 1000 := by rw [I.cnt r x hx]; exact Nat.le_trans List.countP_le_length hd
  unfold putT
  (simp! only [wq_sbL ht, at1, isLst_loc hrl, len_loc hrl, List.length_map])
  have e1 : ((x.length : Int) + 1) = ((x.length + 1 : Nat) : Int) := by omega
  rw [e1]
  refine take_ok hb (by omega) (by omega) (by omega) fun v S1 hv hb1 hl1 hf1 => ?_
  have hrl1 : S1[L + r]? = some (.lst (x.map eD)) := (hf1 _ (by omega)).trans hrl
  (simp! only [wq_insert hrl1 (show v < 1000000 by omega)])
  refine ⟨by simp; omega, ?_⟩
  have em : (x.map eD).take v ++ [D.tup [D.int (t : Int), D.int (s : Int)]] ++ (x.map eD).drop v = (insAt x v (t, s)).map eD := ins_map x v (t, s)
  rw [em]
  have H1 : Hw S1 L many hs := H.of fun n h1 h2 => hf1 n (by omega)
  refine q _ _ (hb1.of (sto_ne (by omega))) (H1.ins hx) (I.ins hx hn) (by simpa using hl1) (fun n hn hnb => by rw [sto_ne (by omega)]; exact hf1 n hnb) (fun n hn => by rw [sto_ne (by omega)]; exact hf1 n (by omega))
def PJ (S0 : Sto) (b p many z : Nat) (ps : List End) (k : Nat) (τ : Tau) (S : Sto) : Prop := ∃ hs o4 o5 o6 o7 o8 o9, τ = [some (.loc b), some (.loc p), some (.int (many : Int)), some (.loc (S0.length + many)), o4, o5, o6, o7, o8, o9] ∧ HI many hs (doneTo many ps k) ∧ Hw S S0.length many hs ∧ Bx S b (z + 2 * k) ∧ Fr S0 S b
def sdD (x : End × Nat) : D := .tup [.int (x.2 : Int), .int (x.1.2 : Int)]
theorem sto_more {S S' : Sto} (h : ∀ n, n < S.length → S'[n]? = S[n]?) : S.length ≤ S'.length := by
  rcases Nat.eq_zero_or_pos S.length with z | z
  · omega
  · have := h (S.length - 1) (by omega)
    rw [List.getElem?_eq_getElem (l := S) (by omega)] at this
    have h2 := sto_lt this
    omega
theorem wp_eqI {i j : Int} {S : Sto} {Q : D → Sto → Prop} : Wp (eqD (.int i) (.int j) S) Q ↔ Q (.bl (decide (i = j))) S := by
  have e : eqD (.int i) (.int j) S = some (.bl (decide (i = j)), S) := by
    have : PyData.eqv (.int i) (.int j) = decide (i = j) := by
      by_cases h : i = j
      · subst h; simp [PyData.eqv]
      · simp [PyData.eqv, h]
    show (some (D.bl (PyData.eqv (.int i) (.int j)), S)) = _
    rw [this]
  rw [e]; exact wp_some
def PJ2 (S0 : Sto) (b p many z k n : Nat) (done sd : List (End × Nat)) (i : Nat) (τ : Tau) (S : Sto) : Prop := ∃ hs o5 o6 o7 o8 o9, τ = [some (.loc b), some (.loc p), some (.int (many : Int)), some (.loc (S0.length + many)), some (.int (k : Int)), o5, o6, o7, o8, o9] ∧ HI many hs (done ++ sd.take i) ∧ Hw S S0.length many hs ∧ Bx S b (z + 2 * k + i) ∧ Fr S0 S b ∧ S[n]? = some (.lst (sd.map sdD)) ∧ S0.length + many < n
theorem sides_loop {S0 S : Sto} {b p many z k : Nat} {ps : List End} {e : End} {Q : Out → Sto → Prop} {hs : Wb} {o5 o6 o7 o8 o9 : Option D} (hk : ps[k]? = some e) (P : PsOk many ps) (hz : z < 800000) (hbl : b < S0.length)
    (I : HI many hs (doneTo many ps k)) (H : Hw S S0.length many hs) (hb : Bx S b (z + 2 * k)) (fr : Fr S0 S b) :
    ∃ s, srcOf (.loc S.length) (S ++ [MO.lst ((sidesOf many k e).map sdD)]) = some s ∧ Wp (loE s (Pat.tp [.nm 6, .nm 9]).bind putT s.len 0 [some (.loc b), some (.loc p), some (.int (many : Int)), some (.loc (S0.length + many)), some (.int (k : Int)), o5, o6, o7, o8, o9] (S ++ [MO.lst ((sidesOf many k e).map sdD)])) (LoopQ (PJ S0 b p many z ps (k + 1)) Q) := by
  have hkl : k < ps.length := (List.getElem?_eq_some_iff.mp hk).1
  have hfew := P.few
  have hone := P.one k e hk
  have hoth := P.other k e hk
  have hdl := done_len (many := many) (ps := ps) k
  have hsl := sides_len (many := many) (t := k) (p := e)
  have fresh : ∀ s r : Nat, (((k, s), r) : End × Nat) ∉ doneTo many ps k := fun s r hm => by have := (mem_done.mp hm).1; simp at this
  have hdk : doneTo many ps (k + 1) = doneTo many ps k ++ sidesOf many k e := by simp only [doneTo, hk]
  have hnd : (sidesOf many k e).Nodup := by unfold sidesOf; split <;> simp
  have hr : ∀ t s r, (((t, s), r) : End × Nat) ∈ sidesOf many k e → t = k ∧ r < many := fun t s r hm => by
    have := side_iff.mp hm
    omega
  have hlen : S0.length + many < S.length := sto_lt H.top
  generalize sidesOf many k e = sd at *
  refine ⟨_, src_loc sto_new, ?_⟩
  refine lo_live S.length (sd.map sdD) (PJ2 S0 b p many z k S.length (doneTo many ps k) sd) ?_ (fun i τ S' ⟨_, _, _, _, _, _, _, _, _, _, _, h, _⟩ => h) ?_ ?_
  · refine ⟨hs, _, _, _, _, _, rfl, by simpa using I, H.of fun n h1 h2 => sto_app h2, hb.of (sto_app hb.lt), fr.trans (Fr.app _ _ _), sto_new, hlen⟩
  · rintro i d τ S' hi ⟨hs', o5', o6', o7', o8', o9', rfl, I', H', hb', fr', hn', hl'⟩
    rw [List.getElem?_map] at hi
    obtain ⟨⟨⟨t, s⟩, r⟩, hx, rfl⟩ := Option.map_eq_some_iff.mp hi
    have hil : i < sd.length := (List.getElem?_eq_some_iff.mp hx).1
    obtain ⟨rfl, hrm⟩ := hr t s r (List.mem_of_getElem? hx)
    unfold sdD
    (simp! only [])
    have htk : sd.take (i + 1) = sd.take i ++ [((t, s), r)] := by rw [List.take_add_one, hx]; rfl
    refine put_turn (c := z + 2 * t + i) (L := S0.length) (x := []) (p := p) hb' (by omega) H' hbl I' (by simp; omega) ?_ hrm ?_
    · intro hm
      rcases List.mem_append.mp hm with hm | hm
      · exact fresh _ _ hm
      · have := htk ▸ (List.take_sublist (i + 1) sd).nodup hnd
        rw [List.nodup_append] at this
        exact this.2.2 _ hm _ (List.mem_singleton.mpr rfl) rfl
    · intro S'' hs'' hb'' H'' I'' l'' f1 f2
      refine ⟨hs'', _, _, _, _, _, rfl, by rw [htk, ← List.append_assoc]; exact I'', H'', hb'', ⟨by rw [l'']; exact fr'.len, fun n hn hnb => (f1 n hn hnb).trans (fr'.at_ n hn hnb)⟩, (f2 _ hl').trans hn', hl'⟩
  · rintro τ S' ⟨hs', o5', o6', o7', o8', o9', rfl, I', H', hb', fr', hn', hl'⟩
    rw [List.length_map] at I' hb'
    rw [List.take_length, ← hdk] at I'
    exact ⟨hs', _, _, _, _, _, _, rfl, I', H', hb'.le (by omega), fr'⟩
def PC (S0 : Sto) (j : Nat) (acc : List D) (S : Sto) : Prop := acc = (List.range j).map (fun i => D.loc (S0.length + i)) ∧ S.length = S0.length + j ∧ (∀ n, n < S0.length → S[n]? = S0[n]?) ∧ ∀ i, i < j → S[S0.length + i]? = some (.lst [])
theorem put_ok {S : Sto} {b p z many : Nat} {ps : List End} {Q : D → Sto → Prop} (hb : Bx S b z) (hz : z < 800000) (hp : S[p]? = some (.lst (ps.map eD))) (hpb : p ≠ b) (P : PsOk many ps)
    (q : ∀ (S' : Sto) (hs : Wb), HI many hs (doneTo many ps ps.length) → Bx S' b (z + 200) → Fr S S' b → Q (wD (joinW hs)) S') : Wp (g_l_doors_put [.loc b, .loc p, .int many] S) Q := by
  unfold g_l_doors_put
  refine (wp_fnD (by rfl)).mpr ?_
  unfold b_l_doors_put
  have hm := P.many
  have hpl : p < S.length := sto_lt hp
  have hbl : b < S.length := hb.lt
  (simp! only [])
  refine ⟨by simp [big62]; omega, ?_⟩
  rw [Int.toNat_natCast]
  refine lc_rng 0 many (by omega) (PC S) ⟨rfl, rfl, fun _ _ => rfl, fun i hi => by omega⟩ ?_ ?_
  · rintro i acc S1 hi ⟨rfl, hl, hf, hn⟩
    (simp! only [])
    refine ⟨?_, by simp; omega, fun n hn' => by rw [sto_app (by omega)]; exact hf n hn', fun j hj => ?_⟩
    · rw [List.range_succ, List.map_append]; simp [hl]
    · by_cases q : j = i
      · subst q; rw [← hl]; exact sto_new
      · rw [sto_app (by omega)]; exact hn j (by omega)
  · rintro acc S1 ⟨rfl, hl, hf, hn⟩
    have hp2 : (S1 ++ [MO.lst ((List.range many).map fun i => D.loc (S.length + i))])[p]? = some (.lst (ps.map eD)) := by rw [sto_app (by omega), hf p hpl]; exact hp
    (simp! only [srcE_loc hp2])
    rw [hl]
    refine lo_en p (ps.map eD) (PJ S b p many z ps) ⟨List.replicate many [], _, _, _, _, _, _, rfl, ?_, ?_, ?_, ?_⟩ (fun i τ S' ⟨hs, _, _, _, _, _, _, _, _, _, _, f⟩ => f.get hpb hp) ?_ ?_
    · refine ⟨by simp, fun r x hx => ?_, fun r x hx => ?_, fun r x e hx => ?_⟩
      all_goals
        rw [List.getElem?_replicate] at hx
        split at hx
        · cases hx
          simp [doneTo]
        · cases hx
    · refine ⟨by rw [← hl]; exact sto_new, by simp, fun r x hx => ?_⟩
      rw [List.getElem?_replicate] at hx
      split at hx
      · cases hx
        rw [sto_app (by omega)]
        exact hn r (by assumption)
      · cases hx
    · refine hb.of ?_
      rw [sto_app (by omega), hf b hbl]
    · exact ⟨by simp; omega, fun n hn' _ => by rw [sto_app (by omega)]; exact hf n hn'⟩
    · rintro k d τ S2 hk ⟨hs, o4, o5, o6, o7, o8, o9, rfl, I, H, hb2, fr⟩
      rw [List.getElem?_map] at hk
      obtain ⟨e, he, rfl⟩ := Option.map_eq_some_iff.mp hk
      have hkl : k < ps.length := (List.getElem?_eq_some_iff.mp he).1
      have hfew := P.few
      have hone := P.one k e he
      have hoth := P.other k e he
      have hdl := done_len (many := many) (ps := ps) k
      have fresh : ∀ s r : Nat, (((k, s), r) : End × Nat) ∉ doneTo many ps k := fun s r hm => by have := (mem_done.mp hm).1; simp at this
      have hdk : doneTo many ps (k + 1) = doneTo many ps k ++ sidesOf many k e := by simp only [doneTo, he]
      (simp! only [eD])
      rw [wp_eqI]
      refine ⟨_, rfl, ?_⟩
      have heq : decide ((e.2 : Int) = (many : Int)) = decide (e.2 = many) := by
        by_cases h : e.2 = many
        · rw [decide_eq_true h, decide_eq_true (by omega)]
        · rw [decide_eq_false h, decide_eq_false (by omega)]
      rw [heq]
      by_cases hq : e.2 = many
      · rw [decide_eq_true hq]
        have hsd : [D.tup [.int (e.1 : Int), .int 2]] = (sidesOf many k e).map sdD := by unfold sidesOf; rw [if_pos hq]; rfl
        simp only [if_true]
        rw [hsd]
        exact sides_loop he P hz hbl I H hb2 fr
      · rw [decide_eq_false hq]
        have hsd : [D.tup [.int (e.1 : Int), .int 0], D.tup [.int (e.2 : Int), .int 1]] = (sidesOf many k e).map sdD := by unfold sidesOf; rw [if_neg hq]; rfl
        simp only [Bool.false_eq_true, if_false]
        rw [hsd]
        exact sides_loop he P hz hbl I H hb2 fr
    · rintro τ S2 ⟨hs, o4, o5, o6, o7, o8, o9, rfl, I, H, hb2, fr⟩
      rw [List.length_map] at I hb2
      (simp! only [])
      refine joined_ok H.hv (I.join P) fun S3 hf3 => ?_
      have hfew := P.few
      have l2 := fr.len
      have hbs : b < S2.length := hb2.lt
      refine q S3 hs I ((hb2.le (by omega)).of (hf3 b hbs)) ⟨?_, fun n hn hnb => ?_⟩
      · exact Nat.le_trans l2 (sto_more hf3)
      · rw [hf3 n (by omega)]; exact fr.at_ n hn hnb
end SW
namespace SW
open PySem L2

def nD (n : Nat) : D := .int (n : Int)
theorem at_last {ds : List D} {d : D} : atI (ds ++ [d]) (-1) = some d := by
  unfold atI ixN
  rw [if_neg (by omega), if_pos (by simp; omega)]
  have : ((-1 : Int) + ((ds ++ [d]).length : Nat)).toNat = ds.length := by simp; omega
  rw [this]
  show (ds ++ [d])[ds.length]? = _
  simp
theorem at_lastI {ds : List D} {d : D} {i : Int} (h : i = -1) : atI (ds ++ [d]) i = some d := by subst h; exact at_last
theorem ixN_nat {n i : Nat} (h : i < n) : ixN n (i : Int) = some i := by
  unfold ixN
  rw [if_pos (by omega), if_pos (by omega)]
  simp
/-! a list of numbers told by a function -/
def uD (many : Nat) (c : Nat → Nat) : MO := .lst ((List.range many).map fun r => nD (c r))
theorem uD_at {many e : Nat} {c : Nat → Nat} (h : e < many) : atI ((List.range many).map fun r => nD (c r)) (e : Int) = some (.int (c e)) := atI_of (by rw [List.getElem?_map, List.getElem?_range h]; rfl)
theorem mapR_set {many e : Nat} {c : Nat → Nat} {v : Nat} : ((List.range many).map fun r => nD (c r)).set e (nD v) = (List.range many).map fun r => nD (if r = e then v else c r) := by
  apply List.ext_getElem?
  intro i
  by_cases h : e = i
  · subst h
    by_cases hi : e < many
    · rw [List.getElem?_set_self (by simpa using hi), List.getElem?_map, List.getElem?_range hi]; simp
    · rw [List.getElem?_eq_none_iff.mpr (by simp; omega), List.getElem?_eq_none_iff.mpr (by simp; omega)]
  · rw [List.getElem?_set_ne h, List.getElem?_map, List.getElem?_map]
    by_cases hi : i < many
    · rw [List.getElem?_range hi]
      have : ¬ i = e := fun z => h z.symm
      simp [this]
    · rw [List.getElem?_eq_none_iff.mpr (by simpa using hi)]; rfl
theorem uD_congr {many : Nat} {c c' : Nat → Nat} (h : ∀ r, r < many → c r = c' r) : uD many c = uD many c' := by
  unfold uD
  congr 1
  apply List.map_congr_left
  intro r hr
  rw [h r (List.mem_range.mp hr)]
def bumpT : EvS := asS (b2E addD (b2E sbD (vE 3) (vE 8)) (cE (.int 1))) (subG (vE 3) (vE 8))
theorem bump_turn {τ : Tau} {S : Sto} {u e many : Nat} {c : Nat → Nat} {Q : Out → Sto → Prop} (h : S[u]? = some (uD many c)) (he : e < many) (h3 : τ[3]? = some (some (.loc u))) (h8 : τ[8]? = some (some (nD e)))
    (q : Q (.nx τ) (S.set u (uD many fun r => if r = e then c r + 1 else c r))) : Wp (bumpT τ S) Q := by
  unfold uD at h
  have h' := h
  unfold bumpT
  (simp! only [h3, h8, nD, wq_sbL h, stD_L h, ixN_nat])
  simp only [nD] at h h'
  refine ⟨_, uD_at he, ?_⟩
  (simp! only [stD_L h])
  refine ⟨_, by rw [ixN_nat (by simpa using he)]; rfl, ?_⟩
  have e1 : ((c e : Int) + 1) = ((c e + 1 : Nat) : Int) := by omega
  rw [e1]
  have e2 := @mapR_set many e c (c e + 1)
  simp only [nD] at e2
  show Q _ (S.set u (.lst (List.set _ e _)))
  rw [e2]
  have e3 : (fun r => D.int ((if r = e then c e + 1 else c r : Nat) : Int)) = fun r => nD (if r = e then c r + 1 else c r) := by
    funext r
    by_cases z : r = e
    · subst z; simp [nD]
    · simp [z, nD]
  rw [e3]
  exact q
def BumpI (S0 : Sto) (u many : Nat) (c : Nat → Nat) (xs : List Nat) (τ0 : Tau) (i : Nat) (τ : Tau) (S : Sto) : Prop := (∃ o, τ = τ0.set 8 o) ∧ S[u]? = some (uD many fun r => c r + (xs.take i).count r) ∧ S.length = S0.length ∧ ∀ n, n ≠ u → S[n]? = S0[n]?
theorem bump_lo {s : Src} {τ0 : Tau} {S : Sto} {u many : Nat} {c : Nat → Nat} {xs : List Nat} {Q : Out → Sto → Prop} (h : S[u]? = some (uD many c)) (hx : ∀ e ∈ xs, e < many) (h3 : τ0[3]? = some (some (.loc u))) (hl8 : 8 < τ0.length)
    (hl : s.len = xs.length) (hg : ∀ S' : Sto, (∀ n, n ≠ u → S'[n]? = S[n]?) → ∀ i d, (xs.map nD)[i]? = some d → s.get S' i = some d) (hf : ∀ S' : Sto, (∀ n, n ≠ u → S'[n]? = S[n]?) → s.fin S' = true)
    (q : ∀ (o : Option D) (S' : Sto), S'[u]? = some (uD many fun r => c r + xs.count r) → S'.length = S.length → (∀ n, n ≠ u → S'[n]? = S[n]?) → Q (.nx (τ0.set 8 o)) S') : Wp (loE s (Pat.nm 8).bind bumpT s.len 0 τ0 S) Q := by
  refine wp_lo s (xs.map nD) _ _ (BumpI S u many c xs τ0) (fun i d τ S' hd hI => hg S' hI.2.2.2 i d hd) (fun τ S' hI => hf S' hI.2.2.2) ?_ ?_ _ 0 τ0 S (by simp [hl]) ⟨⟨τ0[8], by simp⟩, by simpa using h, rfl, fun _ _ => rfl⟩
  · rintro i d τ S' hd ⟨⟨o, rfl⟩, hu, hlen, hfr⟩
    rw [List.getElem?_map] at hd
    obtain ⟨e, he, rfl⟩ := Option.map_eq_some_iff.mp hd
    have hem := hx e (List.mem_of_getElem? he)
    refine ⟨(τ0.set 8 o).set 8 (some (nD e)), pb_nm, ?_⟩
    rw [List.set_set]
    refine bump_turn hu hem (by rw [List.getElem?_set_ne (by omega)]; exact h3) (List.getElem?_set_self hl8) ?_
    refine ⟨⟨_, rfl⟩, ?_, by simpa using hlen, fun n hn => by rw [sto_ne (by omega)]; exact hfr n hn⟩
    rw [sto_set hu]
    congr 1
    apply uD_congr
    intro r hr
    rw [List.take_add_one, he, List.count_append]
    by_cases z : r = e
    · subst z; simp; omega
    · have : ¬ e = r := fun y => z y.symm
      simp [z, this]
  · rintro τ S' ⟨⟨o, rfl⟩, hu, hlen, hfr⟩
    rw [List.length_map, List.take_length] at hu
    exact q o S' hu hlen hfr
/-! how many half ties a room has -/
def cR (many : Nat) (ps : List End) (r : Nat) : Nat := (doneTo many ps ps.length).countP fun q => decide (q.2 = r)
def endsOf (many : Nat) (p : End) : List Nat := [p.1, p.2].filter fun x => decide (x < many)
theorem done_app {many : Nat} {ps : List End} {p : End} : ∀ k, k ≤ ps.length → doneTo many (ps ++ [p]) k = doneTo many ps k
  | 0, _ => rfl
  | k + 1, h => by
    simp only [doneTo]
    rw [done_app k (by omega), List.getElem?_append_left (by omega)]
theorem cR_app {many : Nat} {ps : List End} {p : End} {r : Nat} (hr : r < many) (h1 : p.1 < many) (h2 : p.2 ≤ many) : cR many (ps ++ [p]) r = cR many ps r + (endsOf many p).count r := by
  unfold cR
  have e : doneTo many (ps ++ [p]) (ps ++ [p]).length = doneTo many ps ps.length ++ sidesOf many ps.length p := by
    rw [List.length_append]
    show doneTo many (ps ++ [p]) ps.length ++ _ = _
    rw [done_app _ (Nat.le_refl _)]
    simp
  rw [e, List.countP_append]
  congr 1
  unfold sidesOf endsOf
  by_cases hq : p.2 = many
  · rw [if_pos hq]
    simp [hq, h1, List.count_cons]
  · have h3 : p.2 < many := by omega
    rw [if_neg hq]
    simp only [List.filter_cons, h1, h3, decide_true, if_true, List.filter_nil, List.countP_cons, List.countP_nil, List.count_cons, List.count_nil, beq_iff_eq, decide_eq_true_eq]
theorem cR_nil {many r : Nat} : cR many [] r = 0 := rfl
/-- numbers below m, counted one by one, are no more than all -/
theorem sum_cnt {α : Type} (f : α → Nat) (l : List α) : ∀ m : Nat, (((List.range m).map fun r => l.countP fun q => decide (f q = r)).sum) = l.countP fun q => decide (f q < m)
  | 0 => by simp
  | m + 1 => by
    rw [List.range_succ, List.map_append, List.sum_append, sum_cnt f l m]
    simp only [List.map_cons, List.map_nil, List.sum_cons, List.sum_nil, Nat.add_zero]
    induction l with
    | nil => rfl
    | cons a l ih =>
      simp only [List.countP_cons]
      have : (if decide (f a < m + 1) = true then 1 else 0) = (if decide (f a < m) = true then 1 else 0) + (if decide (f a = m) = true then 1 else 0) := by
        by_cases h1 : f a < m
        · have h2 : ¬ f a = m := by omega
          have h3 : f a < m + 1 := by omega
          simp [h1, h2, h3]
        · by_cases h2 : f a = m
          · simp [h2]
          · have h3 : ¬ f a < m + 1 := by omega
            simp [h1, h2, h3]
      omega
theorem sum_ge {m k : Nat} {f : Nat → Nat} (h : ∀ r, r < m → k ≤ f r) : m * k ≤ ((List.range m).map f).sum := by
  induction m with
  | zero => simp
  | succ m ih =>
    rw [List.range_succ, List.map_append, List.sum_append]
    have := ih fun r hr => h r (by omega)
    have h2 := h m (by omega)
    simp only [List.map_cons, List.map_nil, List.sum_cons, List.sum_nil]
    rw [Nat.succ_mul]
    omega
/-- a room that is free: the tree of i rooms has i - 1 ties -/
theorem free_ex {many most i : Nat} {ps : List End} (hl : ps.length < i) (hm : 2 ≤ most) : ∃ r, r < i ∧ cR many ps r < most := by
  by_cases h : ∃ r, r < i ∧ cR many ps r < most
  · exact h
  · exfalso
    have all : ∀ r, r < i → 2 ≤ cR many ps r := fun r hr => by
      by_cases z : cR many ps r < most
      · exact absurd ⟨r, hr, z⟩ h
      · omega
    have h1 := sum_ge all
    have h2 := sum_cnt (fun q : End × Nat => q.2) (doneTo many ps ps.length) i
    have h3 : (doneTo many ps ps.length).countP (fun q => decide (q.2 < i)) ≤ (doneTo many ps ps.length).length := List.countP_le_length
    have h4 := done_len (many := many) (ps := ps) ps.length
    unfold cR at h1
    omega
end SW
namespace SW
open PySem L2

inductive Con (w : Wb) : Nat → Prop
  | zero : Con w 0
  | step {r s : Nat} : Con w r → Adj w r s → Con w s
/-- a web: its ends lead back, it hangs together -/
structure IsWeb (w : Wb) : Prop where
  back : Back w
  pos : 0 < w.length
  few : w.length ≤ 24
  doors : ∀ (r : Nat) (x : List End), w[r]? = some x → x.length ≤ 6
  con : ∀ r, r < w.length → Con w r
/-- ties so far: their store, their counts, a tree on the rooms below k -/
structure WB (S0 S : Sto) (b many most z k : Nat) (ps : List End) : Prop where
  us : S[S0.length + 1]? = some (uD many (cR many ps))
  pr : S[S0.length + 2]? = some (.lst (ps.map eD))
  one : ∀ (t : Nat) (p : End), ps[t]? = some p → p.1 < many
  other : ∀ (t : Nat) (p : End), ps[t]? = some p → p.2 ≤ many
  low : ∀ r, r < many → cR many ps r ≤ most
  bx : Bx S b z
  fr : Fr S0 S b
  len : S0.length + 3 ≤ S.length
  tree : ∀ r, 0 < r → r < k → ∃ (t : Nat) (p : End), ps[t]? = some p ∧ p.2 = r ∧ p.1 < r
def W1 (S0 : Sto) (b many most z : Nat) (i : Nat) (τ : Tau) (S : Sto) : Prop := ∃ (ps : List End) (o5 o6 o7 o8 o9 o10 o11 : Option D), τ = [some (.loc b), some (.int (many : Int)), some (.int (most : Int)), some (.loc (S0.length + 1)), some (.loc (S0.length + 2)), o5, o6, o7, o8, o9, o10, o11] ∧ WB S0 S b many most (z + i) (i + 1) ps ∧ ps.length = i ∧ ∀ r, i + 1 ≤ r → r < many → cR many ps r = 0
def W2 (S0 : Sto) (b many most z : Nat) (i : Nat) (τ : Tau) (S : Sto) : Prop := ∃ (ps : List End) (o5 o6 o7 o8 o9 o10 o11 : Option D), τ = [some (.loc b), some (.int (many : Int)), some (.int (most : Int)), some (.loc (S0.length + 1)), some (.loc (S0.length + 2)), o5, o6, o7, o8, o9, o10, o11] ∧ WB S0 S b many most (z + 2 * i) many ps ∧ ps.length ≤ 24 + i
def freeL (many most k : Nat) (ps : List End) : List Nat := (List.range k).filter fun r => decide (cR many ps r < most)
def FI (S1 : Sto) (many most : Nat) (ps : List End) (k : Nat) (acc : List D) (S : Sto) : Prop := acc = (freeL many most k ps).map nD ∧ S = S1
/-- one more tie -/
theorem WB.add {S0 S : Sto} {b many most z k : Nat} {ps : List End} (h : WB S0 S b many most z k ps) (hb : b < S0.length) {p : End} (h1 : p.1 < many) (h2 : p.2 ≤ many) (hl : ∀ r, r < many → cR many ps r + (endsOf many p).count r ≤ most) {S' : Sto} {z' k' : Nat}
    (hu : S'[S0.length + 1]? = some (uD many fun r => cR many ps r + (endsOf many p).count r)) (hp : S'[S0.length + 2]? = some (.lst ((ps ++ [p]).map eD))) (hbx : Bx S' b z') (fr : Fr S0 S' b) (hlen : S0.length + 3 ≤ S'.length)
    (ht : ∀ r, 0 < r → r < k' → r < k ∨ (p.2 = r ∧ p.1 < r)) : WB S0 S' b many most z' k' (ps ++ [p]) := by
  have get : ∀ (t : Nat) (x : End), (ps ++ [p])[t]? = some x → ps[t]? = some x ∨ x = p := fun t x hx => by
    rw [List.getElem?_append] at hx
    split at hx
    · exact .inl hx
    · exact .inr (List.mem_singleton.mp (List.mem_of_getElem? hx))
  refine ⟨?_, hp, fun t x hx => ?_, fun t x hx => ?_, fun r hr => ?_, hbx, fr, hlen, fun r r0 hr => ?_⟩
  · rw [hu]
    congr 1
    exact uD_congr fun r hr => (cR_app hr h1 h2).symm
  · rcases get t x hx with q | rfl
    · exact h.one t x q
    · exact h1
  · rcases get t x hx with q | rfl
    · exact h.other t x q
    · exact h2
  · rw [cR_app hr h1 h2]; exact hl r hr
  · rcases ht r r0 hr with q | q
    · obtain ⟨t, x, hx, h3⟩ := h.tree r r0 q
      exact ⟨t, x, by rw [List.getElem?_append_left (List.getElem?_eq_some_iff.mp hx).1]; exact hx, h3⟩
    · exact ⟨ps.length, p, by simp, q⟩
def treeB : EvS := (seqS (stS 7 (lcE (rgI1 (vE 5)) (.nm 11) (tB (b2E ltD (b2E sbD (vE 3) (vE 11)) (vE 2))) (vE 11) [11]))
  (seqS (exS (mE appendM (vE 4) (consA (aE tupD (consA (b2E sbD (vE 7) (aE g_l_take (consA (vE 0) (consA (aE lenD (consA (vE 7) nilA)) nilA)))) (consA (vE 5) nilA))) nilA)))
  (forS (sqI (b2E sbD (vE 4) (u1E negD (cE (.int 1))))) (.nm 8) bumpT)))
theorem freeL_lt {many most k : Nat} {ps : List End} {e : Nat} (h : e ∈ freeL many most k ps) : e < k ∧ cR many ps e < most := by
  unfold freeL at h
  rw [List.mem_filter] at h
  exact ⟨List.mem_range.mp h.1, of_decide_eq_true h.2⟩
theorem freeL_len {many most k : Nat} {ps : List End} : (freeL many most k ps).length ≤ k := by
  unfold freeL
  exact Nat.le_trans (List.length_filter_le _ _) (by simp)
theorem endsOf_two {many : Nat} {p : End} (h1 : p.1 < many) (h2 : p.2 < many) : endsOf many p = [p.1, p.2] := by
  unfold endsOf; simp [h1, h2]
theorem tree_turn {S0 S : Sto} {b many most z i : Nat} {ps : List End} {o6 o7 o8 o9 o10 o11 : Option D} {Q : Out → Sto → Prop} (W : WB S0 S b many most (z + i) (i + 1) ps) (hl : ps.length = i) (hc : ∀ r, i + 1 ≤ r → r < many → cR many ps r = 0) (hi : i + 1 < many) (hb : b < S0.length) (hm2 : many ≤ 24) (hmo : 2 ≤ most) (hz : z < 700000) :
    Wp (treeB [some (.loc b), some (.int (many : Int)), some (.int (most : Int)), some (.loc (S0.length + 1)), some (.loc (S0.length + 2)), some (.int ((i + 1 : Nat) : Int)), o6, o7, o8, o9, o10, o11] S) (LoopQ (W1 S0 b many most z (i + 1)) Q) := by
  have hu := W.us
  have hp := W.pr
  have hlen := W.len
  unfold treeB
  (simp! only [])
  refine ⟨by simp [big62]; omega, ?_⟩
  rw [Int.toNat_natCast]
  refine lc_rng 0 (i + 1) (by omega) (FI S many most ps) ⟨rfl, rfl⟩ ?_ ?_
  · rintro k acc S1 hk ⟨rfl, rfl⟩
    have e0 : ((0 : Int) + (k : Int)) = (k : Int) := by omega
    rw [e0]
    have hu' := hu
    unfold uD at hu'
    have hat := uD_at (c := cR many ps) (show k < many by omega)
    (simp! only [wq_sbL hu', hat])
    have hf : freeL many most (k + 1) ps = freeL many most k ps ++ (if cR many ps k < most then [k] else []) := by
      unfold freeL
      rw [List.range_succ, List.filter_append]
      congr 1
      by_cases h : cR many ps k < most
      · simp [h]
      · simp [h]
    by_cases h : cR many ps k < most
    · rw [if_pos (by omega)]
      refine ⟨?_, rfl⟩
      rw [hf, if_pos h, List.map_append]; rfl
    · rw [if_neg (by omega)]
      refine ⟨?_, rfl⟩
      rw [hf, if_neg h, List.append_nil]
  · rintro acc S1 ⟨rfl, rfl⟩
    obtain ⟨r0, hr0, hr1⟩ := free_ex (many := many) (most := most) (i := i + 1) (ps := ps) (by omega) hmo
    have hfm : r0 ∈ freeL many most (i + 1) ps := by unfold freeL; rw [List.mem_filter]; exact ⟨List.mem_range.mpr hr0, decide_eq_true hr1⟩
    have hfl := List.length_pos_of_mem hfm
    have hfx := @freeL_len many most (i + 1) ps
    have hfe : ∀ e ∈ freeL many most (i + 1) ps, e < i + 1 ∧ cR many ps e < most := fun e h => freeL_lt h
    generalize freeL many most (i + 1) ps = fr at hfm hfl hfe hfx ⊢
    have hn : (S1 ++ [MO.lst (fr.map nD)])[S1.length]? = some (.lst (fr.map nD)) := sto_new
    have hp1 : (S1 ++ [MO.lst (fr.map nD)])[S0.length + 2]? = some (.lst (ps.map eD)) := by rw [sto_app (by omega)]; exact hp
    (simp! only [isLst_loc hp1, len_loc hn, List.length_map])
    have hbx : Bx (S1 ++ [MO.lst (fr.map nD)]) b (z + i) := W.bx.of (sto_app W.bx.lt)
    refine take_ok hbx (by omega) hfl (by omega) fun v S2 hv hb2 hl2 hf2 => ?_
    have hn2 : S2[S1.length]? = some (.lst (fr.map nD)) := (hf2 _ (by omega)).trans hn
    have hp2 : S2[S0.length + 2]? = some (.lst (ps.map eD)) := (hf2 _ (by omega)).trans hp1
    have hu2 : S2[S0.length + 1]? = some (uD many (cR many ps)) := by rw [hf2 _ (by omega), sto_app (by omega)]; exact hu
    have hat : atI (fr.map nD) (v : Int) = some (nD fr[v]) := atI_of (by rw [List.getElem?_map, List.getElem?_eq_getElem hv]; rfl)
    have hfv := hfe fr[v] (List.getElem_mem hv)
    generalize fr[v] = a at hat hfv
    rw [wq_sbL hn2]
    refine ⟨_, hat, ?_⟩
    unfold nD
    (simp! only [wq_append hp2, List.length_map])
    refine ⟨by omega, ?_⟩
    have hed : D.tup [D.int (a : Int), D.int ((i + 1 : Nat) : Int)] = eD (a, i + 1) := rfl
    rw [hed]
    have hp3 : (S2.set (S0.length + 2) (.lst (ps.map eD ++ [eD (a, i + 1)])))[S0.length + 2]? = some (.lst (ps.map eD ++ [eD (a, i + 1)])) := sto_set hp2
    have hal := @at_lastI (ps.map eD) (eD (a, i + 1)) (-1) rfl
    (simp! only [wq_sbL hp3, hal])
    have hsr : ∀ T : Sto, srcOf (eD (a, i + 1)) T = some (.fixed [nD a, nD (i + 1)]) := fun _ => rfl
    refine ⟨_, hsr _, ?_⟩
    have hl3 : S2.length = S1.length + 1 := by rw [hl2]; simp
    have hu3 : (S2.set (S0.length + 2) (.lst (ps.map eD ++ [eD (a, i + 1)])))[S0.length + 1]? = some (uD many (cR many ps)) := (sto_ne (by omega)).trans hu2
    have hnot : ¬ a = i + 1 := by omega
    have hew : endsOf many (a, i + 1) = [a, i + 1] := endsOf_two (by simp; omega) hi
    refine bump_lo (xs := [a, i + 1]) hu3 ?_ rfl (by simp) rfl (fun _ _ _ _ h => h) (fun _ _ => rfl) fun o S4 hu4 hl4 hf4 => ?_
    · intro e he
      simp at he
      omega
    · have hc0 : cR many ps (i + 1) = 0 := hc _ (Nat.le_refl _) hi
      refine ⟨ps ++ [(a, i + 1)], _, _, _, _, _, _, _, rfl, W.add hb (by simp; omega) (by simp; omega) ?_ ?_ ?_ ?_ ?_ ?_ ?_, by simp [hl], ?_⟩
      · intro r hr
        have hlow := W.low r hr
        rw [hew]
        by_cases z1 : r = a
        · subst z1
          have : ¬ i + 1 = r := by omega
          simp [this]; omega
        · by_cases z2 : r = i + 1
          · subst z2
            have : ¬ a = i + 1 := by omega
            simp [this]; omega
          · have h1 : ¬ a = r := by omega
            have h2 : ¬ i + 1 = r := by omega
            simp [h1, h2]; omega
      · rw [hew]; exact hu4
      · rw [hf4 _ (by omega), hp3, List.map_append]; rfl
      · refine Bx.of (S := S2) (z := z + (i + 1)) ?_ ?_
        · exact hb2
        · rw [hf4 _ (by omega), sto_ne (by omega)]
      · refine ⟨by simp at hl4; omega, fun n hn1 hn2 => ?_⟩
        rw [hf4 _ (by omega), sto_ne (by omega), hf2 _ hn2, sto_app (by omega)]
        exact W.fr.at_ n hn1 hn2
      · simp at hl4; omega
      · intro r r0 hr
        by_cases z1 : r < i + 1
        · exact .inl z1
        · exact .inr ⟨by simp; omega, by simp; omega⟩
      · intro r h1 h2
        rw [cR_app h2 (by simp; omega) (by simp; omega), hew, hc r (by omega) h2]
        have q1 : ¬ a = r := by omega
        have q2 : ¬ i + 1 = r := by omega
        simp [q1, q2]
def moreB : EvS := (seqS
              (stS 9
                (aE tupD
                  (consA (aE g_l_take (consA (vE 0) (consA (vE 1) nilA)))
                    (consA (aE g_l_take (consA (vE 0) (consA (b2E addD (vE 1) (cE (D.int 1))) nilA))) nilA))))
              (seqS (stS 10 (lcE (sqI (vE 9)) (Pat.nm 8) (tB (b2E ltD (vE 8) (vE 1))) (vE 8) [8]))
                (ifS
                  (tB
                    (aE allD
                      (consA
                        (lcE (sqI (vE 10)) (Pat.nm 8) yesT
                          (b2E leD (b2E addD (b2E sbD (vE 3) (vE 8)) (mE countM (vE 10) (consA (vE 8) nilA))) (vE 2))
                          [8])
                        nilA)))
                  (seqS (exS (mE appendM (vE 4) (consA (vE 9) nilA)))
                    (forS (sqI (vE 10)) (Pat.nm 8) bumpT))
                  nxS)))
def EnI (S1 : Sto) (many : Nat) (xs : List Nat) (i : Nat) (acc : List D) (S : Sto) : Prop := acc = ((xs.take i).filter fun x => decide (x < many)).map nD ∧ S = S1
def AI (S1 : Sto) (many most : Nat) (ps : List End) (xs : List Nat) (i : Nat) (acc : List D) (S : Sto) : Prop := acc = (xs.take i).map (fun x => D.bl (decide (cR many ps x + xs.count x ≤ most))) ∧ S = S1
theorem bls_map {α : Type} (f : α → Bool) : ∀ l : List α, blsOf (l.map fun x => D.bl (f x)) = some (l.map f)
  | [] => rfl
  | a :: l => by
    have := bls_map f l
    simp only [List.map_cons, blsOf, this]
    rfl
theorem ints_map : ∀ l : List Nat, intsOf (l.map nD) = some (l.map fun (n : Nat) => (n : Int))
  | [] => rfl
  | a :: l => by
    have := ints_map l
    rw [List.map_cons, show intsOf (nD a :: l.map nD) = (intsOf (l.map nD)).map ((a : Int) :: ·) from rfl, this]
    rfl
theorem wq_allL {n : Nat} {ds : List D} {bs : List Bool} {S : Sto} {Q : D → Sto → Prop} (h : S[n]? = some (.lst ds)) (hb : blsOf ds = some bs) : Wp (allD [.loc n] S) Q ↔ Q (.bl (bs.all id)) S := by
  have : allD [.loc n] S = some (.bl (bs.all id), S) := by
    unfold allD
    simp only [lsOf, h, Option.bind_some, hb, Option.map_some]
  rw [this]; exact wp_some
theorem cnt_cast (e : Nat) : ∀ xs : List Nat, (xs.map fun (n : Nat) => (n : Int)).count (e : Int) = xs.count e
  | [] => rfl
  | a :: l => by
    rw [List.map_cons, List.count_cons, List.count_cons, cnt_cast e l]
    by_cases h : a = e
    · simp [h]
    · have : ¬ (a : Int) = (e : Int) := by omega
      simp [h, this]
theorem wq_count {n : Nat} {xs : List Nat} {e : Nat} {S : Sto} {Q : D → Sto → Prop} (h : S[n]? = some (.lst (xs.map nD))) : Wp (countM (.loc n) [.int (e : Int)] S) Q ↔ Q (.int (xs.count e : Nat)) S := by
  have : countM (.loc n) [.int (e : Int)] S = some (.int (xs.count e : Nat), S) := by
    unfold countM
    simp only [lstAt, h, Option.bind_some, ints_map, Option.map_some]
    congr 3
    rw [cnt_cast]
  rw [this]; exact wp_some
theorem more_turn {S0 S : Sto} {b many most z i : Nat} {ps : List End} {o5 o6 o7 o8 o9 o10 o11 : Option D} {Q : Out → Sto → Prop} (W : WB S0 S b many most (z + 2 * i) many ps) (hl : ps.length ≤ 24 + i) (hi : i < 100) (hb : b < S0.length) (hm : 0 < many) (hm2 : many ≤ 24) (hz : z < 750000) :
    Wp (moreB [some (.loc b), some (.int (many : Int)), some (.int (most : Int)), some (.loc (S0.length + 1)), some (.loc (S0.length + 2)), o5, o6, o7, o8, o9, o10, o11] S) (LoopQ (W2 S0 b many most z (i + 1)) Q) := by
  have hu := W.us
  have hp := W.pr
  have hlen := W.len
  have hbx := W.bx
  unfold moreB
  (simp! only [])
  refine take_ok hbx (by omega) hm (by omega) fun v1 S1 hv1 hb1 hl1 hf1 => ?_
  (simp! only [])
  have e1 : ((many : Int) + 1) = ((many + 1 : Nat) : Int) := by omega
  rw [e1]
  refine take_ok hb1 (by omega) (by omega) (by omega) fun v2 S2 hv2 hb2 hl2 hf2 => ?_
  (simp! only [])
  have hS2 : ∀ n, n ≠ b → S2[n]? = S[n]? := fun n hn => (hf2 n hn).trans (hf1 n hn)
  have hll : S2.length = S.length := hl2.trans hl1
  refine lc_fixed [D.int (v1 : Int), D.int (v2 : Int)] (by simp) (EnI S2 many [v1, v2]) ⟨rfl, rfl⟩ ?_ ?_
  · rintro k d acc S3 hd ⟨rfl, rfl⟩
    have hd2 : ([v1, v2].map nD)[k]? = some d := hd
    rw [List.getElem?_map] at hd2
    obtain ⟨e, he, rfl⟩ := Option.map_eq_some_iff.mp hd2
    unfold nD
    (simp! only [])
    have ht : ([v1, v2].take (k + 1)).filter (fun x => decide (x < many)) = ([v1, v2].take k).filter (fun x => decide (x < many)) ++ (if e < many then [e] else []) := by
      rw [List.take_add_one, he, List.filter_append]
      congr 1
      by_cases h : e < many
      · simp [h]
      · simp [h]
    by_cases h : e < many
    · rw [if_pos (by omega)]
      exact ⟨by rw [ht, if_pos h, List.map_append]; rfl, rfl⟩
    · rw [if_neg (by omega)]
      exact ⟨by rw [ht, if_neg h, List.append_nil]; rfl, rfl⟩
  · rintro acc S3 ⟨rfl, rfl⟩
    have hxs : ([v1, v2].take [D.int (v1 : Int), D.int (v2 : Int)].length).filter (fun x => decide (x < many)) = endsOf many (v1, v2) := rfl
    rw [hxs]
    have hxm : ∀ e ∈ endsOf many (v1, v2), e < many := fun e he => by
      unfold endsOf at he
      rw [List.mem_filter] at he
      exact of_decide_eq_true he.2
    have hxl : (endsOf many (v1, v2)).length ≤ 2 := by unfold endsOf; exact List.length_filter_le _ _
    generalize hxe : endsOf many (v1, v2) = xs at hxm hxl ⊢
    have hn : (S3 ++ [MO.lst (xs.map nD)])[S3.length]? = some (.lst (xs.map nD)) := sto_new
    have hu3 : (S3 ++ [MO.lst (xs.map nD)])[S0.length + 1]? = some (uD many (cR many ps)) := by rw [sto_app (by omega), hS2 _ (by omega)]; exact hu
    have hp3 : (S3 ++ [MO.lst (xs.map nD)])[S0.length + 2]? = some (.lst (ps.map eD)) := by rw [sto_app (by omega), hS2 _ (by omega)]; exact hp
    have hb3 : Bx (S3 ++ [MO.lst (xs.map nD)]) b (z + 2 * (i + 1)) := hb2.of (sto_app hb2.lt)
    have hf3 : ∀ n, n < S0.length → n ≠ b → (S3 ++ [MO.lst (xs.map nD)])[n]? = S0[n]? := fun n h1 h2 => by rw [sto_app (by omega), hS2 n h2]; exact W.fr.at_ n h1 h2
    have hl3 : (S3 ++ [MO.lst (xs.map nD)]).length = S3.length + 1 := by simp
    refine ⟨_, src_loc hn, ?_⟩
    generalize S3 ++ [MO.lst (xs.map nD)] = S4 at hn hu3 hp3 hb3 hf3 hl3 ⊢
    have hu3' := hu3
    unfold uD at hu3'
    refine lc_live S3.length (xs.map nD) (by simp; omega) (AI S4 many most ps xs) ⟨rfl, rfl⟩ (fun k acc S' h => by rw [h.2]; exact hn) ?_ ?_
    · rintro k d acc S5 hd ⟨rfl, rfl⟩
      rw [List.getElem?_map] at hd
      obtain ⟨e, he, rfl⟩ := Option.map_eq_some_iff.mp hd
      have hem := hxm e (List.mem_of_getElem? he)
      unfold nD
      (simp! only [wq_sbL hu3', uD_at hem, isLst_loc hn, wq_count hn])
      refine ⟨?_, rfl⟩
      rw [List.take_add_one, he, List.map_append]
      congr 1
      show [_] = [_]
      congr 2
      exact decide_eq_decide.mpr (by omega)
    · rintro acc S5 ⟨rfl, rfl⟩
      rw [List.length_map, List.take_length]
      have hn5 : (S5 ++ [MO.lst (xs.map fun x => D.bl (decide (cR many ps x + xs.count x ≤ most)))])[S5.length]? = some (.lst (xs.map fun x => D.bl (decide (cR many ps x + xs.count x ≤ most)))) := sto_new
      have hall := (wq_allL (Q := fun d S1 => True) hn5 (bls_map (fun x => decide (cR many ps x + xs.count x ≤ most)) xs))
      rw [wq_allL hn5 (bls_map (fun x => decide (cR many ps x + xs.count x ≤ most)) xs)]
      refine ⟨_, rfl, ?_⟩
      have hb5 : Bx (S5 ++ [MO.lst (xs.map fun x => D.bl (decide (cR many ps x + xs.count x ≤ most)))]) b (z + 2 * (i + 1)) := hb3.of (sto_app hb3.lt)
      have hn6 := (sto_app (o := MO.lst (xs.map fun x => D.bl (decide (cR many ps x + xs.count x ≤ most)))) (sto_lt hn)).trans hn
      have hu6 := (sto_app (o := MO.lst (xs.map fun x => D.bl (decide (cR many ps x + xs.count x ≤ most)))) (sto_lt hu3)).trans hu3
      have hp6 := (sto_app (o := MO.lst (xs.map fun x => D.bl (decide (cR many ps x + xs.count x ≤ most)))) (sto_lt hp3)).trans hp3
      have hf6 : ∀ n, n < S0.length → n ≠ b → (S5 ++ [MO.lst (xs.map fun x => D.bl (decide (cR many ps x + xs.count x ≤ most)))])[n]? = S0[n]? := fun n h1 h2 => by rw [sto_app (by omega)]; exact hf3 n h1 h2
      have hl6 : (S5 ++ [MO.lst (xs.map fun x => D.bl (decide (cR many ps x + xs.count x ≤ most)))]).length = S5.length + 1 := by simp
      generalize S5 ++ [MO.lst (xs.map fun x => D.bl (decide (cR many ps x + xs.count x ≤ most)))] = S6 at hn6 hu6 hp6 hb5 hf6 hl6 ⊢
      split
      · rename_i hal
        have hok : ∀ r, r < many → cR many ps r + xs.count r ≤ most := fun r hr => by
          by_cases hm : r ∈ xs
          · rw [List.all_map, List.all_eq_true] at hal
            exact of_decide_eq_true (hal r hm)
          · rw [List.count_eq_zero_of_not_mem hm]
            exact W.low r hr
        (simp! only [isLst_loc hp6, wq_append hp6, List.length_map])
        refine ⟨by omega, ?_⟩
        have hn7 : (S6.set (S0.length + 2) (.lst (ps.map eD ++ [D.tup [D.int (v1 : Int), D.int (v2 : Int)]])))[S3.length]? = some (.lst (xs.map nD)) := (sto_ne (by omega)).trans hn6
        have hu7 : (S6.set (S0.length + 2) (.lst (ps.map eD ++ [D.tup [D.int (v1 : Int), D.int (v2 : Int)]])))[S0.length + 1]? = some (uD many (cR many ps)) := (sto_ne (by omega)).trans hu6
        have hp7 : (S6.set (S0.length + 2) (.lst (ps.map eD ++ [D.tup [D.int (v1 : Int), D.int (v2 : Int)]])))[S0.length + 2]? = some (.lst ((ps ++ [(v1, v2)]).map eD)) := by rw [sto_set hp6, List.map_append]; rfl
        have hl7 : (S6.set (S0.length + 2) (.lst (ps.map eD ++ [D.tup [D.int (v1 : Int), D.int (v2 : Int)]]))).length = S6.length := by simp
        have hf7 : ∀ n, n ≠ S0.length + 2 → (S6.set (S0.length + 2) (.lst (ps.map eD ++ [D.tup [D.int (v1 : Int), D.int (v2 : Int)]])))[n]? = S6[n]? := fun n h => sto_ne (by omega)
        generalize S6.set (S0.length + 2) (.lst (ps.map eD ++ [D.tup [D.int (v1 : Int), D.int (v2 : Int)]])) = S7 at hn7 hu7 hp7 hl7 hf7 ⊢
        refine ⟨_, src_loc hn7, ?_⟩
        have hlive : ∀ S' : Sto, (∀ n, n ≠ S0.length + 1 → S'[n]? = S7[n]?) → S'[S3.length]? = some (.lst (xs.map nD)) := fun S' h => (h _ (by omega)).trans hn7
        refine bump_lo (xs := xs) hu7 hxm rfl (by simp) (by simp [Src.live]) (fun S' h k d hd => by simp only [Src.live, lenAt, itemAt, hlive S' h, if_true]; exact hd) (fun S' h => by simp [Src.live, lenAt, hlive S' h]) fun o S8 hu8 hl8 hf8 => ?_
        refine ⟨ps ++ [(v1, v2)], _, _, _, _, _, _, _, rfl, W.add hb hv1 (by simp; omega) ?_ ?_ ?_ ?_ ?_ ?_ ?_, by simp; omega⟩
        · rw [hxe]; exact hok
        · rw [hxe]; exact hu8
        · rw [hf8 _ (by omega)]; exact hp7
        · exact hb5.of (by rw [hf8 _ (by omega), hf7 _ (by omega)])
        · exact ⟨by omega, fun n h1 h2 => by rw [hf8 _ (by omega), hf7 _ (by omega)]; exact hf6 n h1 h2⟩
        · omega
        · intro r r0 hr; exact .inl hr
      · exact ⟨ps, _, _, _, _, _, _, _, rfl, ⟨hu6, hp6, W.one, W.other, W.low, hb5, ⟨by omega, hf6⟩, by omega, W.tree⟩, by omega⟩
theorem web_ok {S : Sto} {b z many most : Nat} {Q : D → Sto → Prop} (hb : Bx S b z) (hz : z < 700000) (hm : 0 < many) (hm2 : many ≤ 24) (hmo : 2 ≤ most) (hmo2 : most ≤ 6)
    (q : ∀ (S' : Sto) (w : Wb), IsWeb w → w.length = many → Bx S' b (z + 400) → Fr S S' b → Q (wD w) S') : Wp (g_l_web [.loc b, .int many, .int most] S) Q := by
  unfold g_l_web
  refine (wp_fnD (by rfl)).mpr ?_
  unfold b_l_web
  have hbl : b < S.length := hb.lt
  have h0 : (S ++ [MO.lst [D.int 0]])[S.length]? = some (.lst [D.int 0]) := sto_new
  (simp! only [wq_rep1 h0 (show many < 1000000 by omega)])
  refine ⟨⟨by simp [big62], by simp [big62]; omega⟩, ?_⟩
  have e1 : ((many : Int) - 1).toNat = many - 1 := by omega
  have l1 : (S ++ [MO.lst [D.int 0]]).length = S.length + 1 := by simp
  have l2 : (S ++ [MO.lst [D.int 0]] ++ [MO.lst (List.replicate many (D.int 0))]).length = S.length + 2 := by simp
  rw [e1, l1, l2]
  have f3 : ∀ n, n < S.length → (S ++ [MO.lst [D.int 0]] ++ [MO.lst (List.replicate many (D.int 0))] ++ [MO.lst []])[n]? = S[n]? := fun n hn => by
    rw [sto_app (by omega), sto_app (by omega), sto_app hn]
  refine lo_rng 1 (many - 1) (W1 S b many most z) ⟨[], _, _, _, _, _, _, _, rfl, ⟨?_, ?_, ?_, ?_, ?_, ?_, ?_, ?_, ?_⟩, rfl, fun _ _ _ => rfl⟩ ?_ ?_
  · rw [sto_app (by omega), ← l1, sto_new]
    congr 2
    have : (fun r => nD (cR many [] r)) = fun _ => D.int 0 := rfl
    rw [this, List.map_const', List.length_range]
  · rw [← l2]; exact sto_new
  · intro t p h; simp at h
  · intro t p h; simp at h
  · intro r hr; rw [cR_nil]; omega
  · exact hb.of (f3 b hbl)
  · exact ⟨by simp, fun n hn _ => f3 n hn⟩
  · simp
  · intro r r0 hr; omega
  · rintro i τ S1 hi ⟨ps, o5, o6, o7, o8, o9, o10, o11, rfl, W, hl, hc⟩
    have e2 : ((1 : Int) + (i : Int)) = ((i + 1 : Nat) : Int) := by omega
    rw [e2]
    refine ⟨_, pb_nm, ?_⟩
    exact tree_turn W hl hc (by omega) hbl hm2 hmo hz
  · rintro τ S1 ⟨ps, o5, o6, o7, o8, o9, o10, o11, rfl, W, hl, hc⟩
    have e3 : ((many : Int) + 2) = ((many + 2 : Nat) : Int) := by omega
    (simp! only [e3])
    refine take_ok W.bx (by omega) (by omega) (by omega) fun v S2 hv hb2 hl2 hf2 => ?_
    (simp! only [])
    refine ⟨by simp [big62]; omega, ?_⟩
    rw [Int.toNat_natCast]
    have hlen := W.len
    have W' : WB S S2 b many most (z + many) many ps := ⟨(hf2 _ (by omega)).trans W.us, (hf2 _ (by omega)).trans W.pr, W.one, W.other, W.low, hb2.le (by omega), ⟨by have := W.fr.len; omega, fun n h1 h2 => (hf2 n h2).trans (W.fr.at_ n h1 h2)⟩, by omega, fun r r0 hr => W.tree r r0 (by omega)⟩
    refine lo_rng 0 v (W2 S b many most (z + many)) ⟨ps, _, _, _, _, _, _, _, rfl, W', by omega⟩ ?_ ?_
    · rintro i τ S3 hi ⟨ps, o5, o6, o7, o8, o9, o10, o11, rfl, W, hl⟩
      refine ⟨_, pb_nm, ?_⟩
      exact more_turn W hl (by omega) hbl hm hm2 (by omega)
    · rintro τ S3 ⟨ps, o5, o6, o7, o8, o9, o10, o11, rfl, W, hl⟩
      (simp! only [])
      have P : PsOk many ps := ⟨W.one, W.other, by omega, by omega⟩
      refine put_ok W.bx (by omega) W.pr (by omega) P fun S4 hs I hb4 fr4 => ?_
      have hjl : (joinW hs).length = many := by unfold joinW; rw [List.length_map]; exact I.len
      refine q S4 (joinW hs) ⟨I.back P, by omega, by omega, fun r x hx => ?_, fun r hr => ?_⟩ hjl (hb4.le (by omega)) ⟨?_, fun n h1 h2 => ?_⟩
      · unfold joinW at hx
        rw [List.getElem?_map] at hx
        obtain ⟨y, hy, rfl⟩ := Option.map_eq_some_iff.mp hx
        rw [List.length_map, I.cnt r y hy]
        have hr : r < hs.length := (List.getElem?_eq_some_iff.mp hy).1
        have := W.low r (by rw [← I.len]; exact hr)
        unfold cR at this
        omega
      · have all : ∀ n r, r < n → r < many → Con (joinW hs) r := by
          intro n
          induction n with
          | zero => intro r h; omega
          | succ n ih =>
            intro r h hr
            by_cases z0 : r = 0
            · subst z0; exact .zero
            · obtain ⟨t, p, hp, rfl, hlt⟩ := W.tree r (by omega) hr
              exact .step (ih p.1 (by omega) (by omega)) (I.adj P hp hr)
        exact all (r + 1) r (by omega) (by omega)
      · have := W.fr.len; have := fr4.len; omega
      · rw [fr4.at_ n (by have := W.len; omega) h2]; exact W.fr.at_ n h1 h2
end SW
namespace SW
open PySem L2

theorem wq_row {w : Wb} {x : List End} {r : Nat} {S : Sto} {Q : D → Sto → Prop} (h : w[r]? = some x) : Wp (sbD (wD w) (.int (r : Int)) S) Q ↔ Q (rD x) S := by
  unfold wD
  have : atI (w.map rD) (r : Int) = some (rD x) := atI_of (by rw [List.getElem?_map, h]; rfl)
  rw [wq_sbT, this]
  simp
theorem wq_door {x : List End} {e : End} {i : Nat} {S : Sto} {Q : D → Sto → Prop} (h : x[i]? = some e) : Wp (sbD (rD x) (.int (i : Int)) S) Q ↔ Q (eD e) S := by
  unfold rD
  have : atI (x.map eD) (i : Int) = some (eD e) := atI_of (by rw [List.getElem?_map, h]; rfl)
  rw [wq_sbT, this]
  simp
theorem wq_e0 {e : End} {S : Sto} {Q : D → Sto → Prop} : Wp (sbD (eD e) (.int 0) S) Q ↔ Q (.int e.1) S := by
  unfold eD
  have : atI [D.int (e.1 : Int), D.int (e.2 : Int)] 0 = some (.int e.1) := rfl
  rw [wq_sbT, this]; simp
theorem wq_e1 {e : End} {S : Sto} {Q : D → Sto → Prop} : Wp (sbD (eD e) (.int 1) S) Q ↔ Q (.int e.2) S := by
  unfold eD
  have : atI [D.int (e.1 : Int), D.int (e.2 : Int)] 1 = some (.int e.2) := rfl
  rw [wq_sbT, this]; simp
theorem len_w {w : Wb} {S : Sto} {Q : D → Sto → Prop} : Wp (lenD [wD w] S) Q ↔ Q (.int (w.length : Nat)) S := by
  unfold wD; rw [len_tup, List.length_map]
theorem len_row {x : List End} {S : Sto} {Q : D → Sto → Prop} : Wp (lenD [rD x] S) Q ↔ Q (.int (x.length : Nat)) S := by
  unfold rD; rw [len_tup, List.length_map]
/-! _law_ring -/
def nxt (n r : Nat) : Nat := if r + 1 = n then 0 else r + 1
def prv (n r : Nat) : Nat := if r = 0 then n - 1 else r - 1
def ringR (n r : Nat) : List End := [(nxt n r, 1), (prv n r, 0)]
def ringW (n : Nat) : Wb := (List.range n).map (ringR n)
theorem ring_at {n r i : Nat} {e : End} : aT (ringW n) r i = some e ↔ r < n ∧ ((i = 0 ∧ e = (nxt n r, 1)) ∨ (i = 1 ∧ e = (prv n r, 0))) := by
  unfold aT ringW
  rw [List.getElem?_map]
  by_cases h : r < n
  · rw [List.getElem?_range h]
    simp only [Option.map_some, Option.bind_some, ringR, h, true_and]
    rcases i with _ | _ | i
    · simp; exact eq_comm
    · simp; exact eq_comm
    · simp
  · rw [List.getElem?_eq_none_iff.mpr (by simpa using h)]
    simp [h]
theorem nxt_prv {n r : Nat} (h : r < n) : nxt n (prv n r) = r ∧ prv n r < n := by
  unfold nxt prv
  split <;> split <;> omega
theorem prv_nxt {n r : Nat} (h : r < n) : prv n (nxt n r) = r ∧ nxt n r < n := by
  unfold nxt prv
  split <;> split <;> omega
theorem ring_web {n : Nat} (h : 0 < n) (h2 : n ≤ 24) : IsWeb (ringW n) := by
  have hl : (ringW n).length = n := by simp [ringW]
  refine ⟨?_, by omega, by omega, fun r x hx => ?_, fun r hr => ?_⟩
  · intro r i s j a
    obtain ⟨hr, ⟨rfl, e⟩ | ⟨rfl, e⟩⟩ := ring_at.mp a
    · cases e
      obtain ⟨e1, e2⟩ := prv_nxt hr
      exact ring_at.mpr ⟨e2, .inr ⟨rfl, by rw [e1]⟩⟩
    · cases e
      obtain ⟨e1, e2⟩ := nxt_prv hr
      exact ring_at.mpr ⟨e2, .inl ⟨rfl, by rw [e1]⟩⟩
  · unfold ringW at hx
    rw [List.getElem?_map] at hx
    obtain ⟨y, _, rfl⟩ := Option.map_eq_some_iff.mp hx
    simp [ringR]
  · rw [hl] at hr
    induction r with
    | zero => exact .zero
    | succ r ih =>
      refine .step (ih (by omega)) ⟨0, 1, ring_at.mpr ⟨by omega, .inl ⟨rfl, ?_⟩⟩⟩
      unfold nxt
      rw [if_neg (by omega)]
theorem nxt_mod {n r : Nat} (h : r < n) : ((r : Int) + 1) % (n : Int) = (nxt n r : Nat) := by
  unfold nxt
  split
  · rename_i e
    have : ((r : Int) + 1) = (n : Int) := by omega
    rw [this]; simp
  · rw [Int.emod_eq_of_lt (by omega) (by omega)]; omega
theorem prv_mod {n r : Nat} (h : r < n) : ((r : Int) - 1) % (n : Int) = (prv n r : Nat) := by
  unfold prv
  split
  · rename_i e
    subst e
    have : ((0 : Nat) : Int) - 1 = ((n : Int) - 1) - n := by omega
    rw [this, Int.sub_emod_right, Int.emod_eq_of_lt (by omega) (by omega)]
    omega
  · rw [Int.emod_eq_of_lt (by omega) (by omega)]; omega
def RgI (S0 : Sto) (n : Nat) (i : Nat) (acc : List D) (S : Sto) : Prop := acc = (List.range i).map (fun r => rD (ringR n r)) ∧ S = S0
theorem ring_ok {S : Sto} {n : Nat} {Q : D → Sto → Prop} (hn : 0 < n) (hn2 : n ≤ 24) (q : ∀ S' : Sto, (∀ m, m < S.length → S'[m]? = S[m]?) → Q (wD (ringW n)) S') : Wp (g_l_ring [.int n] S) Q := by
  unfold g_l_ring
  refine (wp_fnD (by rfl)).mpr ?_
  unfold b_l_ring
  (simp! only [])
  refine ⟨by simp [big62]; omega, ?_⟩
  rw [Int.toNat_natCast]
  refine lc_rng 0 n (by omega) (RgI S n) ⟨rfl, rfl⟩ ?_ ?_
  · rintro k acc S1 hk ⟨rfl, rfl⟩
    have e0 : ((0 : Int) + (k : Int)) = (k : Int) := by omega
    rw [e0]
    (simp! only [nxt_mod hk, prv_mod hk])
    refine ⟨by omega, by omega, ?_, rfl⟩
    rw [List.range_succ, List.map_append]; rfl
  · rintro acc S1 ⟨rfl, rfl⟩
    have hn : (S1 ++ [MO.lst ((List.range n).map fun r => rD (ringR n r))])[S1.length]? = some (.lst ((List.range n).map fun r => rD (ringR n r))) := sto_new
    (simp! only [wq_tupleL hn])
    have := q (S1 ++ [MO.lst ((List.range n).map fun r => rD (ringR n r))]) fun m hm => sto_app hm
    unfold wD ringW at this
    rw [List.map_map] at this
    exact this
/-! _law_ends -/
def leE (a b : End) : Prop := a.1 < b.1 ∨ (a.1 = b.1 ∧ a.2 ≤ b.2)
instance {a b : End} : Decidable (leE a b) := inferInstanceAs (Decidable (_ ∨ _))
theorem wq_leE {a b : End} {S : Sto} {Q : D → Sto → Prop} : Wp (leD (eD a) (eD b) S) Q ↔ Q (.bl (decide (leE a b))) S := by
  have h : lexLe [(a.1 : Int), (a.2 : Int)] [(b.1 : Int), (b.2 : Int)] = decide (leE a b) := by
    show (if decide ((a.1 : Int) = b.1) = true then (if decide ((a.2 : Int) = b.2) = true then decide (2 ≤ 2) else decide ((a.2 : Int) ≤ b.2)) else decide ((a.1 : Int) ≤ b.1)) = _
    simp only [decide_eq_true_eq]
    split
    · split
      · exact decide_eq_decide.mpr (by unfold leE; omega)
      · exact decide_eq_decide.mpr (by unfold leE; omega)
    · exact decide_eq_decide.mpr (by unfold leE; omega)
  have e : leD (eD a) (eD b) S = some (.bl (decide (leE a b)), S) := by
    rw [← h]; rfl
  rw [e]; exact wp_some
def tD (t : End × End) : D := .tup [eD t.1, eD t.2]
def rowL (w : Wb) (r : Nat) : Nat := ((w[r]?).map List.length).getD 0
theorem rowL_of {w : Wb} {r : Nat} {x : List End} (h : w[r]? = some x) : rowL w r = x.length := by unfold rowL; rw [h]; rfl
def tieAt (w : Wb) (r d : Nat) : Option (End × End) := (aT w r d).bind fun q => if leE (r, d) q then some ((r, d), q) else none
def endsRow (w : Wb) (r n : Nat) : List (End × End) := (List.range n).filterMap (tieAt w r)
/-- what _law_ends finds -/
def endsN (w : Wb) (m : Nat) : List (End × End) := (List.range m).flatMap fun r => endsRow w r (rowL w r)
theorem endsRow_succ (w : Wb) (r n : Nat) : endsRow w r (n + 1) = endsRow w r n ++ (tieAt w r n).toList := by
  unfold endsRow
  rw [List.range_succ, List.filterMap_append]
  congr 1
theorem endsN_succ (w : Wb) (m : Nat) : endsN w (m + 1) = endsN w m ++ endsRow w m (rowL w m) := by
  unfold endsN
  rw [List.range_succ, List.flatMap_append]
  simp
/-- the ties of the doors ahead of (r, d) -/
structure EsTo (w : Wb) (es : List (End × End)) (r d : Nat) : Prop where
  mem : ∀ p q : End, (p, q) ∈ es ↔ aT w p.1 p.2 = some q ∧ leE p q ∧ (p.1 < r ∨ (p.1 = r ∧ p.2 < d))
  nd : (es.map Prod.fst).Nodup
  few : es.length ≤ r * 6 + d
  is : es = endsN w r ++ endsRow w r d
theorem EsTo.yes {w : Wb} {es : List (End × End)} {r d : Nat} {q : End} (h : EsTo w es r d) (ha : aT w r d = some q) (hl : leE (r, d) q) : EsTo w (es ++ [((r, d), q)]) r (d + 1) := by
  refine ⟨fun p q' => ?_, ?_, by have := h.few; simp; omega, by rw [endsRow_succ, ← List.append_assoc, ← h.is]; simp [tieAt, ha, hl]⟩
  · rw [List.mem_append, h.mem, List.mem_singleton, Prod.mk.injEq]
    constructor
    · rintro (⟨a, b, c⟩ | ⟨rfl, rfl⟩)
      · exact ⟨a, b, by omega⟩
      · exact ⟨ha, hl, .inr ⟨rfl, by simp⟩⟩
    · rintro ⟨a, b, c⟩
      by_cases z : p = (r, d)
      · subst z
        rw [ha] at a; cases a
        exact .inr ⟨rfl, rfl⟩
      · refine .inl ⟨a, b, ?_⟩
        rcases c with c | ⟨c1, c2⟩
        · exact .inl c
        · refine .inr ⟨c1, ?_⟩
          have : p.2 ≠ d := fun y => z (Prod.ext c1 y)
          omega
  · rw [List.map_append, List.nodup_append]
    refine ⟨h.nd, by simp, fun a ha' b hb' e => ?_⟩
    simp at hb'
    subst hb'; subst e
    obtain ⟨⟨p, q'⟩, hm, he⟩ := List.mem_map.mp ha'
    simp only at he
    subst he
    have := ((h.mem _ _).mp hm).2.2
    simp at this
theorem EsTo.no {w : Wb} {es : List (End × End)} {r d : Nat} {q : End} (h : EsTo w es r d) (ha : aT w r d = some q) (hl : ¬ leE (r, d) q) : EsTo w es r (d + 1) := by
  refine ⟨fun p q' => ?_, h.nd, by have := h.few; omega, by rw [endsRow_succ, ← List.append_assoc, ← h.is]; simp [tieAt, ha, hl]⟩
  rw [h.mem]
  constructor
  · rintro ⟨a, b, c⟩
    exact ⟨a, b, by omega⟩
  · rintro ⟨a, b, c⟩
    by_cases z : p = (r, d)
    · subst z
      rw [ha] at a; cases a
      exact absurd b hl
    · refine ⟨a, b, ?_⟩
      rcases c with c | ⟨c1, c2⟩
      · exact .inl c
      · refine .inr ⟨c1, ?_⟩
        have : p.2 ≠ d := fun y => z (Prod.ext c1 y)
        omega
theorem EsTo.next {w : Wb} {es : List (End × End)} {r : Nat} {x : List End} (h : EsTo w es r x.length) (hx : w[r]? = some x) (hl : x.length ≤ 6) : EsTo w es (r + 1) 0 := by
  refine ⟨fun p q' => ?_, h.nd, by have := h.few; omega, by rw [endsN_succ, rowL_of hx, ← h.is]; simp [endsRow]⟩
  rw [h.mem]
  constructor
  · rintro ⟨a, b, c⟩
    exact ⟨a, b, by omega⟩
  · rintro ⟨a, b, c⟩
    refine ⟨a, b, ?_⟩
    by_cases z : p.1 = r
    · refine .inr ⟨z, ?_⟩
      rw [z] at a
      obtain ⟨y, hy, hi⟩ := aT_some.mp a
      rw [hx] at hy; cases hy
      exact (List.getElem?_eq_some_iff.mp hi).1
    · omega
structure EsOk (w : Wb) (es : List (End × End)) : Prop where
  mem : ∀ p q : End, (p, q) ∈ es ↔ aT w p.1 p.2 = some q ∧ leE p q
  nd : (es.map Prod.fst).Nodup
  few : es.length ≤ 144
  is : es = endsN w w.length
def Es1 (S0 : Sto) (w : Wb) (i : Nat) (τ : Tau) (S : Sto) : Prop := ∃ (es : List (End × End)) (o2 o3 : Option D), τ = [some (wD w), some (.loc S0.length), o2, o3] ∧ EsTo w es i 0 ∧ S[S0.length]? = some (.lst (es.map tD)) ∧ S.length = S0.length + 1 ∧ ∀ n, n < S0.length → S[n]? = S0[n]?
def Es2 (S0 : Sto) (w : Wb) (r : Nat) (i : Nat) (τ : Tau) (S : Sto) : Prop := ∃ (es : List (End × End)) (o3 : Option D), τ = [some (wD w), some (.loc S0.length), some (nD r), o3] ∧ EsTo w es r i ∧ S[S0.length]? = some (.lst (es.map tD)) ∧ S.length = S0.length + 1 ∧ ∀ n, n < S0.length → S[n]? = S0[n]?
theorem ends_ok {S : Sto} {w : Wb} {Q : D → Sto → Prop} (hw : w.length ≤ 24) (hd : ∀ (r : Nat) (x : List End), w[r]? = some x → x.length ≤ 6)
    (q : ∀ (S' : Sto) (es : List (End × End)), EsOk w es → S'[S.length]? = some (.lst (es.map tD)) → S'.length = S.length + 1 → (∀ n, n < S.length → S'[n]? = S[n]?) → Q (.loc S.length) S') : Wp (g_l_ends [wD w] S) Q := by
  unfold g_l_ends
  refine (wp_fnD (by rfl)).mpr ?_
  unfold b_l_ends
  (simp! only [len_w])
  refine ⟨by simp [big62]; omega, ?_⟩
  rw [Int.toNat_natCast]
  refine lo_rng 0 w.length (Es1 S w) ⟨[], _, _, rfl, ⟨by simp, by simp, by simp, rfl⟩, sto_new, by simp, fun n hn => sto_app hn⟩ ?_ ?_
  · rintro r τ S1 hr ⟨es, o2, o3, rfl, E, he, hl, hf⟩
    have e0 : ((0 : Int) + (r : Int)) = (r : Int) := by omega
    rw [e0]
    have hx : w[r]? = some w[r] := List.getElem?_eq_getElem hr
    generalize w[r] = x at hx
    have hxl := hd r x hx
    (simp! only [wq_row hx, len_row])
    refine ⟨by simp [big62]; omega, ?_⟩
    rw [Int.toNat_natCast]
    refine lo_rng 0 x.length (Es2 S w r) ⟨es, _, rfl, E, he, hl, hf⟩ ?_ ?_
    · rintro d τ S2 hdl ⟨es, o3, rfl, E, he, hl, hf⟩
      have e0 : ((0 : Int) + (d : Int)) = (d : Int) := by omega
      rw [e0]
      have hq : x[d]? = some x[d] := List.getElem?_eq_getElem hdl
      generalize x[d] = e at hq
      have ha : aT w r d = some e := aT_some.mpr ⟨x, hx, hq⟩
      have hed : D.tup [D.int (r : Int), D.int (d : Int)] = eD (r, d) := rfl
      (simp! only [wq_row hx, wq_door hq, nD, hed, wq_leE])
      by_cases hle : leE (r, d) e
      · rw [if_pos hle]
        have hfew := E.few
        (simp! only [isLst_loc he, wq_append he, List.length_map, hed])
        refine ⟨by omega, es ++ [((r, d), e)], _, rfl, E.yes ha hle, ?_, by simpa using hl, fun n hn => by rw [sto_ne (by omega)]; exact hf n hn⟩
        rw [sto_set he, List.map_append]; rfl
      · rw [if_neg hle]
        exact ⟨es, _, rfl, E.no ha hle, he, hl, hf⟩
    · rintro τ S2 ⟨es, o3, rfl, E, he, hl, hf⟩
      (simp! only [])
      exact ⟨es, _, _, rfl, E.next hx hxl, he, hl, hf⟩
  · rintro τ S1 ⟨es, o2, o3, rfl, E, he, hl, hf⟩
    (simp! only [])
    refine q S1 es ⟨fun p q => ?_, E.nd, by have := E.few; omega, by rw [E.is]; simp [endsRow]⟩ he hl hf
    rw [E.mem]
    constructor
    · rintro ⟨a, b, c⟩; exact ⟨a, b⟩
    · rintro ⟨a, b⟩
      refine ⟨a, b, .inl ?_⟩
      obtain ⟨x, hx, _⟩ := aT_some.mp a
      exact (List.getElem?_eq_some_iff.mp hx).1
end SW
namespace SW
open PySem L2

/-! lists of numbers as the model's data -/
theorem can_ints (l : List Int) : PyData.canLayAll0 (l.map .int) = true := by
  induction l with
  | nil => rfl
  | cons a l ih => rw [List.map_cons]; simp only [PyData.canLayAll0, PyData.canLay0, ih, Bool.and_self]
theorem dep_ints (l : List Int) : PyData.depthAll (l.map .int) = 0 := by
  induction l with
  | nil => rfl
  | cons a l ih => rw [List.map_cons]; simp only [PyData.depthAll, PyData.depth, ih, Nat.max_self]
theorem shp_ints (l : List Int) : SeqAt.shaped (.list (l.map .int)) = true := by
  unfold SeqAt.shaped
  rw [Bool.and_eq_true]
  exact ⟨by simp only [PyData.canLay0, can_ints], by simp [PyData.depth, dep_ints]⟩
theorem pyDs_ints (g : Nat → Option PyData) (l : List Int) : pyDs g (l.map D.int) = some (l.map .int) := by
  induction l with
  | nil => rfl
  | cons a l ih =>
    rw [List.map_cons]
    simp only [pyDs, pyD, ih, Option.bind_some, Option.map_some]
    rfl
theorem pyOf_int {S : Sto} {i : Int} : pyOf S (.int i) = some (.int i) := rfl
theorem pyOf_ints {S : Sto} {n : Nat} {l : List Int} (h : S[n]? = some (.lst (l.map D.int))) : pyOf S (.loc n) = some (.list (l.map .int)) := by
  have e : pyD (pyL S 4) (.loc n) = some (.list (l.map .int)) := by
    show pyL S 4 n = _
    simp only [pyL, h, pyDs_ints, Option.map_some]
  unfold pyOf
  rw [e, Option.bind_some, if_pos (shp_ints l)]
theorem eqv_int (i j : Int) : PyData.eqv (.int i) (.int j) = decide (i = j) := by
  by_cases h : i = j
  · subst h; simp [PyData.eqv]
  · simp [PyData.eqv, h]
theorem eqvs_ints (l m : List Int) : PyData.eqvAll (l.map .int) (m.map .int) = decide (l = m) := by
  induction l generalizing m with
  | nil => cases m <;> rfl
  | cons a l ih =>
    cases m with
    | nil => rfl
    | cons b m =>
      rw [List.map_cons, List.map_cons]
      simp only [PyData.eqvAll, eqv_int, ih]
      by_cases h1 : a = b <;> by_cases h2 : l = m <;> simp [h1, h2]
theorem wq_neL {S : Sto} {m n : Nat} {k l : List Int} {Q : D → Sto → Prop} (h1 : S[m]? = some (.lst (k.map D.int))) (h2 : S[n]? = some (.lst (l.map D.int))) : Wp (neD (.loc m) (.loc n) S) Q ↔ Q (.bl (!decide (k = l))) S := by
  have e : neD (.loc m) (.loc n) S = some (.bl (!decide (k = l)), S) := by
    unfold neD
    rw [pyOf_ints h1, pyOf_ints h2]
    simp only [Option.bind_some, Option.map_some, PyData.eqv, eqvs_ints]
  rw [e]; exact wp_some
theorem nD_ints (xs : List Nat) : xs.map nD = (xs.map fun (n : Nat) => (n : Int)).map D.int := by rw [List.map_map]; rfl
theorem any_nat (e : Nat) (xs : List Nat) : (((xs.map fun (n : Nat) => (n : Int)).map PyData.int).any fun z => PyData.eqv z (.int (e : Int))) = decide (e ∈ xs) := by
  induction xs with
  | nil => rfl
  | cons a l ih =>
    rw [List.map_cons, List.map_cons, List.any_cons, ih, eqv_int]
    by_cases h1 : a = e
    · subst h1; simp
    · have h2 : ¬ (a : Int) = (e : Int) := by omega
      have h3 : ¬ e = a := fun z => h1 z.symm
      simp [h2, h3]
theorem wq_notIn {S : Sto} {n e : Nat} {xs : List Nat} {Q : D → Sto → Prop} (h : S[n]? = some (.lst (xs.map nD))) : Wp (notInD (.int (e : Int)) (.loc n) S) Q ↔ Q (.bl (!decide (e ∈ xs))) S := by
  rw [nD_ints] at h
  have e : notInD (.int (e : Int)) (.loc n) S = some (.bl (!decide (e ∈ xs)), S) := by
    unfold notInD inSq
    simp only [pyOf_int, pyOf_ints h, Option.bind_some, any_nat, Option.orElse]
  rw [e]; exact wp_some
/-! numbers below n, each once -/
theorem nodup_le {n : Nat} {xs : List Nat} (h : xs.Nodup) (hx : ∀ x ∈ xs, x < n) : xs.length ≤ n := by
  have e := sum_cnt (fun x : Nat => x) xs n
  have e2 : (xs.countP fun q => decide (q < n)) = xs.length := List.countP_eq_length.mpr fun a ha => by simpa using hx a ha
  rw [e2] at e
  rw [← e]
  have all : ∀ m, ((List.range m).map fun r => xs.countP fun q => decide (q = r)).sum ≤ m := by
    intro m
    induction m with
    | zero => simp
    | succ m ih =>
      rw [List.range_succ, List.map_append, List.sum_append]
      have h1 : (xs.countP fun q => decide (q = m)) ≤ 1 := by
        have := List.nodup_iff_count.mp h m
        have e3 : xs.count m = xs.countP fun q => decide (q = m) := by
          unfold List.count
          congr 1
        omega
      simp only [List.map_cons, List.map_nil, List.sum_cons, List.sum_nil]
      omega
  exact all n
theorem nodup_full {n : Nat} {xs : List Nat} (h : xs.Nodup) (hx : ∀ x ∈ xs, x < n) (hl : xs.length = n) {r : Nat} (hr : r < n) : r ∈ xs := by
  by_cases m : r ∈ xs
  · exact m
  · exfalso
    have := nodup_le (n := n) (xs := r :: xs) (List.nodup_cons.mpr ⟨m, h⟩) fun x hm => by
      rcases List.mem_cons.mp hm with rfl | hm
      · exact hr
      · exact hx x hm
    simp at this
    omega
/-! _law_reached -/
inductive Rch (w : Wb) (a : Nat) : Nat → Prop
  | refl : Rch w a a
  | step {r s : Nat} : Rch w a r → Adj w r s → Rch w a s
theorem Rch.con {w : Wb} {r : Nat} (h : Rch w 0 r) : Con w r := by
  induction h with
  | refl => exact .zero
  | step _ a ih => exact .step ih a
theorem Con.rch {w : Wb} {r : Nat} (h : Con w r) : Rch w 0 r := by
  induction h with
  | zero => exact .refl
  | step _ a ih => exact .step ih a
/-- every door leads to a room -/
def Closed (w : Wb) : Prop := ∀ r i s j, aT w r i = some (s, j) → s < w.length
theorem Back.closed {w : Wb} (h : Back w) : Closed w := fun r i s j a => by
  obtain ⟨x, hx, _⟩ := aT_some.mp (h r i s j a)
  exact (List.getElem?_eq_some_iff.mp hx).1
structure RcOk (w : Wb) (a at_ : Nat) (xs : List Nat) : Prop where
  nd : xs.Nodup
  lt : ∀ x ∈ xs, x < w.length
  rch : ∀ x ∈ xs, Rch w a x
  one : a ∈ xs
  done : ∀ (i x s : Nat), i < at_ → xs[i]? = some x → Adj w x s → s ∈ xs
def RcI (S0 : Sto) (w : Wb) (a n : Nat) (τ : Tau) (S : Sto) : Prop := ∃ (xs : List Nat) (k : Nat) (o4 o5 : Option D), τ = [some (wD w), some (nD a), some (.loc S0.length), some (nD k), o4, o5] ∧ RcOk w a k xs ∧ k + n = w.length ∧ S[S0.length]? = some (.lst (xs.map nD)) ∧ S.length = S0.length + 1 ∧ ∀ m, m < S0.length → S[m]? = S0[m]?
/-- .. of the room at place k, the doors below i are done -/
def RcJ (S0 : Sto) (w : Wb) (a k r : Nat) (i : Nat) (τ : Tau) (S : Sto) : Prop := ∃ (xs : List Nat) (o4 o5 : Option D), τ = [some (wD w), some (nD a), some (.loc S0.length), some (nD k), o4, o5] ∧ RcOk w a k xs ∧ xs[k]? = some r ∧ (∀ i' e, i' < i → aT w r i' = some e → e.1 ∈ xs) ∧ S[S0.length]? = some (.lst (xs.map nD)) ∧ S.length = S0.length + 1 ∧ ∀ m, m < S0.length → S[m]? = S0[m]?
theorem reached_ok {S : Sto} {w : Wb} {a : Nat} {Q : D → Sto → Prop} (hc : Closed w) (ha : a < w.length) (hw : w.length ≤ 24)
    (q : ∀ (S' : Sto) (xs : List Nat), RcOk w a xs.length xs → S'[S.length]? = some (.lst (xs.map nD)) → S'.length = S.length + 1 → (∀ n, n < S.length → S'[n]? = S[n]?) → Q (.loc S.length) S') : Wp (g_l_reached [wD w, nD a] S) Q := by
  unfold g_l_reached
  refine (wp_fnD (by rfl)).mpr ?_
  unfold b_l_reached
  (simp! only [])
  refine wp_while (RcI S w a) w.length (by omega) ⟨[a], 0, _, _, rfl, ⟨by simp, by simpa using ha, by simp; exact .refl, by simp, fun i _ _ hi => by omega⟩, by omega, sto_new, by simp, fun n hn => sto_app hn⟩ ?_
  rintro n τ S1 ⟨xs, k, o4, o5, rfl, R, hkn, hx, hl, hf⟩
  have hxl := nodup_le R.nd R.lt
  (simp! only [len_loc hx, List.length_map, nD])
  by_cases hk : k < xs.length
  · rw [if_pos (by omega)]
    have hr : xs[k]? = some xs[k] := List.getElem?_eq_getElem hk
    generalize xs[k] = r at hr
    have hrl := R.lt r (List.mem_of_getElem? hr)
    have hat : atI (xs.map nD) (k : Int) = some (nD r) := atI_of (by rw [List.getElem?_map, hr]; rfl)
    have hrow : w[r]? = some w[r] := List.getElem?_eq_getElem hrl
    generalize w[r] = x at hrow
    (simp! only [wq_sbL hx])
    refine ⟨_, hat, ?_⟩
    unfold nD
    rw [wq_row hrow]
    refine ⟨_, rfl, ?_⟩
    have hJ0 : RcJ S w a k r 0 [some (wD w), some (nD a), some (.loc S.length), some (nD k), o4, o5] S1 := ⟨xs, _, _, rfl, R, hr, fun i' e h => by omega, hx, hl, hf⟩
    refine lo_fixed (x.map eD) (RcJ S w a k r) hJ0 ?_ ?_
    · rintro i d τ S2 hd ⟨xs, o4, o5, rfl, R, hr, hdn, hx, hl, hf⟩
      rw [List.getElem?_map] at hd
      obtain ⟨e, he, rfl⟩ := Option.map_eq_some_iff.mp hd
      have hat : aT w r i = some e := aT_some.mpr ⟨x, hrow, he⟩
      have hes := hc r i e.1 e.2 hat
      unfold eD
      (simp! only [wq_notIn hx])
      have hstep : ∀ ys : List Nat, (∀ y ∈ xs, y ∈ ys) → e.1 ∈ ys → ∀ i' e', i' < i + 1 → aT w r i' = some e' → e'.1 ∈ ys := fun ys h1 h2 i' e' hi' ha' => by
        by_cases z : i' = i
        · subst z; rw [hat] at ha'; cases ha'; exact h2
        · exact h1 _ (hdn i' e' (by omega) ha')
      by_cases hm : e.1 ∈ xs
      · simp only [hm, decide_true, Bool.not_true, Bool.false_eq_true, if_false]
        exact ⟨xs, _, _, rfl, R, hr, hstep xs (fun _ h => h) hm, hx, hl, hf⟩
      · simp only [hm, decide_false, Bool.not_false, if_true]
        have hxl := nodup_le R.nd R.lt
        (simp! only [isLst_loc hx, wq_append hx, List.length_map])
        refine ⟨by omega, xs ++ [e.1], _, _, rfl, ⟨?_, ?_, ?_, ?_, ?_⟩, ?_, hstep _ (fun y h => List.mem_append_left _ h) (by simp), ?_, by simpa using hl, fun n hn => by rw [sto_ne (by omega)]; exact hf n hn⟩
        · rw [List.nodup_append]
          refine ⟨R.nd, by simp, fun y hy z hz e => ?_⟩
          simp at hz
          subst hz; subst e
          exact hm hy
        · intro y hy
          rcases List.mem_append.mp hy with hy | hy
          · exact R.lt y hy
          · simp at hy; subst hy; exact hes
        · intro y hy
          rcases List.mem_append.mp hy with hy | hy
          · exact R.rch y hy
          · simp at hy; subst hy; exact .step (R.rch r (List.mem_of_getElem? hr)) ⟨i, e.2, hat⟩
        · exact List.mem_append_left _ R.one
        · intro i' y s hi' hy hadj
          have hkl : k < xs.length := (List.getElem?_eq_some_iff.mp hr).1
          rw [List.getElem?_append_left (by omega)] at hy
          exact List.mem_append_left _ (R.done i' y s hi' hy hadj)
        · rw [List.getElem?_append_left (List.getElem?_eq_some_iff.mp hr).1]; exact hr
        · rw [sto_set hx, List.map_append]; rfl
    · rintro τ S2 ⟨xs, o4, o5, rfl, R, hr, hdn, hx, hl, hf⟩
      rw [List.length_map] at hdn
      (simp! only [nD])
      refine ⟨n - 1, by omega, xs, k + 1, o4, o5, rfl, ⟨R.nd, R.lt, R.rch, R.one, ?_⟩, by omega, hx, hl, hf⟩
      · intro i y s hi hy hadj
        by_cases z : i = k
        · subst z
          rw [hr] at hy; cases hy
          obtain ⟨i', j, h⟩ := hadj
          refine hdn i' _ ?_ h
          obtain ⟨x', hx', hi'⟩ := aT_some.mp h
          rw [hrow] at hx'; cases hx'
          exact (List.getElem?_eq_some_iff.mp hi').1
        · exact R.done i y s (by omega) hy hadj
  · rw [if_neg (by omega)]
    (simp! only [])
    exact q S1 xs ⟨R.nd, R.lt, R.rch, R.one, fun i y s hi => R.done i y s (by omega)⟩ hx hl hf
end SW
namespace SW
open PySem L2

theorem wp_rgL {f : EvE} {τ : Tau} {S : Sto} {Q : D → Sto → Prop} : Wp (rgL (r1R f) τ S) Q ↔ Wp (f τ S) fun d S1 => ∃ j, d = .int j ∧ rgOk 0 j = true ∧ Q (.loc S1.length) (S1 ++ [.lst (rng 0 (j - 0).toNat)]) := by
  unfold rgL r1R
  rw [wp_bind, wp_bind]
  constructor
  · rintro ⟨d, S1, e, q⟩
    refine ⟨d, S1, e, ?_⟩
    cases d with
    | int j =>
      simp only [wp_some, wp_ite, wp_none, newD] at q
      split at q
      · rename_i hb; exact ⟨j, rfl, hb, q⟩
      · exact q.elim
    | _ => exact (wp_none.mp q).elim
  · rintro ⟨d, S1, e, j, rfl, hb, q⟩
    refine ⟨_, S1, e, ?_⟩
    simp only [wp_some, hb, if_true, newD]
    exact q
theorem rng_nat (n : Nat) : rng 0 n = (List.range n).map nD := by
  unfold rng nD
  apply List.map_congr_left
  intro a _
  simp
structure TurnOk (many : Nat) (own : Bool) (L : List Nat) : Prop where
  len : L.length = many
  lt : ∀ (k x : Nat), L[k]? = some x → x < many
  inj : ∀ k k' x : Nat, L[k]? = some x → L[k']? = some x → k = k'
  surj : ∀ x : Nat, x < many → ∃ k : Nat, L[k]? = some x
  own : own = true → ∀ k x : Nat, L[k]? = some x → L[x]? = some k
structure PermOk (i : Nat) (xs : List Nat) : Prop where
  nd : xs.Nodup
  lt : ∀ x ∈ xs, x < i
  len : xs.length = i
theorem PermOk.ins {i v : Nat} {xs : List Nat} (h : PermOk i xs) : PermOk (i + 1) (xs.take v ++ [i] ++ xs.drop v) := by
  have p : (xs.take v ++ [i] ++ xs.drop v).Perm (i :: xs) := by
    rw [List.append_assoc]
    have := @List.perm_middle _ i (xs.take v) (xs.drop v)
    rw [List.take_append_drop] at this
    exact this
  refine ⟨p.nodup_iff.mpr (List.nodup_cons.mpr ⟨fun m => by have := h.lt _ m; omega, h.nd⟩), fun x hx => ?_, by rw [p.length_eq, List.length_cons, h.len]⟩
  rcases List.mem_cons.mp (p.mem_iff.mp hx) with rfl | m
  · omega
  · have := h.lt _ m; omega
theorem PermOk.inj {i : Nat} {xs : List Nat} (h : PermOk i xs) {k k' x : Nat} (a : xs[k]? = some x) (b : xs[k']? = some x) : k = k' :=
  (List.getElem?_inj (List.getElem?_eq_some_iff.mp a).1 h.nd).mp (by rw [a, b])
theorem PermOk.surj {i : Nat} {xs : List Nat} (h : PermOk i xs) {x : Nat} (hx : x < i) : ∃ k : Nat, xs[k]? = some x :=
  List.getElem?_of_mem (nodup_full h.nd h.lt h.len hx)
theorem PermOk.turn {many : Nat} {xs : List Nat} (h : PermOk many xs) : TurnOk many false xs :=
  ⟨h.len, fun k x a => h.lt x (List.mem_of_getElem? a), fun k k' x a b => h.inj a b, fun x hx => h.surj hx, fun e => (nomatch e)⟩
/-- the places of the order are changed in pairs, i pairs so far -/
def flip (i p : Nat) : Nat := if p < 2 * i then (if p % 2 = 0 then p + 1 else p - 1) else p
def Flipped (many : Nat) (xs : List Nat) (i : Nat) (L : List Nat) : Prop := L.length = many ∧ ∀ p a : Nat, xs[p]? = some a → L[a]? = xs[flip i p]?
theorem Flipped.zero {many : Nat} {xs : List Nat} (h : PermOk many xs) : Flipped many xs 0 (List.range many) := by
  refine ⟨by simp, fun p a ha => ?_⟩
  have : flip 0 p = p := by unfold flip; rw [if_neg (by omega)]
  rw [this, ha, List.getElem?_range (h.lt a (List.mem_of_getElem? ha))]
theorem Flipped.succ {many i a b : Nat} {xs L : List Nat} (h : PermOk many xs) (f : Flipped many xs i L) (ha : xs[2 * i]? = some a) (hb : xs[2 * i + 1]? = some b) : Flipped many xs (i + 1) ((L.set a b).set b a) := by
  have hab : a ≠ b := fun e => by subst e; have := h.inj ha hb; omega
  have la := h.lt a (List.mem_of_getElem? ha)
  have lb := h.lt b (List.mem_of_getElem? hb)
  have hl := f.1
  refine ⟨by simpa using hl, fun p c hc => ?_⟩
  by_cases h1 : c = b
  · subst h1
    have := h.inj hc hb
    subst this
    rw [List.getElem?_set_self (by simp; omega)]
    have : flip (i + 1) (2 * i + 1) = 2 * i := by unfold flip; rw [if_pos (by omega), if_neg (by omega)]; omega
    rw [this, ha]
  · rw [List.getElem?_set_ne (fun z => h1 z.symm)]
    by_cases h2 : c = a
    · subst h2
      have := h.inj hc ha
      subst this
      rw [List.getElem?_set_self (by omega)]
      have : flip (i + 1) (2 * i) = 2 * i + 1 := by unfold flip; rw [if_pos (by omega), if_pos (by omega)]
      rw [this, hb]
    · rw [List.getElem?_set_ne (fun z => h2 z.symm), f.2 p c hc]
      have n1 : p ≠ 2 * i := fun e => by subst e; rw [ha] at hc; cases hc; exact h2 rfl
      have n2 : p ≠ 2 * i + 1 := fun e => by subst e; rw [hb] at hc; cases hc; exact h1 rfl
      congr 1
      unfold flip
      by_cases h3 : p < 2 * i
      · rw [if_pos h3, if_pos (show p < 2 * (i + 1) by omega)]
      · rw [if_neg h3, if_neg (show ¬ p < 2 * (i + 1) by omega)]
theorem flip_flip {many p : Nat} (h : p < many) : flip (many / 2) (flip (many / 2) p) = p ∧ flip (many / 2) p < many := by
  unfold flip
  by_cases h1 : p < 2 * (many / 2)
  · rw [if_pos h1]
    by_cases h2 : p % 2 = 0
    · rw [if_pos h2, if_pos (by omega), if_neg (by omega)]; omega
    · rw [if_neg h2, if_pos (by omega), if_pos (by omega)]; omega
  · rw [if_neg h1, if_neg h1]; omega
theorem Flipped.turn {many : Nat} {xs L : List Nat} (h : PermOk many xs) (f : Flipped many xs (many / 2) L) : TurnOk many true L := by
  have hl := f.1
  have hxl := h.len
  have inv : ∀ k x : Nat, L[k]? = some x → L[x]? = some k ∧ x < many := fun k x hk => by
    have hkm : k < many := by rw [← hl]; exact (List.getElem?_eq_some_iff.mp hk).1
    obtain ⟨p, hp⟩ := h.surj hkm
    have hpm : p < many := by rw [← h.len]; exact (List.getElem?_eq_some_iff.mp hp).1
    obtain ⟨f1, f2⟩ := flip_flip hpm
    have e1 := f.2 p k hp
    rw [hk] at e1
    have e2 := f.2 _ x e1.symm
    rw [f1, hp] at e2
    exact ⟨e2, h.lt x (List.mem_of_getElem? e1.symm)⟩
  refine ⟨hl, fun k x a => (inv k x a).2, fun k k' x a b => ?_, fun x hx => ?_, fun _ k x a => (inv k x a).1⟩
  · have h1 := (inv k x a).1
    have h2 := (inv k' x b).1
    rw [h1] at h2
    exact Option.some.inj h2
  · have hk : L[x]? = some L[x] := List.getElem?_eq_getElem (by omega)
    exact ⟨_, (inv x _ hk).1⟩
theorem small_2 {m : Nat} (h : m < 25) : Builtin.Range.small 0 ((m : Int) - 1) 2 = true := by
  have all : ∀ m : Fin 25, Builtin.Range.small 0 ((m.val : Int) - 1) 2 = true := by decide +kernel
  exact all ⟨m, h⟩
def T1 (S0 : Sto) (b many : Nat) (own : Bool) (z : Nat) (i : Nat) (τ : Tau) (S : Sto) : Prop := ∃ (xs : List Nat) (o4 o5 o6 o7 : Option D), τ = [some (.loc b), some (nD many), some (.bl own), some (.loc S0.length), o4, o5, o6, o7] ∧ PermOk i xs ∧ S[S0.length]? = some (.lst (xs.map nD)) ∧ Bx S b (z + i) ∧ S.length = S0.length + 1 ∧ Fr S0 S b
def T2 (S0 : Sto) (b many : Nat) (own : Bool) (z : Nat) (xs : List Nat) (i : Nat) (τ : Tau) (S : Sto) : Prop := ∃ (L : List Nat) (o4 o6 o7 : Option D), τ = [some (.loc b), some (nD many), some (.bl own), some (.loc S0.length), o4, some (.loc (S0.length + 1)), o6, o7] ∧ Flipped many xs i L ∧ S[S0.length]? = some (.lst (xs.map nD)) ∧ S[S0.length + 1]? = some (.lst (L.map nD)) ∧ Bx S b (z + many) ∧ S.length = S0.length + 2 ∧ Fr S0 S b
end SW
namespace SW
open PySem L2

/-! _law_sheeted: the plain side -/
theorem split_n {a b k l n : Nat} (ha : a < n) (hb : b < n) (h : a + k * n = b + l * n) : a = b ∧ k = l := by
  have h1 : (a + k * n) % n = a := by rw [Nat.add_mul_mod_self_right, Nat.mod_eq_of_lt ha]
  have h2 : (b + l * n) % n = b := by rw [Nat.add_mul_mod_self_right, Nat.mod_eq_of_lt hb]
  have h3 : a = b := by rw [← h1, ← h2, h]
  subst h3
  have h4 : k * n = l * n := by omega
  exact ⟨rfl, Nat.eq_of_mul_eq_mul_right (by omega) h4⟩
/-- sheets of a web: its ties, a turn for each -/
structure Sheets (w : Wb) (es : List (End × End)) (σ : List (List Nat)) (many : Nat) : Prop where
  back : Back w
  eo : EsOk w es
  len : σ.length = es.length
  turn : ∀ (t : Nat) (one other : End) (L : List Nat), es[t]? = some (one, other) → σ[t]? = some L → TurnOk many (decide (one = other)) L
def Rt (w : Wb) (es : List (End × End)) (σ : List (List Nat)) (x d : Nat) (e : End) : Prop := ∃ (t : Nat) (one other : End) (k s : Nat) (L : List Nat), es[t]? = some (one, other) ∧ σ[t]? = some L ∧ L[k]? = some s ∧
  ((x = one.1 + k * w.length ∧ d = one.2 ∧ e = (other.1 + s * w.length, other.2)) ∨ (x = other.1 + s * w.length ∧ d = other.2 ∧ e = (one.1 + k * w.length, one.2)))
section
variable {w : Wb} {es : List (End × End)} {σ : List (List Nat)} {many : Nat}
theorem Rt.swap {x d y j : Nat} (h : Rt w es σ x d (y, j)) : Rt w es σ y j (x, d) := by
  obtain ⟨t, one, other, k, s, L, h1, h2, h3, ⟨rfl, rfl, e⟩ | ⟨rfl, rfl, e⟩⟩ := h
  · cases e
    exact ⟨t, one, other, k, s, L, h1, h2, h3, .inr ⟨rfl, rfl, rfl⟩⟩
  · cases e
    exact ⟨t, one, other, k, s, L, h1, h2, h3, .inl ⟨rfl, rfl, rfl⟩⟩
theorem aT_lt {r i : Nat} {e : End} (h : aT w r i = some e) : r < w.length := by
  obtain ⟨x, hx, _⟩ := aT_some.mp h
  exact (List.getElem?_eq_some_iff.mp hx).1
theorem Sheets.at_ (H : Sheets w es σ many) {t : Nat} {one other : End} (h : es[t]? = some (one, other)) : aT w one.1 one.2 = some other ∧ aT w other.1 other.2 = some one ∧ leE one other ∧ one.1 < w.length ∧ other.1 < w.length := by
  obtain ⟨a, b⟩ := (H.eo.mem one other).mp (List.mem_of_getElem? h)
  have c := H.back _ _ other.1 other.2 a
  exact ⟨a, c, b, aT_lt a, aT_lt c⟩
theorem Sheets.uniq (H : Sheets w es σ many) {t t' : Nat} {one other other' : End} (h : es[t]? = some (one, other)) (h' : es[t']? = some (one, other')) : t = t' := by
  have a : (es.map Prod.fst)[t]? = some one := by rw [List.getElem?_map, h]; rfl
  have b : (es.map Prod.fst)[t']? = some one := by rw [List.getElem?_map, h']; rfl
  exact (List.getElem?_inj (List.getElem?_eq_some_iff.mp a).1 H.eo.nd).mp (by rw [a, b])
theorem leE_anti {a b : End} (h : leE a b) (h' : leE b a) : a = b := by
  unfold leE at h h'
  exact Prod.ext (by omega) (by omega)
theorem leE_total (a b : End) : leE a b ∨ leE b a := by
  unfold leE; omega
theorem Rt.fun_ (H : Sheets w es σ many) {x d : Nat} {e e' : End} (h : Rt w es σ x d e) (h' : Rt w es σ x d e') : e = e' := by
  obtain ⟨t, one, other, k, s, L, h1, h2, h3, c⟩ := h
  obtain ⟨t', one', other', k', s', L', h1', h2', h3', c'⟩ := h'
  obtain ⟨a1, a2, a3, a4, a5⟩ := H.at_ h1
  obtain ⟨b1, b2, b3, b4, b5⟩ := H.at_ h1'
  rcases c with ⟨x1, d1, e1⟩ | ⟨x1, d1, e1⟩ <;> rcases c' with ⟨x2, d2, e2⟩ | ⟨x2, d2, e2⟩
  · obtain ⟨y1, y2⟩ := split_n a4 b4 (x1.symm.trans x2)
    have : one = one' := Prod.ext y1 (d1.symm.trans d2)
    subst this
    have := H.uniq h1 h1'
    subst this
    rw [h1] at h1'; cases h1'
    rw [h2] at h2'; cases h2'
    subst y2
    rw [h3] at h3'; cases h3'
    rw [e1, e2]
  · obtain ⟨y1, y2⟩ := split_n a4 b5 (x1.symm.trans x2)
    have : one = other' := Prod.ext y1 (d1.symm.trans d2)
    subst this
    rw [a1] at b2; cases b2
    have := leE_anti a3 b3
    subst this
    have := H.uniq h1 h1'
    subst this
    rw [h2] at h2'; cases h2'
    have ow := (H.turn t one one L h1 h2).own (by simp)
    have := ow k' s' h3'
    subst y2
    rw [h3] at this; cases this
    rw [e1, e2]
  · obtain ⟨y1, y2⟩ := split_n a5 b4 (x1.symm.trans x2)
    have : other = one' := Prod.ext y1 (d1.symm.trans d2)
    subst this
    rw [b1] at a2; cases a2
    have := leE_anti a3 b3
    subst this
    have := H.uniq h1 h1'
    subst this
    rw [h2] at h2'; cases h2'
    have ow := (H.turn t one one L h1 h2).own (by simp)
    have := ow k s h3
    subst y2
    rw [h3'] at this; cases this
    rw [e1, e2]
  · obtain ⟨y1, y2⟩ := split_n a5 b5 (x1.symm.trans x2)
    have : other = other' := Prod.ext y1 (d1.symm.trans d2)
    subst this
    rw [a2] at b2; cases b2
    have := H.uniq h1 h1'
    subst this
    rw [h2] at h2'; cases h2'
    subst y2
    have := (H.turn t one other L h1 h2).inj k k' s h3 h3'
    subst this
    rw [e1, e2]
/-- rows being filled -/
abbrev Mat := Nat → List (Option End)
def putM (M : Mat) (x d : Nat) (e : End) : Mat := fun y => if y = x then (M x).set d (some e) else M y
def Set_ (M : Mat) (x d : Nat) : Prop := ∃ e, (M x)[d]? = some (some e)
structure MI (w : Wb) (es : List (End × End)) (σ : List (List Nat)) (many t k : Nat) (M : Mat) : Prop where
  len : ∀ x, x < many * w.length → (M x).length = rowL w (x % w.length)
  ok : ∀ (x d : Nat) (e : End), (M x)[d]? = some (some e) → Rt w es σ x d e
  done : ∀ (t' k' s : Nat) (one other : End) (L : List Nat), (t' < t ∨ (t' = t ∧ k' < k)) → es[t']? = some (one, other) → σ[t']? = some L → L[k']? = some s → Set_ M (one.1 + k' * w.length) one.2 ∧ Set_ M (other.1 + s * w.length) other.2
theorem put_len {M : Mat} {x d y : Nat} {e : End} : (putM M x d e y).length = (M y).length := by
  unfold putM
  split
  · rename_i h; subst h; simp
  · rfl
theorem put_get {M : Mat} {x d y d' : Nat} {e e' : End} (h : (putM M x d e y)[d']? = some (some e')) : (y = x ∧ d' = d ∧ e' = e) ∨ (M y)[d']? = some (some e') := by
  unfold putM at h
  split at h
  · rename_i hy; subst hy
    by_cases z : d = d'
    · subst z
      have hl : d < (M y).length := by simpa using (List.getElem?_eq_some_iff.mp h).1
      rw [List.getElem?_set_self hl] at h
      cases h
      exact .inl ⟨rfl, rfl, rfl⟩
    · rw [List.getElem?_set_ne z] at h; exact .inr h
  · exact .inr h
theorem put_keep {M : Mat} {x d y d' : Nat} {e : End} (h : Set_ M y d') : Set_ (putM M x d e) y d' := by
  obtain ⟨e', h⟩ := h
  unfold Set_ putM
  split
  · rename_i hy; subst hy
    by_cases z : d = d'
    · subst z
      exact ⟨e, List.getElem?_set_self (List.getElem?_eq_some_iff.mp h).1⟩
    · exact ⟨e', by rw [List.getElem?_set_ne z]; exact h⟩
  · exact ⟨e', h⟩
theorem put_new {M : Mat} {x d : Nat} {e : End} (h : d < (M x).length) : Set_ (putM M x d e) x d := by
  unfold Set_ putM
  rw [if_pos rfl]
  exact ⟨e, List.getElem?_set_self h⟩
theorem rowL_at {r i : Nat} {e : End} (h : aT w r i = some e) : i < rowL w r := by
  obtain ⟨x, hx, hi⟩ := aT_some.mp h
  rw [rowL_of hx]
  exact (List.getElem?_eq_some_iff.mp hi).1
theorem mod_n {a k n : Nat} (h : a < n) : (a + k * n) % n = a := by rw [Nat.add_mul_mod_self_right, Nat.mod_eq_of_lt h]
theorem lt_mn {a k n many : Nat} (h : a < n) (hk : k < many) : a + k * n < many * n := by
  have : (k + 1) * n ≤ many * n := Nat.mul_le_mul_right n hk
  rw [Nat.succ_mul] at this
  omega
theorem MI.step {t k s : Nat} {M : Mat} {one other : End} {L : List Nat} (H : Sheets w es σ many) (I : MI w es σ many t k M) (h1 : es[t]? = some (one, other)) (h2 : σ[t]? = some L) (h3 : L[k]? = some s) (hk : k < many) :
    one.2 < (M (one.1 + k * w.length)).length ∧ other.2 < (putM M (one.1 + k * w.length) one.2 (other.1 + s * w.length, other.2) (other.1 + s * w.length)).length ∧ MI w es σ many t (k + 1) (putM (putM M (one.1 + k * w.length) one.2 (other.1 + s * w.length, other.2)) (other.1 + s * w.length) other.2 (one.1 + k * w.length, one.2)) := by
  obtain ⟨a1, a2, a3, a4, a5⟩ := H.at_ h1
  have hs := (H.turn t one other L h1 h2).lt k s h3
  have l1 : one.2 < (M (one.1 + k * w.length)).length := by rw [I.len _ (lt_mn a4 hk), mod_n a4]; exact rowL_at a1
  have l2 : other.2 < (putM M (one.1 + k * w.length) one.2 (other.1 + s * w.length, other.2) (other.1 + s * w.length)).length := by rw [put_len, I.len _ (lt_mn a5 hs), mod_n a5]; exact rowL_at a2
  refine ⟨l1, l2, fun x hx => by rw [put_len, put_len]; exact I.len x hx, fun x d e he => ?_, fun t' k' s' one' other' L' ht e1 e2 e3 => ?_⟩
  · rcases put_get he with ⟨rfl, rfl, rfl⟩ | he
    · exact ⟨t, one, other, k, s, L, h1, h2, h3, .inr ⟨rfl, rfl, rfl⟩⟩
    · rcases put_get he with ⟨rfl, rfl, rfl⟩ | he
      · exact ⟨t, one, other, k, s, L, h1, h2, h3, .inl ⟨rfl, rfl, rfl⟩⟩
      · exact I.ok x d e he
  · by_cases z : t' = t ∧ k' = k
    · obtain ⟨rfl, rfl⟩ := z
      rw [h1] at e1; cases e1
      rw [h2] at e2; cases e2
      rw [h3] at e3; cases e3
      exact ⟨put_keep (put_new l1), put_new l2⟩
    · obtain ⟨d1, d2⟩ := I.done t' k' s' one' other' L' (by omega) e1 e2 e3
      exact ⟨put_keep (put_keep d1), put_keep (put_keep d2)⟩
theorem MI.next {t : Nat} {M : Mat} (H : Sheets w es σ many) (I : MI w es σ many t many M) : MI w es σ many (t + 1) 0 M := by
  refine ⟨I.len, I.ok, fun t' k' s one other L ht e1 e2 e3 => ?_⟩
  refine I.done t' k' s one other L ?_ e1 e2 e3
  by_cases z : t' = t
  · have := (H.turn t' one other L e1 e2).len
    have := (List.getElem?_eq_some_iff.mp e3).1
    omega
  · omega
/-- the rows when all is filled -/
def rowsM (M : Mat) (N : Nat) : Wb := (List.range N).map fun x => (M x).filterMap id
theorem MI.full {M : Mat} (H : Sheets w es σ many) (I : MI w es σ many es.length 0 M) {x d : Nat} (hx : x < many * w.length) (hd : d < (M x).length) : Set_ M x d := by
  have hn : 0 < w.length := by
    rcases Nat.eq_zero_or_pos w.length with z | z
    · rw [z] at hx; omega
    · exact z
  have hr : x % w.length < w.length := Nat.mod_lt _ hn
  have hk : x / w.length < many := Nat.div_lt_of_lt_mul (by rw [Nat.mul_comm]; exact hx)
  have hxe : x % w.length + x / w.length * w.length = x := by rw [Nat.mul_comm]; exact Nat.mod_add_div x w.length
  rw [I.len x hx] at hd
  have hrow : w[x % w.length]? = some w[x % w.length] := List.getElem?_eq_getElem hr
  generalize w[x % w.length] = row at hrow
  rw [rowL_of hrow] at hd
  have hq : row[d]? = some row[d] := List.getElem?_eq_getElem hd
  generalize row[d] = q at hq
  have ha : aT w (x % w.length) d = some q := aT_some.mpr ⟨row, hrow, hq⟩
  rcases leE_total (x % w.length, d) q with hle | hle
  · obtain ⟨t, ht⟩ := List.getElem?_of_mem ((H.eo.mem (x % w.length, d) q).mpr ⟨ha, hle⟩)
    have htl : t < es.length := (List.getElem?_eq_some_iff.mp ht).1
    have hL : σ[t]? = some (σ[t]'(by rw [H.len]; exact htl)) := List.getElem?_eq_getElem _
    generalize (σ[t]'(by rw [H.len]; exact htl)) = L at hL
    have T := H.turn t _ q L ht hL
    have hs : L[x / w.length]? = some (L[x / w.length]'(by rw [T.len]; exact hk)) := List.getElem?_eq_getElem _
    have := (I.done t (x / w.length) _ _ q L (.inl htl) ht hL hs).1
    simp only at this
    rw [hxe] at this
    exact this
  · have hb := H.back _ _ q.1 q.2 ha
    obtain ⟨t, ht⟩ := List.getElem?_of_mem ((H.eo.mem q (x % w.length, d)).mpr ⟨hb, hle⟩)
    have htl : t < es.length := (List.getElem?_eq_some_iff.mp ht).1
    have hL : σ[t]? = some (σ[t]'(by rw [H.len]; exact htl)) := List.getElem?_eq_getElem _
    generalize (σ[t]'(by rw [H.len]; exact htl)) = L at hL
    have T := H.turn t q _ L ht hL
    obtain ⟨k', hk'⟩ := T.surj (x / w.length) hk
    have := (I.done t k' _ q _ L (.inl htl) ht hL hk').2
    simp only at this
    rw [hxe] at this
    exact this
theorem all_some {α : Type} : ∀ l : List (Option α), (∀ d, d < l.length → ∃ e, l[d]? = some (some e)) → l = (l.filterMap id).map some
  | [], _ => rfl
  | a :: l, h => by
    obtain ⟨e, he⟩ := h 0 (by simp)
    simp at he
    subst he
    have := all_some l fun d hd => by
      obtain ⟨e, he⟩ := h (d + 1) (by simp; omega)
      exact ⟨e, by simpa using he⟩
    simp only [List.filterMap_cons, id, List.map_cons]
    exact congrArg _ this
theorem MI.row {M : Mat} (H : Sheets w es σ many) (I : MI w es σ many es.length 0 M) {x : Nat} (hx : x < many * w.length) : M x = ((M x).filterMap id).map some := all_some _ fun d hd => I.full H hx hd
theorem MI.aT_ {M : Mat} (H : Sheets w es σ many) (I : MI w es σ many es.length 0 M) {x d : Nat} {e : End} : aT (rowsM M (many * w.length)) x d = some e ↔ x < many * w.length ∧ (M x)[d]? = some (some e) := by
  unfold aT rowsM
  rw [List.getElem?_map]
  by_cases h : x < many * w.length
  · rw [List.getElem?_range h]
    simp only [Option.map_some, Option.bind_some, h, true_and]
    have := I.row H h
    generalize hr : (M x).filterMap id = r at this
    rw [this, List.getElem?_map]
    simp
  · rw [List.getElem?_eq_none_iff.mpr (by simpa using h)]
    simp [h]
theorem MI.back {M : Mat} (H : Sheets w es σ many) (I : MI w es σ many es.length 0 M) : Back (rowsM M (many * w.length)) := by
  intro x d y j a
  obtain ⟨hx, ha⟩ := (I.aT_ H).mp a
  have R := (I.ok x d _ ha).swap
  have hy : y < many * w.length ∧ j < (M y).length := by
    obtain ⟨t, one, other, k, s, L, h1, h2, h3, c⟩ := R
    obtain ⟨a1, a2, a3, a4, a5⟩ := H.at_ h1
    have hs := (H.turn t one other L h1 h2).lt k s h3
    have hk : k < many := by rw [← (H.turn t one other L h1 h2).len]; exact (List.getElem?_eq_some_iff.mp h3).1
    rcases c with ⟨rfl, rfl, _⟩ | ⟨rfl, rfl, _⟩
    · exact ⟨lt_mn a4 hk, by rw [I.len _ (lt_mn a4 hk), mod_n a4]; exact rowL_at a1⟩
    · exact ⟨lt_mn a5 hs, by rw [I.len _ (lt_mn a5 hs), mod_n a5]; exact rowL_at a2⟩
  obtain ⟨e', he'⟩ := I.full H hy.1 hy.2
  have := (I.ok y j e' he').fun_ H R
  subst this
  exact (I.aT_ H).mpr ⟨hy.1, he'⟩
end
end SW
namespace SW
open PySem L2

def oD : Option End → D
  | none => .non
  | some e => eD e
/-- the rows in the store: list x at B + 2x + 1, their list at B + 2N -/
structure Mk (S : Sto) (B N : Nat) (M : Mat) : Prop where
  top : S[B + 2 * N]? = some (.lst ((List.range N).map fun x => D.loc (B + 2 * x + 1)))
  at_ : ∀ x, x < N → S[B + 2 * x + 1]? = some (.lst ((M x).map oD))
theorem Mk.of {S S' : Sto} {B N : Nat} {M : Mat} (h : Mk S B N M) (k : ∀ n, B ≤ n → n ≤ B + 2 * N → S'[n]? = S[n]?) : Mk S' B N M :=
  ⟨(k _ (by omega) (by omega)).trans h.top, fun x hx => (k _ (by omega) (by omega)).trans (h.at_ x hx)⟩
theorem Mk.put {S : Sto} {B N x d : Nat} {M : Mat} {e : End} (h : Mk S B N M) (hx : x < N) : Mk (S.set (B + 2 * x + 1) (.lst (((M x).map oD).set d (eD e)))) B N (putM M x d e) := by
  refine ⟨by rw [sto_ne (by omega)]; exact h.top, fun y hy => ?_⟩
  unfold putM
  by_cases z : y = x
  · subst z
    rw [if_pos rfl, sto_set (h.at_ y hy), List.map_set]; rfl
  · rw [if_neg z, sto_ne (by omega)]; exact h.at_ y hy
theorem Mk.get {S : Sto} {B N x : Nat} {M : Mat} {Q : D → Sto → Prop} (h : Mk S B N M) (hx : x < N) : Wp (sbD (.loc (B + 2 * N)) (.int (x : Int)) S) Q ↔ Q (.loc (B + 2 * x + 1)) S := by
  have : atI ((List.range N).map fun x => D.loc (B + 2 * x + 1)) (x : Int) = some (.loc (B + 2 * x + 1)) := atI_of (by rw [List.getElem?_map, List.getElem?_range hx]; rfl)
  rw [wq_sbL h.top, this]
  simp
def M0 (w : Wb) : Mat := fun x => List.replicate (rowL w (x % w.length)) none
def MkI (S0 : Sto) (w : Wb) (N : Nat) (i : Nat) (acc : List D) (S : Sto) : Prop := acc = (List.range i).map (fun x => D.loc (S0.length + 2 * x + 1)) ∧ S.length = S0.length + 2 * i ∧ (∀ x, x < i → S[S0.length + 2 * x + 1]? = some (.lst ((M0 w x).map oD))) ∧ ∀ n, n < S0.length → S[n]? = S0[n]?
structure ShI (S0 S : Sto) (w : Wb) (es : List (End × End)) (σ : List (List Nat)) (many : Nat) (M : Mat) : Prop where
  rows : Mk S S0.length (many * w.length) M
  es : S[S0.length + 2 * (many * w.length) + 1]? = some (.lst (es.map tD))
  len : S.length = S0.length + 2 * (many * w.length) + 2
  fr : ∀ n, n < S0.length → S[n]? = S0[n]?
def Sh1 (S0 : Sto) (w : Wb) (es : List (End × End)) (σ : List (List Nat)) (tl many : Nat) (t : Nat) (τ : Tau) (S : Sto) : Prop := ∃ (M : Mat) (o4 o5 o6 o7 o8 o9 o10 o11 : Option D), τ = [some (wD w), some (.loc tl), some (.int (many : Int)), some (.loc (S0.length + 2 * (many * w.length))), o4, o5, o6, o7, o8, o9, o10, o11] ∧ MI w es σ many t 0 M ∧ ShI S0 S w es σ many M
def Sh2 (S0 : Sto) (w : Wb) (es : List (End × End)) (σ : List (List Nat)) (tl many t : Nat) (one other : End) (k : Nat) (τ : Tau) (S : Sto) : Prop := ∃ (M : Mat) (o5 o6 o9 o10 o11 : Option D), τ = [some (wD w), some (.loc tl), some (.int (many : Int)), some (.loc (S0.length + 2 * (many * w.length))), some (.int (t : Int)), o5, o6, some (eD one), some (eD other), o9, o10, o11] ∧ MI w es σ many t k M ∧ ShI S0 S w es σ many M
def Sh3 (S1 : Sto) (rows : Wb) (i : Nat) (acc : List D) (S : Sto) : Prop := acc = (rows.take i).map rD ∧ S = S1
theorem MI.zero {w : Wb} {es : List (End × End)} {σ : List (List Nat)} {many : Nat} : MI w es σ many 0 0 (M0 w) := by
  refine ⟨fun x hx => by simp [M0], fun x d e h => ?_, fun t' k' s one other L h => by omega⟩
  unfold M0 at h
  rw [List.getElem?_replicate] at h
  split at h <;> cases h
theorem wq_mulN {i j : Nat} {S : Sto} {Q : D → Sto → Prop} (h : j < 1000000) : Wp (mulD (.int (i : Int)) (.int (j : Int)) S) Q ↔ Q (.int ((i * j : Nat) : Int)) S := by
  rw [wq_mul]
  have : ((i : Int) * (j : Int)) = ((i * j : Nat) : Int) := by simp
  rw [this]
  constructor
  · rintro ⟨_, h⟩; exact h
  · intro q; exact ⟨.inr ⟨by omega, by omega⟩, q⟩
theorem wq_addN {i j : Nat} {S : Sto} {Q : D → Sto → Prop} : Wp (addD (.int (i : Int)) (.int (j : Int)) S) Q ↔ Q (.int ((i + j : Nat) : Int)) S := by
  rw [wp_add]
  have : ((i : Int) + (j : Int)) = ((i + j : Nat) : Int) := by simp
  rw [this]
end SW
namespace SW
open PySem L2

theorem wq_eqE {a b : End} {S : Sto} {Q : D → Sto → Prop} : Wp (eqD (eD a) (eD b) S) Q ↔ Q (.bl (decide (a = b))) S := by
  have e : eqD (eD a) (eD b) S = some (.bl (decide (a = b)), S) := by
    show some (D.bl (PyData.eqv (.tuple [.int a.1, .int a.2]) (.tuple [.int b.1, .int b.2])), S) = _
    congr 3
    simp only [PyData.eqv, PyData.eqvAll]
    by_cases h : a = b
    · subst h; simp
    · have : ¬ ((a.1 : Int) = (b.1 : Int) ∧ (a.2 : Int) = (b.2 : Int)) := fun ⟨x, y⟩ => h (Prod.ext (by omega) (by omega))
      simp [h]
      intro x y
      exact this ⟨by omega, by omega⟩
  rw [e]; exact wp_some
theorem wq_t0 {t : End × End} {S : Sto} {Q : D → Sto → Prop} : Wp (sbD (tD t) (.int 0) S) Q ↔ Q (eD t.1) S := by
  unfold tD
  have : atI [eD t.1, eD t.2] 0 = some (eD t.1) := rfl
  rw [wq_sbT, this]; simp
theorem wq_t1 {t : End × End} {S : Sto} {Q : D → Sto → Prop} : Wp (sbD (tD t) (.int 1) S) Q ↔ Q (eD t.2) S := by
  unfold tD
  have : atI [eD t.1, eD t.2] 1 = some (eD t.2) := rfl
  rw [wq_sbT, this]; simp
def Cv1 (S0 : Sto) (b many z : Nat) (w : Wb) (i : Nat) (τ : Tau) (S : Sto) : Prop := ∃ (o3 o4 o5 o6 : Option D), τ = [some (.loc b), some (wD w), some (.int (many : Int)), o3, o4, o5, o6] ∧ Bx S b (z + i * 3456) ∧ Fr S0 S b
end SW
namespace SW
open PySem L2

end SW
namespace SW
open PySem L2

/-- the ends met on a way -/
def spots (w : Wb) : Nat → List Nat → Option (List End)
  | _, [] => some []
  | r, d :: ds => (aT w r d).bind fun e => (spots w e.1 ds).map (e :: ·)
def lastR (r : Nat) (es : List End) : Nat := match es.getLast? with | some e => e.1 | none => r
end SW
namespace SW
open PySem L2

/-- a way: a tuple, or a list of the store -/
def WayAt (S : Sto) (d : D) (ds : List Nat) : Prop := match d with
  | .tup l => l = ds.map nD
  | .loc n => S[n]? = some (.lst (ds.map nD))
  | _ => False
theorem WayAt.of {S S' : Sto} {d : D} {ds : List Nat} (h : WayAt S d ds) (k : ∀ n, n < S.length → S'[n]? = S[n]?) : WayAt S' d ds := by
  cases d with
  | tup l => exact h
  | loc n => exact (k n (sto_lt h)).trans h
  | _ => exact h.elim
theorem WayAt.len {S : Sto} {d : D} {ds : List Nat} {Q : D → Sto → Prop} (h : WayAt S d ds) : Wp (lenD [d] S) Q ↔ Q (.int (ds.length : Nat)) S := by
  cases d with
  | tup l =>
    have h : l = ds.map nD := h
    subst h
    rw [len_tup, List.length_map]
  | loc n => rw [len_loc h, List.length_map]
  | _ => exact h.elim
theorem WayAt.list {S : Sto} {d : D} {ds : List Nat} {Q : D → Sto → Prop} (h : WayAt S d ds) : Wp (listD [d] S) Q ↔ Q (.loc S.length) (S ++ [.lst (ds.map nD)]) := by
  cases d with
  | tup l =>
    have h : l = ds.map nD := h
    subst h
    rw [wq_listT]
  | loc n => rw [wq_listL h]
  | _ => exact h.elim
/-- the first k steps -/
theorem WayAt.take {S : Sto} {d : D} {ds : List Nat} {k : Nat} {Q : D → Sto → Prop} (h : WayAt S d ds) (q : ∀ (S' : Sto) (d' : D), WayAt S' d' (ds.take k) → S.length ≤ S'.length → (∀ n, n < S.length → S'[n]? = S[n]?) → Q d' S') : Wp (slD d none (some (k : Int)) S) Q := by
  cases d with
  | tup l =>
    have h : l = ds.map nD := h
    subst h
    rw [wq_slT, cut_take]
    exact q S _ (by rw [← List.map_take]; rfl) (Nat.le_refl _) fun _ _ => rfl
  | loc n =>
    rw [wq_slL h, cut_take, ← List.map_take]
    exact q _ _ sto_new (by simp) fun n hn => sto_app hn
  | _ => exact h.elim
end SW
namespace SW
open PySem L2
end SW
namespace SW
open PySem L2

end SW
namespace SW
open PySem L2

/-- numbers, truths, None, tuples of such, n deep -/
def pl : Nat → D → Bool
  | _, .non => true
  | _, .bl _ => true
  | _, .int _ => true
  | n + 1, .tup ds => decide (ds.length ≤ 1000) && ds.all (pl n)
  | _, _ => false
theorem wp_eqB {a b : Bool} {S : Sto} {Q : D → Sto → Prop} : Wp (eqD (.bl a) (.bl b) S) Q ↔ Q (.bl (a == b)) S := by
  have e : eqD (.bl a) (.bl b) S = some (.bl (a == b), S) := by
    cases a <;> cases b <;> rfl
  rw [e]; exact wp_some
theorem wp_neB {a b : Bool} {S : Sto} {Q : D → Sto → Prop} : Wp (neD (.bl a) (.bl b) S) Q ↔ Q (.bl (!(a == b))) S := by
  have e : neD (.bl a) (.bl b) S = some (.bl (!(a == b)), S) := by
    cases a <;> cases b <;> rfl
  rw [e]; exact wp_some
section
variable {S : Sto} {Q : D → Sto → Prop}
theorem isi_ib {i : Int} : Wp (isiD [.int i, .ty "bool"] S) Q ↔ Q (.bl false) S := by
  have e : isiD [.int i, .ty "bool"] S = some (.bl false, S) := rfl
  rw [e]; exact wp_some
theorem isi_ii {i : Int} : Wp (isiD [.int i, .ty "int"] S) Q ↔ Q (.bl true) S := by
  have e : isiD [.int i, .ty "int"] S = some (.bl true, S) := rfl
  rw [e]; exact wp_some
theorem isi_ilt {i : Int} : Wp (isiD [.int i, .tup [.ty "list", .ty "tuple"]] S) Q ↔ Q (.bl false) S := by
  have e : isiD [.int i, .tup [.ty "list", .ty "tuple"]] S = some (.bl false, S) := rfl
  rw [e]; exact wp_some
theorem isi_bb {i : Bool} : Wp (isiD [.bl i, .ty "bool"] S) Q ↔ Q (.bl true) S := by
  have e : isiD [.bl i, .ty "bool"] S = some (.bl true, S) := rfl
  rw [e]; exact wp_some
theorem isi_tb {i : List D} : Wp (isiD [.tup i, .ty "bool"] S) Q ↔ Q (.bl false) S := by
  have e : isiD [.tup i, .ty "bool"] S = some (.bl false, S) := rfl
  rw [e]; exact wp_some
theorem isi_tl {i : List D} : Wp (isiD [.tup i, .ty "list"] S) Q ↔ Q (.bl false) S := by
  have e : isiD [.tup i, .ty "list"] S = some (.bl false, S) := rfl
  rw [e]; exact wp_some
theorem isi_tt {i : List D} : Wp (isiD [.tup i, .ty "tuple"] S) Q ↔ Q (.bl true) S := by
  have e : isiD [.tup i, .ty "tuple"] S = some (.bl true, S) := rfl
  rw [e]; exact wp_some
theorem isi_tlt {i : List D} : Wp (isiD [.tup i, .tup [.ty "list", .ty "tuple"]] S) Q ↔ Q (.bl true) S := by
  have e : isiD [.tup i, .tup [.ty "list", .ty "tuple"]] S = some (.bl true, S) := rfl
  rw [e]; exact wp_some
end
theorem zips_self : ∀ ds : List D, zipsT ds ds = ds.map fun d => .tup [d, d]
  | [] => rfl
  | d :: ds => by rw [List.map_cons, ← zips_self ds]; rfl
theorem bls_rep (n : Nat) : blsOf (List.replicate n (D.bl true)) = some (List.replicate n true) := by
  induction n with
  | zero => rfl
  | succ n ih =>
    rw [List.replicate_succ]
    show (blsOf (List.replicate n (D.bl true))).map _ = _
    rw [ih]; rfl
def AlI (S0 : Sto) (i : Nat) (acc : List D) (S : Sto) : Prop := acc = List.replicate i (D.bl true) ∧ S0.length ≤ S.length ∧ ∀ n, n < S0.length → S[n]? = S0[n]?
theorem alike_ok : ∀ (n : Nat) (d : D) (S : Sto) (Q : D → Sto → Prop), pl n d = true → (∀ S' : Sto, S.length ≤ S'.length → (∀ m, m < S.length → S'[m]? = S[m]?) → Q (.bl true) S') → Wp (g_l_alike (n + 1) [d, d] S) Q := by
  intro n
  induction n with
  | zero =>
    intro d S Q hp q
    show Wp (fnD 2 4 (b_l_alike (g_l_alike 0)) [d, d] S) Q
    refine (wp_fnD (by rfl)).mpr ?_
    unfold b_l_alike
    cases d with
    | non =>
      (simp! only [isNonD])
      exact q S (Nat.le_refl _) fun _ _ => rfl
    | bl b =>
      (simp! only [isNonD, isi_bb, wp_eqB])
      have : (b == b) = true := by cases b <;> rfl
      rw [this]
      exact q S (Nat.le_refl _) fun _ _ => rfl
    | int i =>
      (simp! only [isNonD, isi_ib, isi_ii, isi_ilt, wp_eqI])
      exact q S (Nat.le_refl _) fun _ _ => rfl
    | _ => cases hp
  | succ n ih =>
    intro d S Q hp q
    show Wp (fnD 2 4 (b_l_alike (g_l_alike (n + 1))) [d, d] S) Q
    refine (wp_fnD (by rfl)).mpr ?_
    unfold b_l_alike
    cases d with
    | non =>
      (simp! only [isNonD])
      exact q S (Nat.le_refl _) fun _ _ => rfl
    | bl b =>
      (simp! only [isNonD, isi_bb, wp_eqB])
      have : (b == b) = true := by cases b <;> rfl
      rw [this]
      exact q S (Nat.le_refl _) fun _ _ => rfl
    | int i =>
      (simp! only [isNonD, isi_ib, isi_ii, isi_ilt, wp_eqI])
      exact q S (Nat.le_refl _) fun _ _ => rfl
    | tup ds =>
      rw [pl, Bool.and_eq_true, decide_eq_true_eq, List.all_eq_true] at hp
      obtain ⟨hl, hp⟩ := hp
      (simp! only [isNonD, isi_tb, isi_tt, isi_tl, isi_tlt, wp_neB, wp_eqI])
      rw [if_neg (by decide), if_neg (by decide), zips_self]
      refine lc_fixed _ (by simp; omega) (AlI S) ⟨rfl, Nat.le_refl _, fun _ _ => rfl⟩ ?_ ?_
      · rintro i x acc S1 hx ⟨rfl, hl1, hf1⟩
        rw [List.getElem?_map] at hx
        obtain ⟨y, hy, rfl⟩ := Option.map_eq_some_iff.mp hx
        (simp! only [])
        refine ih y S1 _ (hp y (List.mem_of_getElem? hy)) fun S2 hl2 hf2 => ⟨?_, by omega, fun m hm => by rw [hf2 m (by omega)]; exact hf1 m hm⟩
        exact List.replicate_succ'.symm
      · rintro acc S1 ⟨rfl, hl1, hf1⟩
        rw [wq_allL sto_new (bls_rep _)]
        have : (List.replicate (ds.map fun d => D.tup [d, d]).length true).all id = true := by simp
        rw [this]
        exact q _ (by simp; omega) fun m hm => by rw [sto_app (by omega)]; exact hf1 m hm
    | _ => cases hp
end SW
namespace SW
open PySem L2
end SW
namespace SW
open PySem L2

end SW
namespace SW
open PySem L2
end SW
namespace SW
open PySem L2

theorem WayAt.tuple {S : Sto} {d : D} {ds : List Nat} {Q : D → Sto → Prop} (h : WayAt S d ds) : Wp (tupleD [d] S) Q ↔ Q (.tup (ds.map nD)) S := by
  cases d with
  | tup l =>
    have h : l = ds.map nD := h
    subst h
    rw [wq_tupleT]
  | loc n => rw [wq_tupleL h]
  | _ => exact h.elim
theorem WayAt.tup {S : Sto} {ds : List Nat} : WayAt S (.tup (ds.map nD)) ds := rfl
end SW
namespace SW
open PySem L2
end SW
namespace SW
open PySem L2

end SW
namespace SW
open PySem L2
def b_renumbered : EvS := (seqS (stS 2 (b2E mulD (aE lstD (consA (aE tupD nilA) nilA)) (aE lenD (consA (vE 0) nilA))))
  (seqS (forS (enI (vE 0)) (.tp [(.nm 3), (.nm 4)]) (asS (aE tupleD (consA (lcE (sqI (vE 4)) (.tp [(.nm 5), (.nm 6)]) yesT (aE tupD (consA (b2E sbD (vE 1) (vE 5)) (consA (vE 6) nilA))) [5, 6]) nilA)) (subG (vE 2) (b2E sbD (vE 1) (vE 3)))))
  (rtS (aE tupleD (consA (vE 2) nilA)))))
def g_renumbered : Fn := fnD 2 7 b_renumbered
def b_rooms_met : EvS := (seqS (stS 2 (aE lstD (consA (vE 1) nilA)))
  (seqS (stS 3 (cE (.int 0)))
  (seqS (whS (tB (b2E ltD (vE 3) (aE lenD (consA (vE 2) nilA)))) (seqS (forS (sqI (b2E sbD (vE 0) (b2E sbD (vE 2) (vE 3)))) (.tp [(.nm 4), (.nm 5)]) (ifS (tB (b2E notInD (vE 4) (vE 2))) (exS (mE appendM (vE 2) (consA (vE 4) nilA))) nxS))
  (augS 3 addI (cE (.int 1)))))
  (rtS (vE 2)))))
def g_rooms_met : Fn := fnD 2 6 b_rooms_met
def b_told_from : EvS := (seqS (stS 2 (b2E mulD (aE lstD (consA (cE (.int 0)) nilA)) (aE lenD (consA (vE 0) nilA))))
  (seqS (forS (enI (aE g_rooms_met (consA (vE 0) (consA (vE 1) nilA)))) (.tp [(.nm 3), (.nm 4)]) (asS (vE 3) (subG (vE 2) (vE 4))))
  (rtS (aE g_renumbered (consA (vE 0) (consA (vE 2) nilA))))))
def g_told_from : Fn := fnD 2 5 b_told_from
end SW
namespace SW
open PySem L2

/-! the rooms in the order in which they are come to, told by a function -/
def metStep (xs : List Nat) (e : End) : List Nat := if e.1 ∈ xs then xs else xs ++ [e.1]
def metRow (xs : List Nat) (row : List End) : List Nat := row.foldl metStep xs
def met (w : Wb) : Nat → Nat → List Nat → List Nat
  | 0, _, xs => xs
  | n + 1, k, xs => match xs[k]? with
    | some r => met w n (k + 1) (metRow xs ((w[r]?).getD []))
    | none => xs
/-- .. from room a -/
def metL (w : Wb) (a : Nat) : List Nat := met w w.length 0 [a]
theorem met_done {w : Wb} {n k : Nat} {xs : List Nat} (h : xs.length ≤ k) : met w n k xs = xs := by
  cases n with
  | zero => rfl
  | succ n => simp only [met, List.getElem?_eq_none_iff.mpr h]
theorem metRow_take {xs : List Nat} {row : List End} {i : Nat} {e : End} (h : row[i]? = some e) : metRow xs (row.take (i + 1)) = metStep (metRow xs (row.take i)) e := by
  unfold metRow
  rw [List.take_add_one, h, List.foldl_append]; rfl
def MtI (S0 : Sto) (w : Wb) (a n : Nat) (τ : Tau) (S : Sto) : Prop := ∃ (xs : List Nat) (k : Nat) (o4 o5 : Option D), τ = [some (wD w), some (nD a), some (.loc S0.length), some (nD k), o4, o5] ∧ RcOk w a k xs ∧ k + n = w.length ∧ met w n k xs = metL w a ∧ S[S0.length]? = some (.lst (xs.map nD)) ∧ S.length = S0.length + 1 ∧ ∀ m, m < S0.length → S[m]? = S0[m]?
def MtJ (S0 : Sto) (w : Wb) (a k r : Nat) (xs0 : List Nat) (row : List End) (i : Nat) (τ : Tau) (S : Sto) : Prop := ∃ (xs : List Nat) (o4 o5 : Option D), τ = [some (wD w), some (nD a), some (.loc S0.length), some (nD k), o4, o5] ∧ RcOk w a k xs ∧ xs[k]? = some r ∧ xs = metRow xs0 (row.take i) ∧ (∀ i' e, i' < i → aT w r i' = some e → e.1 ∈ xs) ∧ S[S0.length]? = some (.lst (xs.map nD)) ∧ S.length = S0.length + 1 ∧ ∀ m, m < S0.length → S[m]? = S0[m]?
def metB (inc : EvS) : EvS := (seqS (stS 2 (aE lstD (consA (vE 1) nilA)))
  (seqS (stS 3 (cE (.int 0)))
  (seqS (whS (tB (b2E ltD (vE 3) (aE lenD (consA (vE 2) nilA)))) (seqS (forS (sqI (b2E sbD (vE 0) (b2E sbD (vE 2) (vE 3)))) (.tp [(.nm 4), (.nm 5)]) (ifS (tB (b2E notInD (vE 4) (vE 2))) (exS (mE appendM (vE 2) (consA (vE 4) nilA))) nxS))
  inc))
  (rtS (vE 2)))))
theorem metB_ok {inc : EvS} (hinc : ∀ (o0 o1 o2 o4 o5 : Option D) (k : Nat) (S : Sto) (Q : Out → Sto → Prop), Q (.nx [o0, o1, o2, some (nD (k + 1)), o4, o5]) S → Wp (inc [o0, o1, o2, some (nD k), o4, o5] S) Q)
    {S : Sto} {w : Wb} {a : Nat} {Q : D → Sto → Prop} (hc : Closed w) (ha : a < w.length) (hw : w.length ≤ 24)
    (q : ∀ S' : Sto, RcOk w a (metL w a).length (metL w a) → S'[S.length]? = some (.lst ((metL w a).map nD)) → S'.length = S.length + 1 → (∀ n, n < S.length → S'[n]? = S[n]?) → Q (.loc S.length) S') : Wp (fnD 2 6 (metB inc) [wD w, nD a] S) Q := by
  refine (wp_fnD (by rfl)).mpr ?_
  unfold metB
  (simp! only [])
  refine wp_while (MtI S w a) w.length (by omega) ⟨[a], 0, _, _, rfl, ⟨by simp, by simpa using ha, by simp; exact .refl, by simp, fun i _ _ hi => by omega⟩, by omega, rfl, sto_new, by simp, fun n hn => sto_app hn⟩ ?_
  rintro n τ S1 ⟨xs, k, o4, o5, rfl, R, hkn, hmet, hx, hl, hf⟩
  have hxl := nodup_le R.nd R.lt
  (simp! only [len_loc hx, List.length_map, nD])
  by_cases hk : k < xs.length
  · rw [if_pos (by omega)]
    have hr : xs[k]? = some xs[k] := List.getElem?_eq_getElem hk
    generalize xs[k] = r at hr
    have hrl := R.lt r (List.mem_of_getElem? hr)
    have hat : atI (xs.map nD) (k : Int) = some (nD r) := atI_of (by rw [List.getElem?_map, hr]; rfl)
    have hrow : w[r]? = some w[r] := List.getElem?_eq_getElem hrl
    generalize w[r] = x at hrow
    (simp! only [wq_sbL hx])
    refine ⟨_, hat, ?_⟩
    unfold nD
    rw [wq_row hrow]
    refine ⟨_, rfl, ?_⟩
    have hJ0 : MtJ S w a k r xs x 0 [some (wD w), some (nD a), some (.loc S.length), some (nD k), o4, o5] S1 := ⟨xs, _, _, rfl, R, hr, rfl, fun i' e h => by omega, hx, hl, hf⟩
    refine lo_fixed (x.map eD) (MtJ S w a k r xs x) hJ0 ?_ ?_
    · rintro i d τ S2 hd ⟨ys, o4, o5, rfl, R, hr, hys, hdn, hx, hl, hf⟩
      rw [List.getElem?_map] at hd
      obtain ⟨e, he, rfl⟩ := Option.map_eq_some_iff.mp hd
      have hat : aT w r i = some e := aT_some.mpr ⟨x, hrow, he⟩
      have hes := hc r i e.1 e.2 hat
      have hst := metRow_take (xs := xs) he
      rw [← hys] at hst
      unfold metStep at hst
      unfold eD
      (simp! only [wq_notIn hx])
      have hstep : ∀ zs : List Nat, (∀ y ∈ ys, y ∈ zs) → e.1 ∈ zs → ∀ i' e', i' < i + 1 → aT w r i' = some e' → e'.1 ∈ zs := fun zs h1 h2 i' e' hi' ha' => by
        by_cases z : i' = i
        · subst z; rw [hat] at ha'; cases ha'; exact h2
        · exact h1 _ (hdn i' e' (by omega) ha')
      by_cases hm : e.1 ∈ ys
      · rw [if_pos hm] at hst
        simp only [hm, decide_true, Bool.not_true, Bool.false_eq_true, if_false]
        exact ⟨ys, _, _, rfl, R, hr, hst.symm, hstep ys (fun _ h => h) hm, hx, hl, hf⟩
      · rw [if_neg hm] at hst
        simp only [hm, decide_false, Bool.not_false, if_true]
        have hxl := nodup_le R.nd R.lt
        (simp! only [isLst_loc hx, wq_append hx, List.length_map])
        refine ⟨by omega, ys ++ [e.1], _, _, rfl, ⟨?_, ?_, ?_, ?_, ?_⟩, ?_, hst.symm, hstep _ (fun y h => List.mem_append_left _ h) (by simp), ?_, by simpa using hl, fun n hn => by rw [sto_ne (by omega)]; exact hf n hn⟩
        · rw [List.nodup_append]
          refine ⟨R.nd, by simp, fun y hy z hz e => ?_⟩
          simp at hz
          subst hz; subst e
          exact hm hy
        · intro y hy
          rcases List.mem_append.mp hy with hy | hy
          · exact R.lt y hy
          · simp at hy; subst hy; exact hes
        · intro y hy
          rcases List.mem_append.mp hy with hy | hy
          · exact R.rch y hy
          · simp at hy; subst hy; exact .step (R.rch r (List.mem_of_getElem? hr)) ⟨i, e.2, hat⟩
        · exact List.mem_append_left _ R.one
        · intro i' y s hi' hy hadj
          have hkl : k < ys.length := (List.getElem?_eq_some_iff.mp hr).1
          rw [List.getElem?_append_left (by omega)] at hy
          exact List.mem_append_left _ (R.done i' y s hi' hy hadj)
        · rw [List.getElem?_append_left (List.getElem?_eq_some_iff.mp hr).1]; exact hr
        · rw [sto_set hx, List.map_append]; rfl
    · rintro τ S2 ⟨ys, o4, o5, rfl, R, hr', hys, hdn, hx, hl, hf⟩
      rw [List.length_map] at hdn hys
      rw [List.take_length] at hys
      rw [cont_nx]
      refine hinc _ _ _ _ _ k S2 _ ?_
      have hn : n = (n - 1) + 1 := by omega
      refine ⟨n - 1, by omega, ys, k + 1, o4, o5, rfl, ⟨R.nd, R.lt, R.rch, R.one, ?_⟩, by omega, ?_, hx, hl, hf⟩
      · intro i y s hi hy hadj
        by_cases z : i = k
        · subst z
          rw [hr'] at hy; cases hy
          obtain ⟨i', j, h⟩ := hadj
          refine hdn i' _ ?_ h
          obtain ⟨x', hx', hi'⟩ := aT_some.mp h
          rw [hrow] at hx'; cases hx'
          exact (List.getElem?_eq_some_iff.mp hi').1
        · exact R.done i y s (by omega) hy hadj
      · rw [← hmet]
        conv => rhs; rw [hn]
        simp only [met, hr, hrow, Option.getD_some]
        rw [← hys]
  · rw [if_neg (by omega)]
    (simp! only [])
    rw [met_done (by omega)] at hmet
    subst hmet
    exact q S1 ⟨R.nd, R.lt, R.rch, R.one, fun i y s hi => R.done i y s (by omega)⟩ hx hl hf
end SW
namespace SW
open PySem L2

def rowD (w : Wb) (r : Nat) : List End := (w[r]?).getD []
def mapE (ν : Nat → Nat) (row : List End) : List End := row.map fun e => (ν e.1, e.2)
/-- the web with the numbers in which its rooms are come to -/
def toldW (w : Wb) (a : Nat) : Wb := (metL w a).map fun r => mapE (fun x => (metL w a).idxOf x) (rowD w r)
/-- w' is w with other numbers -/
structure Ren (w w' : Wb) (ν : Nat → Nat) : Prop where
  len : w'.length = w.length
  lt : ∀ r, r < w.length → ν r < w.length
  inj : ∀ r s, r < w.length → s < w.length → ν r = ν s → r = s
  row : ∀ r, r < w.length → rowD w' (ν r) = mapE ν (rowD w r)
theorem rowD_lt {w : Wb} (hc : Closed w) {r : Nat} {e : End} (h : e ∈ rowD w r) : e.1 < w.length := by
  unfold rowD at h
  cases hx : w[r]? with
  | none => rw [hx] at h; simp at h
  | some x =>
    rw [hx] at h
    obtain ⟨i, hi⟩ := List.getElem?_of_mem h
    exact hc r i e.1 e.2 (aT_some.mpr ⟨x, hx, hi⟩)
section
variable {w w' : Wb} {ν : Nat → Nat}
theorem Ren.mem (R : Ren w w' ν) {xs : List Nat} (hx : ∀ x ∈ xs, x < w.length) {y : Nat} (hy : y < w.length) : ν y ∈ xs.map ν ↔ y ∈ xs := by
  constructor
  · intro h
    obtain ⟨z, hz, e⟩ := List.mem_map.mp h
    have := R.inj z y (hx z hz) hy e
    subst this
    exact hz
  · exact fun h => List.mem_map.mpr ⟨y, h, rfl⟩
theorem Ren.metRow (R : Ren w w' ν) : ∀ (row : List End) (xs : List Nat), (∀ e ∈ row, e.1 < w.length) → (∀ x ∈ xs, x < w.length) →
    SW.metRow (xs.map ν) (mapE ν row) = (SW.metRow xs row).map ν ∧ ∀ x ∈ SW.metRow xs row, x < w.length
  | [], xs, _, hx => ⟨rfl, hx⟩
  | e :: row, xs, hr, hx => by
    have he := hr e List.mem_cons_self
    have hr' : ∀ e ∈ row, e.1 < w.length := fun y hy => hr y (List.mem_cons_of_mem _ hy)
    show SW.metRow (metStep (xs.map ν) (ν e.1, e.2)) (mapE ν row) = (SW.metRow (metStep xs e) row).map ν ∧ ∀ x ∈ SW.metRow (metStep xs e) row, x < w.length
    have hm := R.mem hx he
    unfold metStep
    by_cases h : e.1 ∈ xs
    · rw [if_pos (hm.mpr h), if_pos h]
      exact Ren.metRow R row xs hr' hx
    · rw [if_neg (fun z => h (hm.mp z)), if_neg h]
      have e1 : xs.map ν ++ [ν e.1] = (xs ++ [e.1]).map ν := by rw [List.map_append]; rfl
      show SW.metRow (xs.map ν ++ [ν e.1]) _ = _ ∧ _
      rw [e1]
      refine Ren.metRow R row (xs ++ [e.1]) hr' fun x hxm => ?_
      rcases List.mem_append.mp hxm with h1 | h1
      · exact hx x h1
      · simp at h1; subst h1; exact he
theorem Ren.met (R : Ren w w' ν) (hc : Closed w) : ∀ (n k : Nat) (xs : List Nat), (∀ x ∈ xs, x < w.length) →
    SW.met w' n k (xs.map ν) = (SW.met w n k xs).map ν ∧ ∀ x ∈ SW.met w n k xs, x < w.length
  | 0, k, xs, hx => ⟨rfl, hx⟩
  | n + 1, k, xs, hx => by
    simp only [SW.met, List.getElem?_map]
    cases h : xs[k]? with
    | none => exact ⟨rfl, hx⟩
    | some r =>
      simp only [Option.map_some]
      have hr := hx r (List.mem_of_getElem? h)
      have e1 : (w'[ν r]?).getD [] = mapE ν ((w[r]?).getD []) := R.row r hr
      rw [e1]
      obtain ⟨m1, m2⟩ := R.metRow ((w[r]?).getD []) xs (fun e he => rowD_lt hc (r := r) he) hx
      rw [m1]
      exact Ren.met R hc n (k + 1) _ m2
theorem Ren.metL (R : Ren w w' ν) (hc : Closed w) {a : Nat} (ha : a < w.length) : SW.metL w' (ν a) = (SW.metL w a).map ν ∧ ∀ x ∈ SW.metL w a, x < w.length := by
  unfold SW.metL
  rw [R.len]
  exact R.met hc w.length 0 [a] (by simpa using ha)
theorem Ren.idx (R : Ren w w' ν) : ∀ (xs : List Nat) (y : Nat), (∀ x ∈ xs, x < w.length) → y < w.length → (xs.map ν).idxOf (ν y) = xs.idxOf y
  | [], y, _, _ => rfl
  | x :: xs, y, hx, hy => by
    rw [List.map_cons, List.idxOf_cons, List.idxOf_cons, Ren.idx R xs y (fun z hz => hx z (List.mem_cons_of_mem _ hz)) hy]
    have h1 := hx x List.mem_cons_self
    by_cases h : x = y
    · subst h; simp
    · have h2 : ¬ ν x = ν y := fun z => h (R.inj x y h1 hy z)
      have h3 : (ν x == ν y) = false := beq_eq_false_iff_ne.mpr h2
      have h4 : (x == y) = false := beq_eq_false_iff_ne.mpr h
      rw [h3, h4]
/-- what is told is told of each numbering alike -/
theorem Ren.told (R : Ren w w' ν) (hc : Closed w) {a : Nat} (ha : a < w.length) : toldW w' (ν a) = toldW w a := by
  obtain ⟨m1, m2⟩ := R.metL hc ha
  unfold toldW
  rw [m1, List.map_map]
  apply List.map_congr_left
  intro r hr
  show mapE (fun x => (List.map ν (SW.metL w a)).idxOf x) (rowD w' (ν r)) = _
  rw [R.row r (m2 r hr)]
  unfold mapE
  rw [List.map_map]
  apply List.map_congr_left
  intro e he
  show ((List.map ν (SW.metL w a)).idxOf (ν e.1), e.2) = _
  rw [R.idx _ _ m2 (rowD_lt hc he)]
end
theorem idx_at : ∀ {xs : List Nat} {i x : Nat}, xs.Nodup → xs[i]? = some x → xs.idxOf x = i := by
  intro xs i x hn h
  have hm : x ∈ xs := List.mem_of_getElem? h
  have hl : xs.idxOf x < xs.length := List.idxOf_lt_length_iff.mpr hm
  have hj : xs[xs.idxOf x]? = some x := by rw [List.getElem?_eq_getElem hl, List.getElem_idxOf hl]
  exact (List.getElem?_inj hl hn).mp (by rw [hj, h])
/-- where all rooms are met: the told web is the web with other numbers -/
theorem told_ren {w : Wb} {a : Nat} (hc : Closed w) (hn : (metL w a).Nodup) (hall : ∀ r, r < w.length → r ∈ metL w a) (hlt : ∀ r ∈ metL w a, r < w.length) (hl : (metL w a).length = w.length) : Ren w (toldW w a) (fun x => (metL w a).idxOf x) := by
  refine ⟨by unfold toldW; simpa using hl, fun r hr => ?_, fun r s hr hs e => ?_, fun r hr => ?_⟩
  · rw [← hl]; exact List.idxOf_lt_length_iff.mpr (hall r hr)
  · have h1 := List.idxOf_lt_length_iff.mpr (hall r hr)
    have h2 := List.idxOf_lt_length_iff.mpr (hall s hs)
    have g1 := List.getElem_idxOf h1
    have g2 := List.getElem_idxOf h2
    rw [← g1, ← g2]
    congr 1
  · have h1 := List.idxOf_lt_length_iff.mpr (hall r hr)
    have hj : (metL w a)[(metL w a).idxOf r]? = some r := by rw [List.getElem?_eq_getElem h1, List.getElem_idxOf h1]
    unfold rowD toldW
    rw [List.getElem?_map, hj]
    rfl
end SW
namespace SW
open PySem L2

theorem rooms_met_ok {S : Sto} {w : Wb} {a : Nat} {Q : D → Sto → Prop} (hc : Closed w) (ha : a < w.length) (hw : w.length ≤ 24)
    (q : ∀ S' : Sto, RcOk w a (metL w a).length (metL w a) → S'[S.length]? = some (.lst ((metL w a).map nD)) → S'.length = S.length + 1 → (∀ n, n < S.length → S'[n]? = S[n]?) → Q (.loc S.length) S') : Wp (g_rooms_met [wD w, nD a] S) Q := by
  refine metB_ok (inc := augS 3 addI (cE (.int 1))) (fun o0 o1 o2 o4 o5 k S Q h => ?_) hc ha hw q
  unfold nD
  (simp! only [])
  exact h
theorem rowD_of {w : Wb} {r : Nat} {x : List End} (h : w[r]? = some x) : rowD w r = x := by unfold rowD; rw [h]; rfl
end SW
namespace SW
open PySem L2

/-- the number of room r -/
def nu (ns : List Nat) (r : Nat) : Nat := ns.getD r 0
theorem nu_of {ns : List Nat} {r x : Nat} (h : ns[r]? = some x) : nu ns r = x := by unfold nu; rw [List.getD_eq_getElem?_getD, h]; rfl
def renW (w : Wb) (ns : List Nat) : Wb := (List.range w.length).map fun p => mapE (nu ns) (rowD w (ns.idxOf p))
theorem nu_at {ns : List Nat} {n r : Nat} (h : PermOk n ns) (hr : r < n) : ns[r]? = some (nu ns r) := by
  have hl := h.len
  have e : ns[r]? = some ns[r] := List.getElem?_eq_getElem (by omega)
  rw [nu_of e]; exact e
theorem nu_lt {ns : List Nat} {n r : Nat} (h : PermOk n ns) (hr : r < n) : nu ns r < n := h.lt _ (List.mem_of_getElem? (nu_at h hr))
theorem nu_inj {ns : List Nat} {n r s : Nat} (h : PermOk n ns) (hr : r < n) (hs : s < n) (e : nu ns r = nu ns s) : r = s :=
  h.inj (nu_at h hr) (e ▸ nu_at h hs)
theorem nu_surj {ns : List Nat} {n p : Nat} (h : PermOk n ns) (hp : p < n) : ∃ r, r < n ∧ nu ns r = p ∧ ns.idxOf p = r := by
  obtain ⟨r, hr⟩ := h.surj hp
  have hl := h.len
  exact ⟨r, by rw [← hl]; exact (List.getElem?_eq_some_iff.mp hr).1, nu_of hr, idx_at h.nd hr⟩
theorem rowD_ren {w : Wb} {ns : List Nat} (h : PermOk w.length ns) {r : Nat} (hr : r < w.length) : (renW w ns)[nu ns r]? = some (mapE (nu ns) (rowD w r)) := by
  unfold renW
  rw [List.getElem?_map, List.getElem?_range (nu_lt h hr), Option.map_some, idx_at h.nd (nu_at h hr)]
theorem renW_ren {w : Wb} {ns : List Nat} (h : PermOk w.length ns) : Ren w (renW w ns) (nu ns) :=
  ⟨by simp [renW], fun r hr => nu_lt h hr, fun r s hr hs e => nu_inj h hr hs e, fun r hr => rowD_of (rowD_ren h hr)⟩
/-- rows by their numbers: all set -/
theorem fill_end {w : Wb} {ns : List Nat} {M : List D} (h : PermOk w.length ns) (hl : M.length = w.length) (hM : ∀ r, r < w.length → M[nu ns r]? = some (rD (mapE (nu ns) (rowD w r)))) : M = (renW w ns).map rD := by
  apply List.ext_getElem?
  intro p
  by_cases hp : p < w.length
  · obtain ⟨r, hr, e, _⟩ := nu_surj h hp
    subst e
    rw [hM r hr, List.getElem?_map, rowD_ren h hr]; rfl
  · rw [List.getElem?_eq_none_iff.mpr (by omega), List.getElem?_eq_none_iff.mpr (by simp [renW]; omega)]
theorem Ren.uniq {w w1 w2 : Wb} {ν : Nat → Nat} (R1 : Ren w w1 ν) (R2 : Ren w w2 ν) : w1 = w2 := by
  have hl1 := R1.len
  have hl2 := R2.len
  have row_some : ∀ (v : Wb) (p : Nat), p < v.length → v[p]? = some (rowD v p) := fun v p hp => by
    have e : v[p]? = some v[p] := List.getElem?_eq_getElem hp
    rw [rowD_of e]; exact e
  apply List.ext_getElem?
  intro p
  by_cases hp : p < w.length
  · have hm : p ∈ (List.range w.length).map ν := by
      refine nodup_full (n := w.length) ?_ (fun x hx => ?_) (by simp) hp
      · rw [List.nodup_iff_pairwise_ne, List.pairwise_map]
        refine List.Pairwise.imp_of_mem ?_ (List.nodup_iff_pairwise_ne.mp List.nodup_range)
        intro a b ha hb hne e
        exact hne (R1.inj a b (List.mem_range.mp ha) (List.mem_range.mp hb) e)
      · obtain ⟨r, hr, rfl⟩ := List.mem_map.mp hx
        exact R1.lt r (List.mem_range.mp hr)
    obtain ⟨r, hr, rfl⟩ := List.mem_map.mp hm
    have hr := List.mem_range.mp hr
    rw [row_some w1 _ (by omega), row_some w2 _ (by omega), R1.row r hr, R2.row r hr]
  · rw [List.getElem?_eq_none_iff.mpr (by omega), List.getElem?_eq_none_iff.mpr (by omega)]
theorem WayAt.get {S : Sto} {d : D} {ds : List Nat} {i x : Nat} {Q : D → Sto → Prop} (h : WayAt S d ds) (hi : ds[i]? = some x) : Wp (sbD d (.int (i : Int)) S) Q ↔ Q (.int (x : Int)) S := by
  have ha : atI (ds.map nD) (i : Int) = some (nD x) := atI_of (by rw [List.getElem?_map, hi]; rfl)
  cases d with
  | tup l =>
    have h : l = ds.map nD := h
    subst h
    rw [wq_sbT, ha]; simp [nD]
  | loc n => rw [wq_sbL h, ha]; simp [nD]
  | _ => exact h.elim
/-- one row with its new numbers: what the inner comprehension makes -/
def RnJ (S0 : Sto) (ns : List Nat) (row : List End) (i : Nat) (acc : List D) (S : Sto) : Prop := acc = (mapE (nu ns) (row.take i)).map eD ∧ S = S0
def RnI (S0 : Sto) (w : Wb) (d : D) (ns : List Nat) (i : Nat) (τ : Tau) (S : Sto) : Prop := ∃ (M : List D) (o3 o4 o5 o6 : Option D), τ = [some (wD w), some d, some (.loc (S0.length + 1)), o3, o4, o5, o6] ∧ M.length = w.length ∧ (∀ r, r < i → M[nu ns r]? = some (rD (mapE (nu ns) (rowD w r)))) ∧ S[S0.length + 1]? = some (.lst M) ∧ S0.length + 2 ≤ S.length ∧ ∀ n, n < S0.length → S[n]? = S0[n]?
theorem renumbered_ok {S : Sto} {w : Wb} {d : D} {ns : List Nat} {Q : D → Sto → Prop} (hc : Closed w) (hw : w.length ≤ 24) (hd : ∀ (r : Nat) (x : List End), w[r]? = some x → x.length ≤ 6) (hp : PermOk w.length ns) (hn : WayAt S d ns)
    (q : ∀ S' : Sto, S.length ≤ S'.length → (∀ n, n < S.length → S'[n]? = S[n]?) → Q (wD (renW w ns)) S') : Wp (g_renumbered [wD w, d] S) Q := by
  unfold g_renumbered
  refine (wp_fnD (by rfl)).mpr ?_
  unfold b_renumbered
  have h1 : (S ++ [MO.lst [D.tup []]])[S.length]? = some (.lst [D.tup []]) := sto_new
  have l1 : (S ++ [MO.lst [D.tup []]]).length = S.length + 1 := by simp
  have hsrc : ∀ T : Sto, srcEnum (wD w) T = some (.fixed (enumsT 0 (w.map rD))) := fun _ => rfl
  (simp! only [len_w, wq_rep1 h1 (show w.length < 1000000 by omega), hsrc])
  rw [l1]
  have f2 : ∀ n, n < S.length → (S ++ [MO.lst [D.tup []]] ++ [MO.lst (List.replicate w.length (D.tup []))])[n]? = S[n]? := fun n hn => by rw [sto_app (by omega), sto_app hn]
  refine lo_enT (w.map rD) (RnI S w d ns) ⟨List.replicate w.length (.tup []), _, _, _, _, rfl, by simp, fun r hr => by omega, by rw [← l1]; exact sto_new, by simp, f2⟩ ?_ ?_
  · rintro i x τ S1 hx ⟨M, o3, o4, o5, o6, rfl, hl, hM, hm, hsl, hf⟩
    rw [List.getElem?_map] at hx
    obtain ⟨row, hrow, rfl⟩ := Option.map_eq_some_iff.mp hx
    have hi : i < w.length := (List.getElem?_eq_some_iff.mp hrow).1
    have hrow6 := hd i row hrow
    have hn1 := hn.of hf
    have hsr : ∀ T : Sto, srcOf (rD row) T = some (.fixed (row.map eD)) := fun _ => rfl
    (simp! only [hsr])
    refine lc_fixed _ (by simp; omega) (RnJ S1 ns row) ⟨rfl, rfl⟩ ?_ ?_
    · rintro j y acc S2 hy ⟨rfl, rfl⟩
      rw [List.getElem?_map] at hy
      obtain ⟨e, he, rfl⟩ := Option.map_eq_some_iff.mp hy
      have hel := hc i e.1 e.2 |> fun _ => (hc i j e.1 e.2 (aT_some.mpr ⟨row, hrow, he⟩))
      have hne := nu_at hp hel
      unfold eD
      (simp! only [hn1.get hne])
      refine ⟨?_, rfl⟩
      rw [List.take_add_one, he]
      unfold mapE
      rw [List.map_append, List.map_append]; rfl
    · rintro acc S2 ⟨rfl, rfl⟩
      rw [List.length_map, List.take_length]
      have hnew : (S2 ++ [MO.lst ((mapE (nu ns) row).map eD)])[S2.length]? = some (.lst ((mapE (nu ns) row).map eD)) := sto_new
      have hn2 : WayAt (S2 ++ [MO.lst ((mapE (nu ns) row).map eD)]) d ns := hn1.of fun m hm => sto_app hm
      have hm2 : (S2 ++ [MO.lst ((mapE (nu ns) row).map eD)])[S.length + 1]? = some (.lst M) := by rw [sto_app (by omega)]; exact hm
      have hni := nu_at hp hi
      have hlt := nu_lt hp hi
      (simp! only [wq_tupleL hnew, hn2.get hni])
      refine ⟨_, stD_lst (v := D.tup ((mapE (nu ns) row).map eD)) hm2 (i := nu ns i) (by omega), ?_⟩
      refine ⟨M.set (nu ns i) (rD (mapE (nu ns) row)), _, _, _, _, rfl, by simpa using hl, fun r hr => ?_, by rw [sto_set hm2]; rfl, by simp; omega, fun n hn => by rw [sto_ne (by omega), sto_app (by omega)]; exact hf n hn⟩
      by_cases z : r = i
      · subst z
        rw [List.getElem?_set_self (by omega), rowD_of hrow]
      · have : nu ns i ≠ nu ns r := fun e => z (nu_inj hp hi (by omega) e).symm
        rw [List.getElem?_set_ne this]
        exact hM r (by omega)
  · rintro τ S1 ⟨M, o3, o4, o5, o6, rfl, hl, hM, hm, hsl, hf⟩
    rw [List.length_map] at hM
    (simp! only [wq_tupleL hm])
    rw [fill_end hp hl hM]
    exact q S1 (by omega) hf
end SW
namespace SW
open PySem L2

theorem Rch.trans {w : Wb} {a b c : Nat} (h : Rch w a b) (g : Rch w b c) : Rch w a c := by
  induction g with
  | refl => exact h
  | step _ e ih => exact .step ih e
theorem Rch.symm {w : Wb} (hb : Back w) {a b : Nat} (h : Rch w a b) : Rch w b a := by
  induction h with
  | refl => exact .refl
  | step _ e ih =>
    obtain ⟨i, j, e⟩ := e
    exact Rch.trans (.step .refl ⟨j, i, hb _ _ _ _ e⟩) ih
theorem IsWeb.rch {w : Wb} (W : IsWeb w) {a b : Nat} (ha : a < w.length) (hb : b < w.length) : Rch w a b :=
  (Rch.symm W.back (W.con a ha).rch).trans (W.con b hb).rch
theorem met_rc {w : Wb} {a : Nat} (hc : Closed w) (ha : a < w.length) (hw : w.length ≤ 24) : RcOk w a (metL w a).length (metL w a) := by
  obtain ⟨_, _, _, h⟩ := rooms_met_ok (S := []) (Q := fun _ _ => RcOk w a (metL w a).length (metL w a)) hc ha hw fun S' R _ _ _ => R
  exact h
theorem met_all {w : Wb} {a : Nat} (W : IsWeb w) (ha : a < w.length) : ∀ r, r < w.length → r ∈ metL w a := fun r hr => by
  have R := met_rc W.back.closed ha W.few
  have h := W.rch ha hr
  induction h with
  | refl => exact R.one
  | step h1 e ih =>
    rename_i x s
    have hx : x < w.length := by
      obtain ⟨i, j, e⟩ := e
      exact aT_lt e
    obtain ⟨i, hi⟩ := List.getElem?_of_mem (ih hx)
    exact R.done i x s (List.getElem?_eq_some_iff.mp hi).1 hi e
theorem met_perm {w : Wb} {a : Nat} (W : IsWeb w) (ha : a < w.length) : PermOk w.length (metL w a) := by
  have R := met_rc W.back.closed ha W.few
  refine ⟨R.nd, R.lt, Nat.le_antisymm (nodup_le R.nd R.lt) ?_⟩
  have := nodup_le (n := (metL w a).length) (xs := (List.range w.length).map fun x => (metL w a).idxOf x) ?_ ?_
  · simpa using this
  · rw [List.nodup_iff_pairwise_ne, List.pairwise_map]
    refine List.Pairwise.imp_of_mem ?_ (List.nodup_iff_pairwise_ne.mp List.nodup_range)
    intro x y hx hy hne e
    have h1 := List.idxOf_lt_length_iff.mpr (met_all W ha x (List.mem_range.mp hx))
    have h2 := List.idxOf_lt_length_iff.mpr (met_all W ha y (List.mem_range.mp hy))
    have g1 := List.getElem_idxOf h1
    have g2 := List.getElem_idxOf h2
    apply hne
    rw [← g1, ← g2]
    congr 1
  · intro x hx
    obtain ⟨y, hy, rfl⟩ := List.mem_map.mp hx
    exact List.idxOf_lt_length_iff.mpr (met_all W ha y (List.mem_range.mp hy))
theorem told_ren' {w : Wb} {a : Nat} (W : IsWeb w) (ha : a < w.length) : Ren w (toldW w a) (fun x => (metL w a).idxOf x) :=
  told_ren W.back.closed (met_perm W ha).nd (met_all W ha) (met_perm W ha).lt (met_perm W ha).len
def TfI (S0 : Sto) (w : Wb) (a : Nat) (i : Nat) (τ : Tau) (S : Sto) : Prop := ∃ (c : Nat → Nat) (o3 o4 : Option D), τ = [some (wD w), some (nD a), some (.loc (S0.length + 1)), o3, o4] ∧ (∀ p x : Nat, p < i → (metL w a)[p]? = some x → c x = p) ∧ S[S0.length + 1]? = some (uD w.length c) ∧ S[S0.length + 2]? = some (.lst ((metL w a).map nD)) ∧ S.length = S0.length + 3 ∧ ∀ n, n < S0.length → S[n]? = S0[n]?
theorem told_from_ok {S : Sto} {w : Wb} {a : Nat} {Q : D → Sto → Prop} (W : IsWeb w) (ha : a < w.length)
    (q : ∀ S' : Sto, S.length ≤ S'.length → (∀ n, n < S.length → S'[n]? = S[n]?) → Q (wD (toldW w a)) S') : Wp (g_told_from [wD w, nD a] S) Q := by
  unfold g_told_from
  refine (wp_fnD (by rfl)).mpr ?_
  unfold b_told_from
  have hfew := W.few
  have h1 : (S ++ [MO.lst [D.int 0]])[S.length]? = some (.lst [D.int 0]) := sto_new
  have l1 : (S ++ [MO.lst [D.int 0]]).length = S.length + 1 := by simp
  (simp! only [len_w, wq_rep1 h1 (show w.length < 1000000 by omega)])
  rw [l1]
  have h2 : (S ++ [MO.lst [D.int 0]] ++ [MO.lst (List.replicate w.length (D.int 0))])[S.length + 1]? = some (uD w.length fun _ => 0) := by
    rw [← l1, sto_new]
    congr 2
    have : (fun r => nD ((fun _ : Nat => 0) r)) = fun _ : Nat => D.int 0 := rfl
    rw [this, List.map_const', List.length_range]
  have l2 : (S ++ [MO.lst [D.int 0]] ++ [MO.lst (List.replicate w.length (D.int 0))]).length = S.length + 2 := by simp
  have f2 : ∀ n, n < S.length → (S ++ [MO.lst [D.int 0]] ++ [MO.lst (List.replicate w.length (D.int 0))])[n]? = S[n]? := fun n hn => by rw [sto_app (by omega), sto_app hn]
  generalize S ++ [MO.lst [D.int 0]] ++ [MO.lst (List.replicate w.length (D.int 0))] = S2 at h2 l2 f2 ⊢
  refine rooms_met_ok W.back.closed ha hfew fun S3 R hx l3 f3 => ?_
  rw [l2] at hx
  rw [l2]
  have P := met_perm W ha
  refine ⟨_, srcE_loc hx, ?_⟩
  refine lo_en _ _ (TfI S w a) ⟨fun _ => 0, _, _, rfl, fun p x hp => by omega, (f3 _ (by omega)).trans h2, hx, by omega, fun n hn => (f3 n (by omega)).trans (f2 n hn)⟩ (fun i τ S' ⟨_, _, _, _, _, _, h, _⟩ => h) ?_ ?_
  · rintro i d τ S4 hd ⟨c, o3, o4, rfl, hcx, hu, hx, hl, hf⟩
    rw [List.getElem?_map] at hd
    obtain ⟨x, hxi, rfl⟩ := Option.map_eq_some_iff.mp hd
    have hxl := P.lt x (List.mem_of_getElem? hxi)
    have hu' := hu
    unfold uD at hu'
    unfold nD
    (simp! only [])
    refine ⟨_, stD_lst (v := nD i) hu' (i := x) (by simpa using hxl), ?_⟩
    refine ⟨fun r => if r = x then i else c r, _, _, rfl, fun p y hp hy => (show (if y = x then i else c y) = p from ?_), ?_, by rw [sto_ne (by omega)]; exact hx, by simpa using hl, fun n hn => by rw [sto_ne (by omega)]; exact hf n hn⟩
    · by_cases z : y = x
      · subst z
        rw [if_pos rfl]
        exact P.inj hxi hy
      · rw [if_neg z]
        refine hcx p y ?_ hy
        have : p ≠ i := fun e => by subst e; rw [hxi] at hy; cases hy; exact z rfl
        omega
    · rw [sto_set hu', mapR_set]; rfl
  · rintro τ S4 ⟨c, o3, o4, rfl, hcx, hu, hx, hl, hf⟩
    rw [List.length_map] at hcx
    (simp! only [])
    have hci : ∀ r, r < w.length → c r = (metL w a).idxOf r := fun r hr => by
      obtain ⟨p, hp⟩ := P.surj hr
      rw [hcx p r (List.getElem?_eq_some_iff.mp hp).1 hp, idx_at P.nd hp]
    have T := told_ren' W ha
    have hns : (List.range w.length).map c = (List.range w.length).map fun x => (metL w a).idxOf x := by
      apply List.map_congr_left
      intro r hr
      exact hci r (List.mem_range.mp hr)
    have hP : PermOk w.length ((List.range w.length).map c) := by
      rw [hns]
      refine ⟨?_, fun x hx => ?_, by simp⟩
      · rw [List.nodup_iff_pairwise_ne, List.pairwise_map]
        refine List.Pairwise.imp_of_mem ?_ (List.nodup_iff_pairwise_ne.mp List.nodup_range)
        intro x y hx hy hne e
        exact hne (T.inj x y (List.mem_range.mp hx) (List.mem_range.mp hy) e)
      · obtain ⟨y, hy, rfl⟩ := List.mem_map.mp hx
        exact T.lt y (List.mem_range.mp hy)
    have hW : WayAt S4 (.loc (S.length + 1)) ((List.range w.length).map c) := by
      show S4[S.length + 1]? = _
      rw [hu]
      unfold uD
      rw [List.map_map]; rfl
    refine renumbered_ok W.back.closed hfew W.doors hP hW fun S5 l5 f5 => ?_
    have R1 := renW_ren hP
    have hnu : ∀ r, r < w.length → nu ((List.range w.length).map c) r = (metL w a).idxOf r := fun r hr => by
      rw [← hci r hr]
      exact nu_of (by rw [List.getElem?_map, List.getElem?_range hr]; rfl)
    have R2 : Ren w (toldW w a) (nu ((List.range w.length).map c)) := by
      refine ⟨T.len, R1.lt, R1.inj, fun r hr => ?_⟩
      rw [hnu r hr, T.row r hr]
      unfold mapE
      apply List.map_congr_left
      intro e he
      rw [hnu e.1 (rowD_lt W.back.closed he)]
    rw [R1.uniq R2]
    exact q S5 (by omega) fun n hn => by rw [f5 n (by omega)]; exact hf n hn
end SW
namespace SW
open PySem L2
end SW
namespace SW
open PySem L2

/-! webs with other numbers are webs -/
theorem aT_row {w : Wb} {r i : Nat} {e : End} (hr : r < w.length) : aT w r i = some e ↔ (rowD w r)[i]? = some e := by
  have hx : w[r]? = some w[r] := List.getElem?_eq_getElem hr
  rw [rowD_of hx]
  unfold aT
  rw [hx]; rfl
theorem Ren.at_ {w w' : Wb} {ν : Nat → Nat} (R : Ren w w' ν) {r i : Nat} {e : End} (h : aT w r i = some e) : aT w' (ν r) i = some (ν e.1, e.2) := by
  have hr := aT_lt h
  have hl := R.len
  have h2 := R.lt r hr
  rw [aT_row (by omega), R.row r hr]
  rw [aT_row hr] at h
  unfold mapE
  rw [List.getElem?_map, h]; rfl
theorem Ren.surj {w w' : Wb} {ν : Nat → Nat} (R : Ren w w' ν) {p : Nat} (hp : p < w.length) : ∃ r, r < w.length ∧ ν r = p := by
  have hm : p ∈ (List.range w.length).map ν := by
    refine nodup_full (n := w.length) ?_ (fun x hx => ?_) (by simp) hp
    · rw [List.nodup_iff_pairwise_ne, List.pairwise_map]
      refine List.Pairwise.imp_of_mem ?_ (List.nodup_iff_pairwise_ne.mp List.nodup_range)
      intro a b ha hb hne e
      exact hne (R.inj a b (List.mem_range.mp ha) (List.mem_range.mp hb) e)
    · obtain ⟨r, hr, rfl⟩ := List.mem_map.mp hx
      exact R.lt r (List.mem_range.mp hr)
  obtain ⟨r, hr, e⟩ := List.mem_map.mp hm
  exact ⟨r, List.mem_range.mp hr, e⟩
theorem Ren.rch {w w' : Wb} {ν : Nat → Nat} (R : Ren w w' ν) {a b : Nat} (h : Rch w a b) : Rch w' (ν a) (ν b) := by
  induction h with
  | refl => exact .refl
  | step _ e ih =>
    obtain ⟨i, j, e⟩ := e
    exact .step ih ⟨i, j, R.at_ e⟩
theorem Ren.web {w w' : Wb} {ν : Nat → Nat} (R : Ren w w' ν) (W : IsWeb w) : IsWeb w' := by
  have hl := R.len
  have hpos := W.pos
  have hfew := W.few
  have down : ∀ (r' i : Nat) (e' : End), aT w' r' i = some e' → ∃ (r : Nat) (e : End), r < w.length ∧ ν r = r' ∧ aT w r i = some e ∧ e' = (ν e.1, e.2) := fun r' i e' h => by
    have hr' := aT_lt h
    obtain ⟨r, hr, rfl⟩ := R.surj (p := r') (by omega)
    rw [aT_row hr', R.row r hr] at h
    unfold mapE at h
    rw [List.getElem?_map] at h
    obtain ⟨e, he, rfl⟩ := Option.map_eq_some_iff.mp h
    exact ⟨r, e, hr, rfl, (aT_row hr).mpr he, rfl⟩
  refine ⟨fun r' i s' j h => ?_, by omega, by omega, fun r' x hx => ?_, fun r' hr' => ?_⟩
  · obtain ⟨r, e, hr, rfl, ha, he⟩ := down r' i _ h
    cases he
    have := R.at_ (W.back r i e.1 e.2 ha)
    exact this
  · have hr' : r' < w'.length := (List.getElem?_eq_some_iff.mp hx).1
    obtain ⟨r, hr, rfl⟩ := R.surj (p := r') (by omega)
    have e1 := R.row r hr
    rw [rowD_of hx] at e1
    have hrow : w[r]? = some w[r] := List.getElem?_eq_getElem hr
    rw [e1, rowD_of hrow]
    have := W.doors r _ hrow
    simpa [mapE] using this
  · obtain ⟨r, hr, rfl⟩ := R.surj (p := r') (by omega)
    obtain ⟨r0, hr0, e0⟩ := R.surj (p := 0) hpos
    have := R.rch (W.rch hr0 hr)
    rw [e0] at this
    exact this.con
theorem metRow_pre {i : Nat} : ∀ (row : List End) (xs : List Nat), i < xs.length → (metRow xs row)[i]? = xs[i]?
  | [], xs, h => rfl
  | e :: row, xs, h => by
    show (metRow (metStep xs e) row)[i]? = _
    unfold metStep
    by_cases z : e.1 ∈ xs
    · rw [if_pos z]; exact metRow_pre row xs h
    · rw [if_neg z, metRow_pre row _ (by simp; omega), List.getElem?_append_left h]
theorem met_pre {w : Wb} {i : Nat} : ∀ (n k : Nat) (xs : List Nat), i < xs.length → (met w n k xs)[i]? = xs[i]? ∧ i < (met w n k xs).length
  | 0, k, xs, h => ⟨rfl, h⟩
  | n + 1, k, xs, h => by
    simp only [met]
    cases hk : xs[k]? with
    | none => exact ⟨rfl, h⟩
    | some r =>
      simp only
      have e := metRow_pre ((w[r]?).getD []) xs h
      have h2 : i < (metRow xs ((w[r]?).getD [])).length := by
        rw [List.getElem?_eq_getElem h] at e
        exact (List.getElem?_eq_some_iff.mp e).1
      obtain ⟨a, b⟩ := met_pre (w := w) n (k + 1) _ h2
      exact ⟨a.trans e, b⟩
theorem met_head {w : Wb} {a : Nat} : (metL w a)[0]? = some a := (met_pre (w := w) w.length 0 [a] (by simp)).1
end SW
namespace SW
open PySem L2

theorem TurnOk.perm {many : Nat} {own : Bool} {L : List Nat} (T : TurnOk many own L) : PermOk many L := by
  refine ⟨?_, fun x hx => ?_, T.len⟩
  · rw [List.nodup_iff_pairwise_ne, List.pairwise_iff_getElem]
    intro i j hi hj hij e
    have := T.inj i j L[i] (List.getElem?_eq_getElem hi) (by rw [List.getElem?_eq_getElem hj, e])
    omega
  · obtain ⟨k, hk⟩ := List.getElem?_of_mem hx
    exact T.lt k x hk
end SW
namespace SW
open PySem L2
end SW
namespace SW
open PySem L2

/-! dicts with numbers as keys -/
def kN (n : Nat) : Key := Sum.inl (n : Int)
theorem kN_inj {a b : Nat} (h : kN a = kN b) : a = b := by
  simp only [kN, Sum.inl.injEq] at h
  omega
theorem wq_dgK {a i : Nat} {kvs : List (Key × D)} {S : Sto} {Q : D → Sto → Prop} (h : S[a]? = some (.dK kvs)) : Wp (sbD (.loc a) (.int (i : Int)) S) Q ↔ ∃ d, lk kvs (kN i) = some d ∧ Q d S := by
  have e : sbD (.loc a) (.int (i : Int)) S = (lk kvs (kN i)).map fun d => (d, S) := by
    show ((ixD (.loc a) (.int (i : Int)) S).orElse fun _ => (dgD (.loc a) (.int (i : Int)) S).orElse fun _ => gnD (.loc a) (.int (i : Int)) S) = _
    have e0 : dgD (.loc a) (.int (i : Int)) S = (lk kvs (kN i)).map fun d => (d, S) := by
      simp only [dgD, h, kOf]; rfl
    rw [e0]
    simp only [ixD, h]
    cases lk kvs (kN i) with
    | some d => rfl
    | none => simp [Option.orElse, gnD, nHas, h, nkT]
  rw [e, wq_map]
theorem stD_K {a i : Nat} {kvs : List (Key × D)} {v : D} {S : Sto} (h : S[a]? = some (.dK kvs)) (hl : kvs.length ≤ 10000000) : stD (.loc a) (.int (i : Int)) v S = some (S.set a (.dK (ptK kvs (kN i) v))) := by
  simp only [stD, h, kOf]
  rw [if_pos hl]; rfl
theorem wq_notInK {a i : Nat} {kvs : List (Key × D)} {S : Sto} {Q : D → Sto → Prop} (h : S[a]? = some (.dK kvs)) : Wp (notInD (.int (i : Int)) (.loc a) S) Q ↔ Q (.bl (!(lk kvs (kN i)).isSome)) S := by
  have e0 : pyOf S (.loc a) = none := by
    unfold pyOf
    show ((pyL S 4 a).bind _) = none
    simp only [pyL, h]; rfl
  have e : notInD (.int (i : Int)) (.loc a) S = some (.bl (!(lk kvs (kN i)).isSome), S) := by
    unfold notInD inSq
    simp only [pyOf_int, e0, Option.bind_some, Option.bind_none, Option.orElse, inDd, inDc, dHas, h, kOf]
    rfl
  rw [e]; exact wp_some
end SW
namespace SW

/-! ways in the order: the fewest doors, of several the first -/
def lexLt : List Nat → List Nat → Prop
  | [], [] => False
  | [], _ :: _ => True
  | _ :: _, [] => False
  | a :: as, b :: bs => a < b ∨ (a = b ∧ lexLt as bs)
theorem lexLt_irr : ∀ p : List Nat, ¬ lexLt p p
  | [], h => h
  | a :: as, h => by
    rcases h with h | h
    · omega
    · exact lexLt_irr as h.2
theorem lexLt_tr : ∀ {p q r : List Nat}, lexLt p q → lexLt q r → lexLt p r
  | [], [], _, h, _ => h.elim
  | [], _ :: _, [], _, g => g.elim
  | [], _ :: _, _ :: _, _, _ => trivial
  | _ :: _, [], _, h, _ => h.elim
  | _ :: _, _ :: _, [], _, g => g.elim
  | a :: as, b :: bs, c :: cs, h, g => by
    rcases h with h | ⟨rfl, h⟩
    · rcases g with g | ⟨rfl, g⟩
      · exact .inl (by omega)
      · exact .inl h
    · rcases g with g | ⟨rfl, g⟩
      · exact .inl g
      · exact .inr ⟨rfl, lexLt_tr h g⟩
theorem lexLt_app : ∀ {p q : List Nat} (a b : Nat), p.length = q.length → lexLt p q → lexLt (p ++ [a]) (q ++ [b])
  | [], [], _, _, _, h => h.elim
  | [], _ :: _, _, _, e, _ => by simp at e
  | _ :: _, [], _, _, e, _ => by simp at e
  | x :: p, y :: q, a, b, e, h => by
    rcases h with h | ⟨rfl, h⟩
    · exact .inl h
    · exact .inr ⟨rfl, lexLt_app a b (by simpa using e) h⟩
theorem lexLt_snoc : ∀ (p : List Nat) {a b : Nat}, a < b → lexLt (p ++ [a]) (p ++ [b])
  | [], _, _, h => .inl h
  | _ :: p, _, _, h => .inr ⟨rfl, lexLt_snoc p h⟩
def sl (p q : List Nat) : Prop := p.length < q.length ∨ (p.length = q.length ∧ lexLt p q)
def sle (p q : List Nat) : Prop := sl p q ∨ p = q
theorem sl_irr {p : List Nat} (h : sl p p) : False := by
  rcases h with h | h
  · omega
  · exact lexLt_irr p h.2
theorem sl_tr {p q r : List Nat} (h : sl p q) (g : sl q r) : sl p r := by
  rcases h with h | ⟨h1, h2⟩
  · rcases g with g | ⟨g1, g2⟩
    · exact .inl (by omega)
    · exact .inl (by omega)
  · rcases g with g | ⟨g1, g2⟩
    · exact .inl (by omega)
    · exact .inr ⟨by omega, lexLt_tr h2 g2⟩
theorem sle_rfl {p : List Nat} : sle p p := .inr rfl
theorem sle_tr {p q r : List Nat} (h : sle p q) (g : sle q r) : sle p r := by
  rcases h with h | rfl
  · rcases g with g | rfl
    · exact .inl (sl_tr h g)
    · exact .inl h
  · exact g
theorem sl_sle {p q r : List Nat} (h : sl p q) (g : sle q r) : sl p r := by
  rcases g with g | rfl
  · exact sl_tr h g
  · exact h
theorem sle_anti {p q : List Nat} (h : sle p q) (g : sle q p) : p = q := by
  rcases h with h | h
  · rcases g with g | g
    · exact (sl_irr (sl_tr h g)).elim
    · exact g.symm
  · exact h
theorem sl_app {p q : List Nat} (a b : Nat) (h : sl p q) : sl (p ++ [a]) (q ++ [b]) := by
  rcases h with h | ⟨h1, h2⟩
  · exact .inl (by simp; omega)
  · exact .inr ⟨by simp [h1], lexLt_app a b h1 h2⟩
theorem sl_snoc (p : List Nat) {a b : Nat} (h : a < b) : sl (p ++ [a]) (p ++ [b]) := .inr ⟨by simp, lexLt_snoc p h⟩
theorem sle_app {p q : List Nat} (a : Nat) (h : sle p q) : sle (p ++ [a]) (q ++ [a]) := by
  rcases h with h | rfl
  · exact .inl (sl_app a a h)
  · exact sle_rfl
theorem sle_len {p q : List Nat} (h : sle p q) : p.length ≤ q.length := by
  rcases h with (h | h) | rfl
  · omega
  · omega
  · exact Nat.le_refl _
theorem sl_nil {p : List Nat} (d : Nat) : sl [] (p ++ [d]) := .inl (by simp)
/-- the least of those of which P holds -/
def Least (P : List Nat → Prop) (p : List Nat) : Prop := P p ∧ ∀ q, P q → sle p q
theorem Least.uniq {P : List Nat → Prop} {p q : List Nat} (h : Least P p) (g : Least P q) : p = q := sle_anti (h.2 q g.1) (g.2 p h.1)
theorem Least.congr {P P' : List Nat → Prop} {p : List Nat} (h : Least P p) (e : ∀ q, P q ↔ P' q) : Least P' p := ⟨(e p).mp h.1, fun q hq => h.2 q ((e q).mpr hq)⟩

/-! a search, one behind the other -/
section
variable {σ : Type}
def runS (st : σ → Nat → Option σ) : σ → List Nat → Option σ
  | s, [] => some s
  | s, d :: ds => (st s d).bind fun t => runS st t ds
theorem runS_app {st : σ → Nat → Option σ} : ∀ (p q : List Nat) (s : σ), runS st s (p ++ q) = (runS st s p).bind fun t => runS st t q
  | [], q, s => rfl
  | d :: p, q, s => by
    show (st s d).bind _ = ((st s d).bind _).bind _
    cases st s d with
    | none => rfl
    | some t => exact runS_app p q t
theorem runS_snoc {st : σ → Nat → Option σ} (p : List Nat) (d : Nat) (s : σ) : runS st s (p ++ [d]) = (runS st s p).bind fun t => st t d := by
  rw [runS_app]
  congr 1
  funext t
  show (st t d).bind _ = _
  cases st t d <;> rfl
/-- visited before door `door` of the one at place `at_` -/
def Ahead (at_ door : Nat) (j d : Nat) : Prop := j < at_ ∨ (j = at_ ∧ d < door)
structure Bfs (st : σ → Nat → Option σ) (s0 : σ) (ws : List (σ × List Nat)) (at_ door : Nat) : Prop where
  hd : ws[0]? = some (s0, [])
  par : ∀ (i : Nat) (v : σ) (p : List Nat), 0 < i → ws[i]? = some (v, p) → ∃ (j : Nat) (u : σ) (q : List Nat) (d : Nat), ws[j]? = some (u, q) ∧ st u d = some v ∧ p = q ++ [d] ∧ Ahead at_ door j d
  cov : ∀ (j : Nat) (u : σ) (q : List Nat) (d : Nat) (v : σ), ws[j]? = some (u, q) → Ahead at_ door j d → st u d = some v → ∃ (i : Nat) (p : List Nat), ws[i]? = some (v, p) ∧ sle p (q ++ [d])
  ord : ∀ (i j : Nat) (a b : σ × List Nat), i < j → ws[i]? = some a → ws[j]? = some b → sl a.2 b.2 ∧ a.1 ≠ b.1
  run : ∀ (i : Nat) (v : σ) (p : List Nat), ws[i]? = some (v, p) → runS st s0 p = some v
variable {st : σ → Nat → Option σ} {s0 : σ} {ws : List (σ × List Nat)} {at_ door : Nat}
theorem Bfs.init (st : σ → Nat → Option σ) (s0 : σ) : Bfs st s0 [(s0, [])] 0 0 where
  hd := rfl
  par := fun i v p h e => by
    cases i with
    | zero => omega
    | succ i => simp at e
  cov := fun j u q d v e a => by
    rcases a with a | a <;> omega
  ord := fun i j a b h e1 e2 => by
    cases j with
    | zero => omega
    | succ j => simp at e2
  run := fun i v p e => by
    cases i with
    | zero => simp at e; obtain ⟨rfl, rfl⟩ := e; rfl
    | succ i => simp at e
theorem Bfs.same (h : Bfs st s0 ws at_ door) {i j : Nat} {v : σ} {p q : List Nat} (e1 : ws[i]? = some (v, p)) (e2 : ws[j]? = some (v, q)) : i = j ∧ p = q := by
  rcases Nat.lt_trichotomy i j with z | z | z
  · exact absurd rfl (h.ord i j _ _ z e1 e2).2
  · subst z; rw [e1] at e2; cases e2; exact ⟨rfl, rfl⟩
  · exact absurd rfl (h.ord j i _ _ z e2 e1).2
/-- all that stands there is ahead of the next try -/
theorem Bfs.before (h : Bfs st s0 ws at_ door) {i : Nat} {a : σ × List Nat} {u : σ} {q : List Nat} (e : ws[i]? = some a) (hu : ws[at_]? = some (u, q)) : sl a.2 (q ++ [door]) := by
  cases i with
  | zero =>
    rw [h.hd] at e; cases e
    exact sl_nil door
  | succ i =>
    obtain ⟨j, u', q', d, e1, _, e2, a1⟩ := h.par (i + 1) a.1 a.2 (by omega) e
    rw [e2]
    rcases a1 with a1 | ⟨rfl, a1⟩
    · exact sl_app _ _ (h.ord j at_ _ _ a1 e1 hu).1
    · rw [e1] at hu; cases hu
      exact sl_snoc _ a1
/-- a door that leads to none, or to one that stands there -/
theorem Bfs.old (h : Bfs st s0 ws at_ door) {u : σ} {q : List Nat} (hu : ws[at_]? = some (u, q)) (ho : ∀ v, st u door = some v → ∃ (i : Nat) (p : List Nat), ws[i]? = some (v, p)) : Bfs st s0 ws at_ (door + 1) where
  hd := h.hd
  par := fun i v p hi e => by
    obtain ⟨j, u', q', d, e1, e2, e3, a⟩ := h.par i v p hi e
    exact ⟨j, u', q', d, e1, e2, e3, by unfold Ahead at a ⊢; omega⟩
  cov := fun j u' q' d v e a es => by
    by_cases z : Ahead at_ door j d
    · exact h.cov j u' q' d v e z es
    · have hj : j = at_ ∧ d = door := by unfold Ahead at a z; omega
      obtain ⟨rfl, rfl⟩ := hj
      rw [hu] at e; cases e
      obtain ⟨i, p, e1⟩ := ho v es
      exact ⟨i, p, e1, .inl (h.before e1 hu)⟩
  ord := h.ord
  run := h.run
/-- a door that leads to a new one -/
theorem Bfs.new (h : Bfs st s0 ws at_ door) {u v : σ} {q : List Nat} (hu : ws[at_]? = some (u, q)) (hs : st u door = some v) (hn : ∀ (i : Nat) (p : List Nat), ws[i]? ≠ some (v, p)) : Bfs st s0 (ws ++ [(v, q ++ [door])]) at_ (door + 1) := by
  have get : ∀ {i : Nat} {a : σ × List Nat}, (ws ++ [(v, q ++ [door])])[i]? = some a → ws[i]? = some a ∨ (i = ws.length ∧ a = (v, q ++ [door])) := fun {i a} e => by
    rw [List.getElem?_append] at e
    split at e
    · exact .inl e
    · rename_i hi
      cases hk : i - ws.length with
      | zero => rw [hk] at e; simp at e; exact .inr ⟨by omega, e.symm⟩
      | succ k => rw [hk] at e; simp at e
  have put : ∀ {i : Nat} {a : σ × List Nat}, ws[i]? = some a → (ws ++ [(v, q ++ [door])])[i]? = some a := fun {i a} e => by
    rw [List.getElem?_append_left (List.getElem?_eq_some_iff.mp e).1]; exact e
  have lt : ∀ {i : Nat} {a : σ × List Nat}, ws[i]? = some a → i < ws.length := fun e => (List.getElem?_eq_some_iff.mp e).1
  have last : (ws ++ [(v, q ++ [door])])[ws.length]? = some (v, q ++ [door]) := by simp
  refine ⟨put h.hd, fun i v' p hi e => ?_, fun j u' q' d v' e a es => ?_, fun i j a b hij e1 e2 => ?_, fun i v' p e => ?_⟩
  · rcases get e with e4 | ⟨e5, e4⟩
    · obtain ⟨j, u', q', d, e1, e2, e3, a⟩ := h.par i v' p hi e4
      exact ⟨j, u', q', d, put e1, e2, e3, by unfold Ahead at a ⊢; omega⟩
    · cases e4
      exact ⟨at_, u, q, door, put hu, hs, rfl, .inr ⟨rfl, by omega⟩⟩
  · have hau := lt hu
    rcases get e with e4 | ⟨e5, e4⟩
    · by_cases z : Ahead at_ door j d
      · obtain ⟨i, p, e1, e2⟩ := h.cov j u' q' d v' e4 z es
        exact ⟨i, p, put e1, e2⟩
      · have hj : j = at_ ∧ d = door := by unfold Ahead at a z; omega
        obtain ⟨rfl, rfl⟩ := hj
        rw [hu] at e4; cases e4
        rw [hs] at es; cases es
        exact ⟨ws.length, _, last, sle_rfl⟩
    · exfalso
      unfold Ahead at a; omega
  · rcases get e1 with e3 | ⟨e5, e3⟩
    · rcases get e2 with e4 | ⟨e6, e4⟩
      · exact h.ord i j a b hij e3 e4
      · subst e4
        refine ⟨h.before e3 hu, fun z => ?_⟩
        obtain ⟨a1, a2⟩ := a
        have z : a1 = v := z
        subst z
        exact hn i a2 e3
    · exfalso
      have := (List.getElem?_eq_some_iff.mp e2).1
      simp at this; omega
  · rcases get e with e3 | ⟨e5, e3⟩
    · exact h.run i v' p e3
    · cases e3
      rw [runS_snoc, h.run at_ u q hu]
      exact hs
theorem Bfs.next (h : Bfs st s0 ws at_ door) {u : σ} {q : List Nat} (hu : ws[at_]? = some (u, q)) (hd : ∀ d, door ≤ d → st u d = none) : Bfs st s0 ws (at_ + 1) 0 where
  hd := h.hd
  par := fun i v p hi e => by
    obtain ⟨j, u', q', d, e1, e2, e3, a⟩ := h.par i v p hi e
    exact ⟨j, u', q', d, e1, e2, e3, by unfold Ahead at a ⊢; omega⟩
  cov := fun j u' q' d v e a es => by
    by_cases z : Ahead at_ door j d
    · exact h.cov j u' q' d v e z es
    · have hj : j = at_ ∧ door ≤ d := by unfold Ahead at a z; omega
      obtain ⟨rfl, hj⟩ := hj
      rw [hu] at e; cases e
      rw [hd d hj] at es; cases es
  ord := h.ord
  run := h.run
/-- a way leads to one that stands there by a way that isn't behind it, or comes by one that isn't done -/
theorem Bfs.reach (h : Bfs st s0 ws at_ door) : ∀ (n : Nat) (p : List Nat) (v : σ), p.length = n → runS st s0 p = some v →
    (∃ (i : Nat) (q : List Nat), ws[i]? = some (v, q) ∧ sle q p) ∨ ∃ (j : Nat) (x : σ) (q' q1 : List Nat), at_ ≤ j ∧ ws[j]? = some (x, q') ∧ sle q' q1 ∧ q1.length < p.length
  | 0, p, v, hp, e => by
    have : p = [] := by simpa using hp
    subst this
    cases e
    exact .inl ⟨0, [], h.hd, sle_rfl⟩
  | n + 1, p, v, hp, e => by
    rcases List.eq_nil_or_concat p with rfl | ⟨q, d, rfl⟩
    · simp at hp
    · rw [List.concat_eq_append] at hp e ⊢
      rw [runS_snoc] at e
      obtain ⟨u, e1, e2⟩ := Option.bind_eq_some_iff.mp e
      have hq : q.length = n := by simpa using hp
      rcases h.reach n q u hq e1 with ⟨i, q', e3, e4⟩ | ⟨j, x, q', q1, a1, a2, a3, a4⟩
      · by_cases z : Ahead at_ door i d
        · obtain ⟨i', p', e5, e6⟩ := h.cov i u q' d v e3 z e2
          exact .inl ⟨i', p', e5, sle_tr e6 (sle_app d e4)⟩
        · exact .inr ⟨i, u, q', q, by unfold Ahead at z; omega, e3, e4, by simp⟩
      · exact .inr ⟨j, x, q', q1, a1, a2, a3, by simp; omega⟩
/-- the search at its end -/
theorem Bfs.all (h : Bfs st s0 ws at_ door) (hl : ws.length ≤ at_) {p : List Nat} {v : σ} (e : runS st s0 p = some v) : ∃ (i : Nat) (q : List Nat), ws[i]? = some (v, q) ∧ sle q p := by
  rcases h.reach p.length p v rfl e with r | ⟨j, x, q', q1, a1, a2, _, _⟩
  · exact r
  · have := (List.getElem?_eq_some_iff.mp a2).1
    omega
theorem Bfs.least (h : Bfs st s0 ws at_ door) (hl : ws.length ≤ at_) {i : Nat} {v : σ} {q : List Nat} (e : ws[i]? = some (v, q)) : Least (fun p => runS st s0 p = some v) q := by
  refine ⟨h.run i v q e, fun p hp => ?_⟩
  obtain ⟨j, q', e1, e2⟩ := h.all hl hp
  rw [(h.same e e1).2]
  exact e2
/-- the search stops at the first door that is bad -/
theorem Bfs.stop (h : Bfs st s0 ws at_ door) {bad : σ → Nat → Prop} (hb : ∀ (j : Nat) (u : σ) (q : List Nat) (d : Nat), ws[j]? = some (u, q) → Ahead at_ door j d → ¬ bad u d) {u : σ} {q : List Nat} (hu : ws[at_]? = some (u, q)) (hbu : bad u door) :
    Least (fun p => ∃ p' d v, p = p' ++ [d] ∧ runS st s0 p' = some v ∧ bad v d) (q ++ [door]) := by
  refine ⟨⟨q, door, u, rfl, h.run at_ u q hu, hbu⟩, ?_⟩
  rintro p ⟨p', d, v, rfl, e1, e2⟩
  have cmp : ∀ {j : Nat} {x : σ} {q' : List Nat}, at_ ≤ j → ws[j]? = some (x, q') → sle q q' := fun {j x q'} hj ej => by
    rcases Nat.lt_or_ge at_ j with z | z
    · exact .inl (h.ord at_ j _ _ z hu ej).1
    · have : j = at_ := by omega
      subst this
      rw [hu] at ej; cases ej
      exact sle_rfl
  rcases h.reach p'.length p' v rfl e1 with ⟨i, q', e3, e4⟩ | ⟨j, x, q', q1, a1, a2, a3, a4⟩
  · have hna : ¬ Ahead at_ door i d := fun z => hb i v q' d e3 z e2
    rcases Nat.lt_trichotomy i at_ with z | z | z
    · exact absurd (.inl z) hna
    · subst z
      rw [hu] at e3; cases e3
      have hd : door ≤ d := by unfold Ahead at hna; omega
      rcases Nat.lt_or_ge door d with y | y
      · exact sle_tr (.inl (sl_snoc _ y)) (sle_app d e4)
      · have : d = door := by omega
        subst this
        exact sle_app d e4
    · exact .inl (sl_app _ _ (sl_sle (h.ord at_ i _ _ z hu e3).1 e4))
  · refine .inl (.inl ?_)
    have l1 := sle_len (sle_tr (cmp a1 a2) a3)
    simp; omega
end
end SW
namespace SW
open PySem L2

/-! searches in a web, level by level: rooms with the ways on which they were found -/
def stW (w : Wb) (r d : Nat) : Option Nat := (aT w r d).map (·.1)
theorem stW_some {w : Wb} {r d s : Nat} : stW w r d = some s ↔ ∃ j, aT w r d = some (s, j) := by
  unfold stW
  constructor
  · intro h
    obtain ⟨e, h1, rfl⟩ := Option.map_eq_some_iff.mp h
    exact ⟨e.2, h1⟩
  · rintro ⟨j, h⟩
    rw [h]; rfl
abbrev Wys := List (Nat × List Nat)
def kvW (f : List Nat → D) (ws : Wys) : List (Key × D) := ws.map fun x => (kN x.1, f x.2)
def rmD (ws : Wys) : List D := ws.map fun x => nD x.1
theorem Bfs.nd {st : Nat → Nat → Option Nat} {s0 : Nat} {ws : Wys} {a d : Nat} (h : Bfs st s0 ws a d) : ∀ (i j : Nat) (x y : Nat × List Nat), i < j → ws[i]? = some x → ws[j]? = some y → x.1 ≠ y.1 := fun i j x y k e1 e2 => (h.ord i j x y k e1 e2).2
theorem Bfs.few {st : Nat → Nat → Option Nat} {s0 : Nat} {ws : Wys} {a d n : Nat} (h : Bfs st s0 ws a d) (hl : ∀ x ∈ ws, x.1 < n) : ws.length ≤ n := by
  have := nodup_le (n := n) (xs := ws.map (·.1)) ?_ ?_
  · simpa using this
  · rw [List.nodup_iff_pairwise_ne, List.pairwise_iff_getElem]
    intro i j hi hj hij
    rw [List.getElem_map, List.getElem_map]
    simp at hi hj
    exact h.nd i j _ _ hij (List.getElem?_eq_getElem hi) (List.getElem?_eq_getElem hj)
  · intro x hx
    obtain ⟨y, hy, rfl⟩ := List.mem_map.mp hx
    exact hl y hy
theorem rmD_app {ws : Wys} {v : Nat} {p : List Nat} : rmD (ws ++ [(v, p)]) = rmD ws ++ [nD v] := by simp [rmD]
/-- where a search stands in the store: the dict, the list of what's done next, of what's found -/
structure Lv (S0 S : Sto) (w : Wb) (s0 : Nat) (f : List Nat → D) (dl l : Nat) (ws : Wys) (a door : Nat) : Prop where
  dict : S[dl]? = some (.dK (kvW f ws))
  bfs : Bfs (stW w) s0 ws a door
  lt : ∀ x ∈ ws, x.1 < w.length
  len : S0.length ≤ S.length
  fr : ∀ n, n < S0.length → S[n]? = S0[n]?
structure LvI (S0 S : Sto) (w : Wb) (s0 : Nat) (f : List Nat → D) (dl l g : Nat) (ws0 more : Wys) (a i door : Nat) : Prop where
  at_ : Lv S0 S w s0 f dl l (ws0 ++ more) (a + i) door
  last : S[l]? = some (.lst (rmD (ws0.drop a)))
  next : S[g]? = some (.lst (rmD more))
  gl : g ≠ l
  dg : S0.length ≤ dl
  gg : S0.length ≤ g
theorem LvI.spot {S0 S : Sto} {w : Wb} {s0 dl l g a i door : Nat} {f : List Nat → D} {ws0 more : Wys} (h : LvI S0 S w s0 f dl l g ws0 more a i door) {x : Nat × List Nat} (hx : (ws0.drop a)[i]? = some x) : (ws0 ++ more)[a + i]? = some x := by
  rw [List.getElem?_drop] at hx
  rw [List.getElem?_append_left (List.getElem?_eq_some_iff.mp hx).1]
  exact hx
/-- a door to a room that was met -/
theorem LvI.old {S0 S : Sto} {w : Wb} {s0 dl l g a i door : Nat} {f : List Nat → D} {ws0 more : Wys} (h : LvI S0 S w s0 f dl l g ws0 more a i door) {u : Nat} {q : List Nat} (hx : (ws0.drop a)[i]? = some (u, q)) {e : End} (he : aT w u door = some e) (ho : ∃ (i : Nat) (p : List Nat), (ws0 ++ more)[i]? = some (e.1, p)) : LvI S0 S w s0 f dl l g ws0 more a i (door + 1) := by
  refine ⟨⟨h.at_.dict, h.at_.bfs.old (h.spot hx) fun v hv => ?_, h.at_.lt, h.at_.len, h.at_.fr⟩, h.last, h.next, h.gl, h.dg, h.gg⟩
  unfold stW at hv
  rw [he] at hv; cases hv
  exact ho
/-- a door to a new room -/
theorem LvI.new {S0 S : Sto} {w : Wb} {s0 dl l g a i door : Nat} {f : List Nat → D} {ws0 more : Wys} (h : LvI S0 S w s0 f dl l g ws0 more a i door) {u : Nat} {q : List Nat} (hx : (ws0.drop a)[i]? = some (u, q)) {e : End} (he : aT w u door = some e) (hel : e.1 < w.length) (hn : ∀ (i : Nat) (p : List Nat), (ws0 ++ more)[i]? ≠ some (e.1, p)) :
    LvI S0 ((S.set dl (.dK (kvW f (ws0 ++ more ++ [(e.1, q ++ [door])])))).set g (.lst (rmD more ++ [nD e.1]))) w s0 f dl l g ws0 (more ++ [(e.1, q ++ [door])]) a i (door + 1) := by
  have hd := h.at_.dict
  have hl := h.last
  have hg := h.next
  have n1 : dl ≠ g := fun z => by subst z; rw [hd] at hg; cases hg
  have n2 : dl ≠ l := fun z => by subst z; rw [hd] at hl; cases hl
  have n3 := h.gl
  have b := h.at_.bfs.new (h.spot hx) (v := e.1) (by unfold stW; rw [he]; rfl) hn
  rw [List.append_assoc] at b
  refine ⟨⟨?_, b, ?_, ?_, ?_⟩, ?_, ?_, n3, h.dg, h.gg⟩
  · rw [sto_ne (Ne.symm n1), sto_set hd, List.append_assoc]
  · intro x hx
    rw [← List.append_assoc] at hx
    rcases List.mem_append.mp hx with hx | hx
    · exact h.at_.lt x hx
    · simp at hx; subst hx; exact hel
  · simpa using h.at_.len
  · intro n hn
    rw [sto_ne (by have := h.gg; omega), sto_ne (by have := h.dg; omega)]
    exact h.at_.fr n hn
  · rw [sto_ne n3, sto_ne n2]; exact hl
  · rw [sto_set (p := .lst (rmD more)) (by rw [sto_ne n1]; exact hg), rmD_app]
end SW
namespace SW
open PySem L2

theorem Rch.run {w : Wb} {a b : Nat} (h : Rch w a b) : ∃ p, runS (stW w) a p = some b := by
  induction h with
  | refl => exact ⟨[], rfl⟩
  | step _ ad ih =>
    obtain ⟨p, hp⟩ := ih
    obtain ⟨i, j, h⟩ := ad
    refine ⟨p ++ [i], ?_⟩
    rw [runS_snoc, hp, Option.bind_some]
    exact stW_some.mpr ⟨j, h⟩
def wF (p : List Nat) : D := .tup (p.map nD)
/-! by the distances -/
/-- how far each room is from a goal -/
structure FarOk (w : Wb) (goal : Nat) (far : Nat → Nat) : Prop where
  zero : far goal = 0
  up : ∀ r d s j, aT w r d = some (s, j) → far r ≤ far s + 1
  down : ∀ r, r < w.length → r ≠ goal → ∃ d s j, aT w r d = some (s, j) ∧ far s < far r
def farOf (ws : Wys) (r : Nat) : Nat := match (ws.find? fun x => decide (x.1 = r)) with | some x => x.2.length | none => 0
theorem Bfs.find {st : Nat → Nat → Option Nat} {s0 a d : Nat} {ws : Wys} (B : Bfs st s0 ws a d) {i r : Nat} {p : List Nat} (h : ws[i]? = some (r, p)) : farOf ws r = p.length := by
  unfold farOf
  cases e : ws.find? fun x => decide (x.1 = r) with
  | none =>
    exfalso
    have := List.find?_eq_none.mp e (r, p) (List.mem_of_getElem? h)
    simp at this
  | some x =>
    have h1 := List.find?_some e
    simp at h1
    obtain ⟨j, hj⟩ := List.getElem?_of_mem (List.mem_of_find?_eq_some e)
    obtain ⟨x1, x2⟩ := x
    have h1 : x1 = r := h1
    subst h1
    rw [(B.same h hj).2]
theorem Bfs.far {w : Wb} {goal : Nat} {ws : Wys} (W : IsWeb w) (hg : goal < w.length) (B : Bfs (stW w) goal ws ws.length 0) (hl : ∀ x ∈ ws, x.1 < w.length) : FarOk w goal (farOf ws) ∧ ∀ r, r < w.length → ∃ (i : Nat) (p : List Nat), ws[i]? = some (r, p) := by
  have all : ∀ r, r < w.length → ∃ (i : Nat) (p : List Nat), ws[i]? = some (r, p) := fun r hr => by
    obtain ⟨p, hp⟩ := (W.rch hg hr).run
    obtain ⟨i, q, e, _⟩ := B.all (Nat.le_refl _) hp
    exact ⟨i, q, e⟩
  have hc := W.back.closed
  refine ⟨⟨?_, fun r d s j h => ?_, fun r hr hne => ?_⟩, all⟩
  · rw [B.find B.hd]; rfl
  · have hb := W.back r d s j h
    have hs := hc r d s j h
    obtain ⟨i, p, e⟩ := all s hs
    have hil := (List.getElem?_eq_some_iff.mp e).1
    obtain ⟨i', p', e', le⟩ := B.cov i s p j r e (.inl hil) (stW_some.mpr ⟨d, hb⟩)
    rw [B.find e, B.find e']
    have := sle_len le
    simpa using this
  · obtain ⟨i, p, e⟩ := all r hr
    have hi : 0 < i := by
      rcases Nat.eq_zero_or_pos i with rfl | z
      · rw [B.hd] at e; cases e; exact absurd rfl hne
      · exact z
    obtain ⟨j, u, q, d, e1, e2, e3, _⟩ := B.par i r p hi e
    obtain ⟨k, e4⟩ := stW_some.mp e2
    refine ⟨k, u, d, W.back u d r k e4, ?_⟩
    rw [B.find e, B.find e1, e3]; simp
/-- the doors that lead nearer, first ones: the least way -/
theorem FarOk.len {w : Wb} {goal : Nat} {far : Nat → Nat} (F : FarOk w goal far) : ∀ (p : List Nat) (r : Nat), runS (stW w) r p = some goal → far r ≤ p.length
  | [], r, h => by
    cases h
    rw [F.zero]; exact Nat.zero_le _
  | d :: p, r, h => by
    obtain ⟨s, h1, h2⟩ := Option.bind_eq_some_iff.mp h
    obtain ⟨j, h1⟩ := stW_some.mp h1
    have := F.len p s h2
    have := F.up r d s j h1
    simp; omega
theorem sle_cons {a b : Nat} {p q : List Nat} (h : a < b ∨ (a = b ∧ sle p q)) (hl : p.length = q.length) : sle (a :: p) (b :: q) := by
  rcases h with h | ⟨rfl, (h | h) | rfl⟩
  · exact .inl (.inr ⟨by simp [hl], .inl h⟩)
  · omega
  · exact .inl (.inr ⟨by simp [hl], .inr ⟨rfl, h.2⟩⟩)
  · exact sle_rfl
theorem FarOk.step {w : Wb} {goal : Nat} {far : Nat → Nat} (F : FarOk w goal far) {r d s j : Nat} {p : List Nat} (ha : aT w r d = some (s, j)) (hf : far s < far r) (hmin : ∀ d' s' j', d' < d → aT w r d' = some (s', j') → ¬ far s' < far r)
    (h : Least (fun p => runS (stW w) s p = some goal) p) (hp : p.length = far s) : Least (fun p => runS (stW w) r p = some goal) (d :: p) ∧ (d :: p).length = far r := by
  have hu := F.up r d s j ha
  have hl : (d :: p).length = far r := by simp; omega
  refine ⟨⟨?_, fun q hq => ?_⟩, hl⟩
  · show (stW w r d).bind _ = _
    rw [stW_some.mpr ⟨j, ha⟩, Option.bind_some]
    exact h.1
  · have hlen := F.len q r hq
    rcases Nat.lt_or_ge (far r) q.length with z | z
    · exact .inl (.inl (by omega))
    · cases q with
      | nil =>
        simp at hlen
        omega
      | cons d' q =>
        obtain ⟨s', h1, h2⟩ := Option.bind_eq_some_iff.mp hq
        obtain ⟨j', h1⟩ := stW_some.mp h1
        have hlq := F.len q s' h2
        simp at z
        have hlt : far s' < far r := by omega
        have hqp : p.length = q.length := by
          have := F.up r d' s' j' h1
          simp at hlen
          omega
        refine sle_cons ?_ hqp
        rcases Nat.lt_trichotomy d d' with y | y | y
        · exact .inl y
        · subst y
          rw [ha] at h1; cases h1
          exact .inr ⟨rfl, h.2 q h2⟩
        · exact absurd hlt (hmin d' s' j' y h1)
end SW
namespace SW
open PySem L2

/-! trees and their equality -/
mutual
def beqD : D → D → Bool
  | .non, .non => true
  | .bl a, .bl b => decide (a = b)
  | .int a, .int b => decide (a = b)
  | .str a, .str b => decide (a = b)
  | .tup a, .tup b => beqDs a b
  | .fl a, .fl b => beqDs a b
  | .loc a, .loc b => decide (a = b)
  | .ty a, .ty b => decide (a = b)
  | .tn a, .tn b => beqDs a b
  | _, _ => false
def beqDs : List D → List D → Bool
  | [], [] => true
  | a :: as, b :: bs => beqD a b && beqDs as bs
  | _, _ => false
end
mutual
theorem beqD_rfl : ∀ a : D, beqD a a = true
  | .non => rfl
  | .bl _ => by simp [beqD]
  | .int _ => by simp [beqD]
  | .str _ => by simp [beqD]
  | .tup a => by simp only [beqD]; exact beqDs_rfl a
  | .fl a => by simp only [beqD]; exact beqDs_rfl a
  | .loc _ => by simp [beqD]
  | .ty _ => by simp [beqD]
  | .tn a => by simp only [beqD]; exact beqDs_rfl a
theorem beqDs_rfl : ∀ a : List D, beqDs a a = true
  | [] => rfl
  | a :: as => by simp only [beqDs, beqD_rfl a, beqDs_rfl as, Bool.and_self]
end
mutual
theorem beqD_eq : ∀ a b : D, beqD a b = true → a = b
  | .non, b, h => by cases b <;> simp [beqD] at h; rfl
  | .bl _, b, h => by cases b <;> simp [beqD] at h; subst h; rfl
  | .int _, b, h => by cases b <;> simp [beqD] at h; subst h; rfl
  | .str _, b, h => by cases b <;> simp [beqD] at h; subst h; rfl
  | .tup a, b, h => by
    cases b <;> simp only [beqD, Bool.false_eq_true] at h
    rw [beqDs_eq a _ h]
  | .fl a, b, h => by
    cases b <;> simp only [beqD, Bool.false_eq_true] at h
    rw [beqDs_eq a _ h]
  | .loc _, b, h => by cases b <;> simp [beqD] at h; subst h; rfl
  | .ty _, b, h => by cases b <;> simp [beqD] at h; subst h; rfl
  | .tn a, b, h => by
    cases b <;> simp only [beqD, Bool.false_eq_true] at h
    rw [beqDs_eq a _ h]
theorem beqDs_eq : ∀ a b : List D, beqDs a b = true → a = b
  | [], [], _ => rfl
  | [], _ :: _, h => by simp [beqDs] at h
  | _ :: _, [], h => by simp [beqDs] at h
  | a :: as, b :: bs, h => by
    simp only [beqDs, Bool.and_eq_true] at h
    rw [beqD_eq a b h.1, beqDs_eq as bs h.2]
end
instance : DecidableEq D := fun a b => if h : beqD a b = true then .isTrue (beqD_eq a b h) else .isFalse fun e => h (by rw [e]; exact beqD_rfl b)
mutual
/-- ground: nothing of the store, no truths, no texts -/
def gn : D → Bool
  | .non => true
  | .int _ => true
  | .str x => PyData.strOk x
  | .tup ds => gns ds
  | _ => false
def gns : List D → Bool
  | [] => true
  | d :: ds => gn d && gns ds
end
mutual
def toP : D → PyData
  | .int i => .int i
  | .str x => .str x
  | .bl b => .bool b
  | .tup ds => .tuple (toPs ds)
  | .fl ds => .list (toPs ds)
  | _ => .none
def toPs : List D → List PyData
  | [] => []
  | d :: ds => toP d :: toPs ds
end
mutual
def dp : D → Nat
  | .tup ds => dps ds + 1
  | _ => 0
def dps : List D → Nat
  | [] => 0
  | d :: ds => max (dp d) (dps ds)
end
mutual
theorem gn_py (g : Nat → Option PyData) : ∀ d : D, gn d = true → pyD g d = some (toP d)
  | .non, _ => rfl
  | .int _, _ => rfl
  | .str _, _ => rfl
  | .tup ds, h => by
    simp only [gn] at h
    simp only [pyD, gns_py g ds h, Option.map_some, toP]
  | .bl _, h => by simp [gn] at h
  | .fl _, h => by simp [gn] at h
  | .loc _, h => by simp [gn] at h
  | .ty _, h => by simp [gn] at h
  | .tn _, h => by simp [gn] at h
theorem gns_py (g : Nat → Option PyData) : ∀ ds : List D, gns ds = true → pyDs g ds = some (toPs ds)
  | [], _ => rfl
  | d :: ds, h => by
    simp only [gns, Bool.and_eq_true] at h
    simp only [pyDs, gn_py g d h.1, gns_py g ds h.2, Option.bind_some, Option.map_some, toPs]
end
mutual
theorem gn_can : ∀ d : D, gn d = true → (toP d).canLay0 = true
  | .non, _ => rfl
  | .int _, _ => rfl
  | .str _, h => by simpa only [gn, toP, PyData.canLay0] using h
  | .tup ds, h => by
    simp only [gn] at h
    simp only [toP, PyData.canLay0, gns_can ds h]
  | .bl _, h => by simp [gn] at h
  | .fl _, h => by simp [gn] at h
  | .loc _, h => by simp [gn] at h
  | .ty _, h => by simp [gn] at h
  | .tn _, h => by simp [gn] at h
theorem gns_can : ∀ ds : List D, gns ds = true → PyData.canLayAll0 (toPs ds) = true
  | [], _ => rfl
  | d :: ds, h => by
    simp only [gns, Bool.and_eq_true] at h
    simp only [toPs, PyData.canLayAll0, gn_can d h.1, gns_can ds h.2, Bool.and_self]
end
mutual
theorem gn_dep : ∀ d : D, gn d = true → (toP d).depth ≤ dp d
  | .non, _ => by simp [toP, dp, PyData.depth]
  | .int _, _ => by simp [toP, dp, PyData.depth]
  | .str _, _ => by simp [toP, dp, PyData.depth]
  | .tup ds, h => by
    simp only [gn] at h
    have := gns_dep ds h
    simp only [toP, dp, PyData.depth]
    omega
  | .bl _, h => by simp [gn] at h
  | .fl _, h => by simp [gn] at h
  | .loc _, h => by simp [gn] at h
  | .ty _, h => by simp [gn] at h
  | .tn _, h => by simp [gn] at h
theorem gns_dep : ∀ ds : List D, gns ds = true → PyData.depthAll (toPs ds) ≤ dps ds
  | [], _ => by simp [toPs, dps, PyData.depthAll]
  | d :: ds, h => by
    simp only [gns, Bool.and_eq_true] at h
    have h1 := gn_dep d h.1
    have h2 := gns_dep ds h.2
    simp only [toPs, dps, PyData.depthAll]
    omega
end
mutual
theorem gn_eqv : ∀ a b : D, gn a = true → gn b = true → PyData.eqv (toP a) (toP b) = decide (a = b)
  | .non, b, _, hb => by cases b <;> simp [gn] at hb <;> simp [toP, PyData.eqv]
  | .int i, b, _, hb => by
    cases b <;> simp [gn] at hb <;> simp [toP, PyData.eqv]
    rename_i j
    by_cases e : i = j
    · subst e; simp
    · simp [e]
  | .str x, b, _, hb => by
    cases b <;> simp [gn] at hb <;> simp [toP, PyData.eqv]
    rename_i y
    by_cases e : x = y
    · subst e; simp
    · simp [e]
  | .tup a, b, ha, hb => by
    cases b <;> simp only [gn, Bool.false_eq_true] at ha hb
    · simp [toP, PyData.eqv]
    · simp [toP, PyData.eqv]
    · simp [toP, PyData.eqv]
    · simp only [toP, PyData.eqv, gns_eqv a _ ha hb, D.tup.injEq]
  | .bl _, _, h, _ => by simp [gn] at h
  | .fl _, _, h, _ => by simp [gn] at h
  | .loc _, _, h, _ => by simp [gn] at h
  | .ty _, _, h, _ => by simp [gn] at h
  | .tn _, _, h, _ => by simp [gn] at h
theorem gns_eqv : ∀ a b : List D, gns a = true → gns b = true → PyData.eqvAll (toPs a) (toPs b) = decide (a = b)
  | [], [], _, _ => rfl
  | [], _ :: _, _, _ => rfl
  | _ :: _, [], _, _ => rfl
  | a :: as, b :: bs, ha, hb => by
    simp only [gns, Bool.and_eq_true] at ha hb
    simp only [toPs, PyData.eqvAll, gn_eqv a b ha.1 hb.1, gns_eqv as bs ha.2 hb.2, List.cons.injEq]
    by_cases h1 : a = b <;> by_cases h2 : as = bs <;> simp [h1, h2]
end
/-- ground, not too deep -/
def gd (d : D) : Prop := gn d = true ∧ dp d ≤ 60
theorem gd_py {S : Sto} {d : D} (h : gd d) : pyOf S d = some (toP d) := by
  unfold pyOf
  rw [gn_py _ d h.1, Option.bind_some, if_pos]
  unfold SeqAt.shaped
  rw [Bool.and_eq_true]
  exact ⟨gn_can d h.1, decide_eq_true (by have := gn_dep d h.1; have := h.2; omega)⟩
theorem wq_eqG {a b : D} {S : Sto} {Q : D → Sto → Prop} (ha : gd a) (hb : gd b) : Wp (eqD a b S) Q ↔ Q (.bl (decide (a = b))) S := by
  have e : eqD a b S = some (.bl (decide (a = b)), S) := by
    unfold eqD
    rw [gd_py ha, gd_py hb]
    simp only [Option.bind_some, Option.map_some, gn_eqv a b ha.1 hb.1]
  rw [e]; exact wp_some
theorem wq_neG {a b : D} {S : Sto} {Q : D → Sto → Prop} (ha : gd a) (hb : gd b) : Wp (neD a b S) Q ↔ Q (.bl (!decide (a = b))) S := by
  have e : neD a b S = some (.bl (!decide (a = b)), S) := by
    unfold neD
    rw [gd_py ha, gd_py hb]
    simp only [Option.bind_some, Option.map_some, gn_eqv a b ha.1 hb.1]
  rw [e]; exact wp_some
theorem gns_all : ∀ {ds : List D}, (∀ d ∈ ds, gn d = true) → gns ds = true
  | [], _ => rfl
  | d :: ds, h => by
    simp only [gns, h d List.mem_cons_self, gns_all fun x hx => h x (List.mem_cons_of_mem _ hx), Bool.and_self]
theorem dps_all {k : Nat} : ∀ {ds : List D}, (∀ d ∈ ds, dp d ≤ k) → dps ds ≤ k
  | [], _ => by simp [dps]
  | d :: ds, h => by
    have h1 := h d List.mem_cons_self
    have h2 := dps_all fun x hx => h x (List.mem_cons_of_mem _ hx)
    simp only [dps]; omega
/-- ground, at most k deep -/
def gk (k : Nat) (d : D) : Prop := gn d = true ∧ dp d ≤ k
theorem gk.gd {k : Nat} {d : D} (h : gk k d) (hk : k ≤ 60 := by decide) : gd d := ⟨h.1, by have := h.2; omega⟩
theorem gk_non {k : Nat} : gk k .non := ⟨rfl, by simp [dp]⟩
theorem gk_int {k : Nat} {i : Int} : gk k (.int i) := ⟨rfl, by simp [dp]⟩
theorem gk_tup {k : Nat} {ds : List D} (h : ∀ d ∈ ds, gk k d) : gk (k + 1) (.tup ds) :=
  ⟨by simp only [gn]; exact gns_all fun d hd => (h d hd).1, by simp only [dp]; have := dps_all fun d hd => (h d hd).2; omega⟩
theorem gk_map {α : Type} {k : Nat} {f : α → D} {l : List α} (h : ∀ a ∈ l, gk k (f a)) : gk (k + 1) (.tup (l.map f)) := gk_tup fun d hd => by
  obtain ⟨a, ha, rfl⟩ := List.mem_map.mp hd
  exact h a ha
theorem gk_two {k : Nat} {a b : D} (ha : gk k a) (hb : gk k b) : gk (k + 1) (.tup [a, b]) := gk_tup fun d hd => by
  simp at hd
  rcases hd with rfl | rfl
  · exact ha
  · exact hb
theorem wq_neI {i j : Int} {S : Sto} {Q : D → Sto → Prop} : Wp (neD (.int i) (.int j) S) Q ↔ Q (.bl (!decide (i = j))) S := by
  rw [wq_neG (gk_int (k := 0)).gd (gk_int (k := 0)).gd]
  simp only [D.int.injEq]
theorem wq_eqI {i j : Int} {S : Sto} {Q : D → Sto → Prop} : Wp (eqD (.int i) (.int j) S) Q ↔ Q (.bl (decide (i = j))) S := by
  rw [wq_eqG (gk_int (k := 0)).gd (gk_int (k := 0)).gd]
  simp only [D.int.injEq]
end SW
namespace SW
open PySem L2
end SW
namespace SW
open PySem L2

/-! numbers by first comings -/
section
variable {α β : Type} [DecidableEq α] [DecidableEq β]
def addL (acc : List α) (x : α) : List α := if x ∈ acc then acc else acc ++ [x]
def seenL (L : List α) : List α := L.foldl addL []
def numL (L : List α) : List Nat := L.map fun x => (seenL L).idxOf x
theorem addL_mem {acc : List α} {x y : α} : y ∈ addL acc x ↔ y ∈ acc ∨ y = x := by
  unfold addL
  split
  · rename_i h
    constructor
    · exact .inl
    · rintro (h' | rfl)
      · exact h'
      · exact h
  · simp
theorem foldl_mem : ∀ (L acc : List α) (y : α), y ∈ L.foldl addL acc ↔ y ∈ acc ∨ y ∈ L
  | [], acc, y => by simp
  | x :: L, acc, y => by
    rw [List.foldl_cons, foldl_mem L, addL_mem, List.mem_cons]
    constructor
    · rintro ((h | h) | h)
      · exact .inl h
      · exact .inr (.inl h)
      · exact .inr (.inr h)
    · rintro (h | h | h)
      · exact .inl (.inl h)
      · exact .inl (.inr h)
      · exact .inr h
theorem seenL_mem {L : List α} {y : α} : y ∈ seenL L ↔ y ∈ L := by
  unfold seenL
  rw [foldl_mem]; simp
theorem addL_nd {acc : List α} {x : α} (h : acc.Nodup) : (addL acc x).Nodup := by
  unfold addL
  split
  · exact h
  · rename_i hx
    rw [List.nodup_append]
    refine ⟨h, by simp, fun a ha b hb e => ?_⟩
    simp at hb
    subst hb; subst e
    exact hx ha
theorem foldl_nd : ∀ (L acc : List α), acc.Nodup → (L.foldl addL acc).Nodup
  | [], _, h => h
  | x :: L, _, h => foldl_nd L _ (addL_nd h)
theorem seenL_nd (L : List α) : (seenL L).Nodup := foldl_nd L [] List.nodup_nil
theorem seenL_snoc (L : List α) (x : α) : seenL (L ++ [x]) = addL (seenL L) x := by
  unfold seenL
  rw [List.foldl_append]; rfl
theorem seenL_take {L : List α} {i : Nat} {x : α} (h : L[i]? = some x) : seenL (L.take (i + 1)) = addL (seenL (L.take i)) x := by
  rw [List.take_add_one, h]
  exact seenL_snoc _ _
theorem addL_len {acc : List α} {x : α} : (addL acc x).length ≤ acc.length + 1 := by
  unfold addL; split <;> simp
theorem seenL_len (L : List α) : (seenL L).length ≤ L.length := by
  have all : ∀ (L acc : List α), (L.foldl addL acc).length ≤ acc.length + L.length := by
    intro L
    induction L with
    | nil => simp
    | cons x L ih =>
      intro acc
      rw [List.foldl_cons, List.length_cons]
      have := ih (addL acc x)
      have := addL_len (acc := acc) (x := x)
      omega
  simpa [seenL] using all L []
/-- under a map that keeps unlike ones unlike -/
theorem foldl_map {f : α → β} (hf : ∀ a b, f a = f b → a = b) : ∀ (L acc : List α), (L.map f).foldl addL (acc.map f) = (L.foldl addL acc).map f
  | [], acc => rfl
  | x :: L, acc => by
    rw [List.map_cons, List.foldl_cons, List.foldl_cons]
    have : addL (acc.map f) (f x) = (addL acc x).map f := by
      unfold addL
      by_cases h : x ∈ acc
      · rw [if_pos h, if_pos (List.mem_map.mpr ⟨x, h, rfl⟩)]
      · rw [if_neg h, if_neg]
        · simp
        · intro hm
          obtain ⟨y, hy, e⟩ := List.mem_map.mp hm
          rw [hf _ _ e] at hy
          exact h hy
    rw [this, foldl_map hf L]
theorem idxOf_map {f : α → β} (hf : ∀ a b, f a = f b → a = b) (x : α) : ∀ L : List α, (L.map f).idxOf (f x) = L.idxOf x
  | [] => rfl
  | y :: L => by
    rw [List.map_cons, List.idxOf_cons, List.idxOf_cons, idxOf_map hf x L]
    by_cases h : y = x
    · subst h; simp
    · have : ¬ f y = f x := fun e => h (hf _ _ e)
      have h1 : (y == x) = false := by simpa using h
      have h2 : (f y == f x) = false := by simpa using this
      rw [h1, h2]
theorem numL_map {f : α → β} (hf : ∀ a b, f a = f b → a = b) (L : List α) : numL (L.map f) = numL L := by
  unfold numL seenL
  have := foldl_map hf L []
  rw [List.map_nil] at this
  rw [this, List.map_map]
  exact List.map_congr_left fun x _ => idxOf_map hf x _
theorem numL_len (L : List α) : (numL L).length = L.length := by simp [numL]
theorem numL_get {L : List α} {i : Nat} {x : α} (h : L[i]? = some x) : (numL L)[i]? = some ((seenL L).idxOf x) := by
  unfold numL
  rw [List.getElem?_map, h]; rfl
theorem idxOf_inj {L : List α} {x y : α} (hx : x ∈ L) (h : L.idxOf x = L.idxOf y) : x = y := by
  have h1 : L.idxOf x < L.length := List.idxOf_lt_length_iff.mpr hx
  have h2 : L.idxOf y < L.length := by omega
  have e1 := List.getElem_idxOf h1
  have e2 := List.getElem_idxOf h2
  simp only [h] at e1
  rw [← e1, e2]
/-- unlike ones have unlike numbers -/
theorem numL_eq {L : List α} {i j : Nat} {x y : α} (hi : L[i]? = some x) (hj : L[j]? = some y) : (numL L)[i]? = (numL L)[j]? ↔ x = y := by
  rw [numL_get hi, numL_get hj, Option.some.injEq]
  constructor
  · exact idxOf_inj (seenL_mem.mpr (List.mem_of_getElem? hi))
  · rintro rfl; rfl
end
section
variable {α : Type} [DecidableEq α]
theorem no_ix {S : Sto} {n : Nat} {ds : List D} : ixD (.loc n) (.tup ds) S = none := by unfold ixD; rfl
end
end SW
namespace SW
open PySem L2
end SW
namespace SW
open PySem L2

/-! looks: a number and what is seen behind the doors -/
abbrev Look := Nat × List End
def kE2 (e : End) : NestedKey := .tup [.num e.1, .num e.2]
theorem nkT_end (e : End) : nkT (eD e) = some (kE2 e) := rfl
theorem kE2_inj (a b : End) (h : kE2 a = kE2 b) : a = b := by
  simp only [kE2, NestedKey.tup.injEq, List.cons.injEq, NestedKey.num.injEq, and_true] at h
  exact Prod.ext (by omega) (by omega)
/-! numbered_looks -/
section
variable {α : Type} [DecidableEq α] {enc : α → D} {mk : List α → MO}
end
/-! finer looks -/
def lookR (ns : List Nat) (r : Nat) (row : List End) : Look := (ns.getD r 0, row.map fun e => (e.2, ns.getD e.1 0))
def finer (w : Wb) (ns : List Nat) : List Look := w.zipIdx.map fun p => lookR ns p.2 p.1
theorem finer_get {w : Wb} {ns : List Nat} {r : Nat} {row : List End} (h : w[r]? = some row) : (finer w ns)[r]? = some (lookR ns r row) := by
  unfold finer
  rw [List.getElem?_map, List.getElem?_zipIdx, h]; simp
theorem finer_len (w : Wb) (ns : List Nat) : (finer w ns).length = w.length := by simp [finer]
/-! rounds -/
def rndF (w : Wb) (base : List Nat) : Nat → List Nat
  | 0 => base
  | n + 1 => numL (finer w (rndF w base n))
def rnd (w : Wb) : Nat → List Nat := rndF w (numL (w.map List.length))
theorem rndF_len {w : Wb} {base : List Nat} (hb : base.length = w.length) : ∀ n, (rndF w base n).length = w.length
  | 0 => hb
  | n + 1 => by unfold rndF; rw [numL_len, finer_len]
theorem rnd_len (w : Wb) (n : Nat) : (rnd w n).length = w.length := rndF_len (by rw [numL_len, List.length_map]) n
theorem rndF_stay {w : Wb} {base : List Nat} {n : Nat} (h : rndF w base (n + 1) = rndF w base n) : ∀ m, n ≤ m → rndF w base m = rndF w base n := by
  intro m
  induction m with
  | zero => intro hm; have : n = 0 := by omega
            subst this; rfl
  | succ m ih =>
    intro hm
    rcases Nat.lt_or_ge n (m + 1) with z | z
    · have := ih (by omega)
      show numL (finer w (rndF w base m)) = _
      rw [this]; exact h
    · have : n = m + 1 := by omega
      rw [this]
theorem ints_inj {l m : List Nat} (h : (l.map fun (n : Nat) => (n : Int)) = m.map fun (n : Nat) => (n : Int)) : l = m := by
  induction l generalizing m with
  | nil => cases m with | nil => rfl | cons _ _ => simp at h
  | cons a l ih =>
    cases m with
    | nil => simp at h
    | cons b m =>
      rw [List.map_cons, List.map_cons, List.cons.injEq] at h
      rw [ih h.2]
      congr 1
      have := h.1
      omega
end SW
namespace SW
open PySem L2

theorem gdW (w : Wb) : gd (wD w) := (gk_map (k := 2) (f := rD) fun r _ => gk_map (k := 1) (f := eD) fun e _ => gk_two (k := 0) gk_int gk_int).gd
theorem eD_inj {a b : End} (h : eD a = eD b) : a = b := kE2_inj _ _ (by have := congrArg nkT h; rw [nkT_end, nkT_end] at this; exact Option.some.inj this)
theorem map_inj' {α : Type} {f : α → D} (hf : ∀ a b, f a = f b → a = b) : ∀ {l m : List α}, l.map f = m.map f → l = m
  | [], [], _ => rfl
  | [], _ :: _, h => by simp at h
  | _ :: _, [], h => by simp at h
  | a :: l, b :: m, h => by
    rw [List.map_cons, List.map_cons, List.cons.injEq] at h
    rw [hf _ _ h.1, map_inj' hf h.2]
theorem rD_inj {a b : List End} (h : rD a = rD b) : a = b := by
  unfold rD at h
  rw [D.tup.injEq] at h
  exact map_inj' (fun _ _ => eD_inj) h
theorem wD_inj {a b : Wb} (h : wD a = wD b) : a = b := by
  unfold wD at h
  rw [D.tup.injEq] at h
  exact map_inj' (fun _ _ => rD_inj) h
theorem wq_neWW {v w : Wb} {S : Sto} {Q : D → Sto → Prop} : Wp (neD (wD v) (wD w) S) Q ↔ Q (.bl (!decide (v = w))) S := by
  rw [wq_neG (gdW v) (gdW w)]
  have : decide (wD v = wD w) = decide (v = w) := by
    by_cases h : v = w
    · simp [h]
    · have : ¬ wD v = wD w := fun z => h (wD_inj z)
      simp [h, this]
  rw [this]
end SW
namespace SW
open PySem L2

/-! rooms by their numbers -/
def grp (ns : List Nat) (k : Nat) : List Nat := (List.range ns.length).filter fun r => decide (ns.getD r 0 = k)
/-- a list of lists of numbers, in the store -/
def Nest (S : Sto) (f : Nat) (xss : List (List Nat)) : Prop := ∃ ls : List Nat, S[f]? = some (.lst (ls.map D.loc)) ∧ ls.length = xss.length ∧ ∀ (j l : Nat) (xs : List Nat), ls[j]? = some l → xss[j]? = some xs → S[l]? = some (.lst (xs.map nD))
theorem Nest.of {S S' : Sto} {f : Nat} {xss : List (List Nat)} (h : Nest S f xss) (k : ∀ n, n < S.length → S'[n]? = S[n]?) : Nest S' f xss := by
  obtain ⟨ls, h1, h2, h3⟩ := h
  refine ⟨ls, (k f (sto_lt h1)).trans h1, h2, fun j l xs e1 e2 => ?_⟩
  have := h3 j l xs e1 e2
  exact (k l (sto_lt this)).trans this
end SW
namespace SW
open PySem L2

/-! comprehensions over enumerate(list), zip(list, list) -/
section
variable {g : D → Tau → Option Tau} {t : EvT} {f : EvE} {τ : Tau} {S : Sto} {Q : List D → Sto → Prop}
def Src.zz (m k la lb : Nat) : Src := ⟨min la lb, fun S i => (lsN (.loc m) la S).bind fun es => (lsN (.loc k) lb S).bind fun fs => (es[i]?).bind fun a => (fs[i]?).map fun b => .tup [a, b],
  fun S => (lsN (.loc m) la S).isSome && (lsN (.loc k) lb S).isSome⟩
end
/-! the same, in lists and tuples -/
def Sm (S : Sto) : Nat → D → D → Prop
  | 0, a, b => ∃ i : Int, a = .int i ∧ b = .int i
  | n + 1, a, b => (∃ i : Int, a = .int i ∧ b = .int i) ∨ (∃ (m k : Nat) (as bs : List D), a = .loc m ∧ b = .loc k ∧ S[m]? = some (.lst as) ∧ S[k]? = some (.lst bs) ∧ as.length = bs.length ∧ as.length ≤ 1000 ∧ ∀ (i : Nat) (x y : D), as[i]? = some x → bs[i]? = some y → Sm S n x y)
theorem Sm.of {S S' : Sto} (f : ∀ n, n < S.length → S'[n]? = S[n]?) : ∀ (n : Nat) (a b : D), Sm S n a b → Sm S' n a b
  | 0, _, _, h => h
  | n + 1, _, _, h => by
    rcases h with h | ⟨m, k, as, bs, h1, h2, h3, h4, h5, h6, h7⟩
    · exact .inl h
    · exact .inr ⟨m, k, as, bs, h1, h2, (f m (sto_lt h3)).trans h3, (f k (sto_lt h4)).trans h4, h5, h6, fun i x y e1 e2 => Sm.of f n x y (h7 i x y e1 e2)⟩
section
variable {S : Sto} {Q : D → Sto → Prop} {n : Nat} {ds : List D}
end
def look0 (marks : List Nat) (r : Nat) (row : List End) : End := (row.length, if r ∈ marks then 1 else 0)
def looks0 (w : Wb) (marks : List Nat) : List End := w.zipIdx.map fun p => look0 marks p.2 p.1
theorem looks0_get {w : Wb} {marks : List Nat} {r : Nat} {row : List End} (h : w[r]? = some row) : (looks0 w marks)[r]? = some (look0 marks r row) := by
  unfold looks0
  rw [List.getElem?_map, List.getElem?_zipIdx, h]; simp
theorem looks0_len (w : Wb) (marks : List Nat) : (looks0 w marks).length = w.length := by simp [looks0]
def rndM (w : Wb) (marks : List Nat) : Nat → List Nat := rndF w (numL (looks0 w marks))
theorem rndM_nil (w : Wb) (n : Nat) : rndM w [] n = rnd w n := by
  unfold rndM rnd
  congr 1
  have : looks0 w [] = (w.map List.length).map fun n => ((n, 0) : End) := by
    refine List.ext_getElem? fun r => ?_
    rw [List.map_map, List.getElem?_map]
    cases h : w[r]? with
    | none =>
      have : w.length ≤ r := List.getElem?_eq_none_iff.mp h
      rw [Option.map_none, List.getElem?_eq_none_iff, looks0_len]; exact this
    | some row => rw [looks0_get h]; simp [look0]
  rw [this]
  exact numL_map (fun a b h => by cases h; rfl) _
end SW
namespace SW
open PySem L2

end SW
namespace SW
open PySem L2

end SW
namespace SW

/-! ways that part two rooms; marks: rooms in which something lies -/
def parts (w1 w2 : Wb) (m1 m2 : Nat → Bool) : Nat → Nat → List Nat → Prop
  | r, s, [] => (rowD w1 r).length ≠ (rowD w2 s).length ∨ m1 r ≠ m2 s
  | r, s, d :: p => ((rowD w1 r).length ≠ (rowD w2 s).length ∨ m1 r ≠ m2 s) ∨ ∃ e e' : End, (rowD w1 r)[d]? = some e ∧ (rowD w2 s)[d]? = some e' ∧ (e.2 ≠ e'.2 ∨ parts w1 w2 m1 m2 e.1 e'.1 p)
theorem parts_symm {w1 w2 : Wb} {m1 m2 : Nat → Bool} : ∀ {p : List Nat} {r s : Nat}, parts w1 w2 m1 m2 r s p → parts w2 w1 m2 m1 s r p
  | [], r, s, h => h.imp Ne.symm Ne.symm
  | d :: p, r, s, h => by
    rcases h with h | ⟨e, e', h1, h2, h3⟩
    · exact .inl (h.imp Ne.symm Ne.symm)
    · exact .inr ⟨e', e, h2, h1, h3.imp Ne.symm parts_symm⟩
theorem parts_self {w : Wb} {m : Nat → Bool} : ∀ {p : List Nat} {r : Nat}, ¬ parts w w m m r r p
  | [], r, h => h.elim (fun z => z rfl) fun z => z rfl
  | d :: p, r, h => by
    rcases h with h | ⟨e, e', h1, h2, h3⟩
    · exact h.elim (fun z => z rfl) fun z => z rfl
    · rw [h1] at h2; cases h2
      exact h3.elim (fun z => z rfl) parts_self
theorem rowD_at {w : Wb} {r d : Nat} {e : End} : (rowD w r)[d]? = some e ↔ aT w r d = some e := by
  unfold rowD aT
  cases w[r]? <;> simp
/-! rooms with one number -/
section
variable (w : Wb) (base : List Nat)
def num (n x : Nat) : Nat := (rndF w base n).getD x 0
def lkF (n : Nat) (e : End) : End := (e.2, num w base n e.1)
end
section
variable {w : Wb} {base : List Nat} {mk : Nat → Bool}
theorem num_at (hb : base.length = w.length) {n x : Nat} (hx : x < w.length) : (rndF w base n)[x]? = some (num w base n x) := by
  unfold num
  rw [List.getD_eq_getElem?_getD, List.getElem?_eq_getElem (by rw [rndF_len hb]; exact hx)]
  simp
theorem row_at {x : Nat} (hx : x < w.length) : w[x]? = some (rowD w x) := by
  unfold rowD
  rw [List.getElem?_eq_getElem hx]; rfl
theorem num_succ (hb : base.length = w.length) {n x y : Nat} (hx : x < w.length) (hy : y < w.length) : num w base (n + 1) x = num w base (n + 1) y ↔ num w base n x = num w base n y ∧ (rowD w x).map (lkF w base n) = (rowD w y).map (lkF w base n) := by
  have h1 := num_at hb (n := n + 1) hx
  have h2 := num_at hb (n := n + 1) hy
  have h := numL_eq (finer_get (ns := rndF w base n) (row_at hx)) (finer_get (row_at hy))
  have e1 : (numL (finer w (rndF w base n)))[x]? = some (num w base (n + 1) x) := h1
  have e2 : (numL (finer w (rndF w base n)))[y]? = some (num w base (n + 1) y) := h2
  rw [e1, e2, Option.some.injEq] at h
  rw [h]
  unfold lookR
  rw [Prod.mk.injEq]; rfl
theorem num_mono (hb : base.length = w.length) {n m x y : Nat} (hx : x < w.length) (hy : y < w.length) (h : num w base n x = num w base n y) (hm : m ≤ n) : num w base m x = num w base m y := by
  induction n with
  | zero =>
    have : m = 0 := by omega
    subst this; exact h
  | succ n ih =>
    rcases Nat.lt_or_ge n m with z | z
    · have : m = n + 1 := by omega
      subst this; exact h
    · exact ih ((num_succ hb hx hy).mp h).1 z
theorem map_ends {f : End → End} {l m : List End} : l.map f = m.map f ↔ l.length = m.length ∧ ∀ (d : Nat) (e e' : End), l[d]? = some e → m[d]? = some e' → f e = f e' := by
  constructor
  · intro h
    refine ⟨by simpa using congrArg List.length h, fun d e e' h1 h2 => ?_⟩
    have := congrArg (fun z => z[d]?) h
    simp only [List.getElem?_map, h1, h2, Option.map_some, Option.some.injEq] at this
    exact this
  · rintro ⟨hl, h⟩
    refine List.ext_getElem? fun d => ?_
    rw [List.getElem?_map, List.getElem?_map]
    cases h1 : l[d]? with
    | none =>
      have : m[d]? = none := List.getElem?_eq_none_iff.mpr (by rw [← hl]; exact List.getElem?_eq_none_iff.mp h1)
      rw [this]
    | some e =>
      have hd : d < m.length := by rw [← hl]; exact (List.getElem?_eq_some_iff.mp h1).1
      rw [List.getElem?_eq_getElem hd, Option.map_some, Option.map_some, h d e _ h1 (List.getElem?_eq_getElem hd)]
/-- what the first numbers tell -/
def Base (w : Wb) (base : List Nat) (mk : Nat → Bool) : Prop := base.length = w.length ∧ ∀ x y, x < w.length → y < w.length → (num w base 0 x = num w base 0 y ↔ (rowD w x).length = (rowD w y).length ∧ mk x = mk y)
theorem no_parts (hc : Closed w) (B : Base w base mk) : ∀ {p : List Nat} {n x y : Nat}, x < w.length → y < w.length → num w base n x = num w base n y → p.length ≤ n → ¬ parts w w mk mk x y p
  | [], n, x, y, hx, hy, h, _, hp => by
    have h0 := num_mono B.1 hx hy h (Nat.zero_le n)
    obtain ⟨h1, h2⟩ := (B.2 x y hx hy).mp h0
    exact hp.elim (fun z => z h1) fun z => z h2
  | d :: p, n, x, y, hx, hy, h, hl, hp => by
    have h0 := num_mono B.1 hx hy h (Nat.zero_le n)
    obtain ⟨h1, h2⟩ := (B.2 x y hx hy).mp h0
    rcases hp with hp | ⟨e, e', a1, a2, a3⟩
    · exact hp.elim (fun z => z h1) fun z => z h2
    · cases n with
      | zero => simp at hl
      | succ n =>
        obtain ⟨_, hr⟩ := (num_succ B.1 hx hy).mp h
        have := (map_ends.mp hr).2 d e e' a1 a2
        unfold lkF at this
        simp only [Prod.mk.injEq] at this
        rcases a3 with a3 | a3
        · exact a3 this.1
        · exact no_parts hc B (hc _ _ _ _ (rowD_at.mp a1)) (hc _ _ _ _ (rowD_at.mp a2)) this.2 (by simpa using hl) a3
/-- the first door behind which the numbers of the round ahead are unlike -/
def FirstDoor (w : Wb) (base : List Nat) (n x y d : Nat) : Prop := (∃ (e e' : End), (rowD w x)[d]? = some e ∧ (rowD w y)[d]? = some e' ∧ lkF w base n e ≠ lkF w base n e') ∧ ∀ d' : Nat, d' < d → ∀ e e' : End, (rowD w x)[d']? = some e → (rowD w y)[d']? = some e' → lkF w base n e = lkF w base n e'
/-- the way by the first doors -/
inductive Greedy (w : Wb) (base : List Nat) : Nat → Nat → Nat → List Nat → Prop
  | nil {x y : Nat} : Greedy w base 0 x y []
  | cons {n x y d : Nat} {e e' : End} {p : List Nat} : FirstDoor w base n x y d → (rowD w x)[d]? = some e → (rowD w y)[d]? = some e' → Greedy w base n e.1 e'.1 p → Greedy w base (n + 1) x y (d :: p)
/-- n is the first round that tells x and y apart -/
def Apart (w : Wb) (base : List Nat) (n x y : Nat) : Prop := num w base n x ≠ num w base n y ∧ ∀ m, m < n → num w base m x = num w base m y
theorem first_door (B : Base w base mk) {n x y : Nat} (hx : x < w.length) (hy : y < w.length) (A : Apart w base (n + 1) x y) : ∃ d, FirstDoor w base n x y d := by
  have h1 : num w base n x = num w base n y := A.2 n (Nat.lt_succ_self n)
  have hlen : (rowD w x).length = (rowD w y).length := ((B.2 x y hx hy).mp (num_mono B.1 hx hy h1 (Nat.zero_le n))).1
  have h2 : ¬ (rowD w x).map (lkF w base n) = (rowD w y).map (lkF w base n) := fun z => A.1 ((num_succ B.1 hx hy).mpr ⟨h1, z⟩)
  rw [map_ends] at h2
  have h3 : ∃ (d : Nat) (e e' : End), (rowD w x)[d]? = some e ∧ (rowD w y)[d]? = some e' ∧ lkF w base n e ≠ lkF w base n e' := by
    apply Classical.byContradiction
    intro z
    exact h2 ⟨hlen, fun d e e' a1 a2 => Classical.byContradiction fun b => z ⟨d, e, e', a1, a2, b⟩⟩
  obtain ⟨d, h3⟩ := h3
  have least : ∀ d : Nat, (∃ (e e' : End), (rowD w x)[d]? = some e ∧ (rowD w y)[d]? = some e' ∧ lkF w base n e ≠ lkF w base n e') → ∃ d, FirstDoor w base n x y d := by
    intro d
    induction d using Nat.strongRecOn with
    | ind d ih =>
      intro h
      by_cases z : ∃ d' : Nat, d' < d ∧ ∃ (e e' : End), (rowD w x)[d']? = some e ∧ (rowD w y)[d']? = some e' ∧ lkF w base n e ≠ lkF w base n e'
      · obtain ⟨d', hd', h'⟩ := z
        exact ih d' hd' h'
      · exact ⟨d, h, fun d' hd' e e' a1 a2 => Classical.byContradiction fun b => z ⟨d', hd', e, e', a1, a2, b⟩⟩
  exact least d h3
theorem apart_next (B : Base w base mk) {n x y d : Nat} {e e' : End} (hx : x < w.length) (hy : y < w.length) (A : Apart w base (n + 2) x y) (F : FirstDoor w base (n + 1) x y d) (h1 : (rowD w x)[d]? = some e) (h2 : (rowD w y)[d]? = some e') : e.2 = e'.2 ∧ Apart w base (n + 1) e.1 e'.1 := by
  have back : ∀ m, m < n + 1 → e.2 = e'.2 ∧ num w base m e.1 = num w base m e'.1 := fun m hm => by
    have := A.2 (m + 1) (by omega)
    obtain ⟨_, hr⟩ := (num_succ B.1 hx hy).mp this
    have := (map_ends.mp hr).2 d e e' h1 h2
    unfold lkF at this
    simpa only [Prod.mk.injEq] using this
  refine ⟨(back 0 (by omega)).1, fun z => ?_, fun m hm => (back m hm).2⟩
  obtain ⟨⟨f, f', a1, a2, a3⟩, _⟩ := F
  rw [h1] at a1; cases a1
  rw [h2] at a2; cases a2
  exact a3 (by unfold lkF; rw [(back 0 (by omega)).1, z])
theorem greedy_least (hc : Closed w) (B : Base w base mk) : ∀ {n x y : Nat} {p : List Nat}, x < w.length → y < w.length → Apart w base n x y → Greedy w base n x y p → Least (parts w w mk mk x y) p ∧ p.length = n
  | 0, x, y, _, hx, hy, A, .nil => by
    refine ⟨⟨?_, fun q _ => ?_⟩, rfl⟩
    · have := A.1
      apply Classical.byContradiction
      intro z
      have z : ¬ ((rowD w x).length ≠ (rowD w y).length ∨ mk x ≠ mk y) := z
      refine this ((B.2 x y hx hy).mpr ⟨Classical.byContradiction fun b => z (.inl b), Classical.byContradiction fun b => z (.inr b)⟩)
    · cases q with
      | nil => exact sle_rfl
      | cons a q => exact .inl (.inl (by simp))
  | n + 1, x, y, _, hx, hy, A, .cons (d := d) (e := e) (e' := e') (p := p) F h1 h2 G => by
    have hel := hc _ _ _ _ (rowD_at.mp h1)
    have hel' := hc _ _ _ _ (rowD_at.mp h2)
    have hfar : ∀ q, parts w w mk mk x y q → n + 1 ≤ q.length := fun q hq => by
      apply Classical.byContradiction
      intro z
      exact no_parts hc B hx hy (A.2 n (Nat.lt_succ_self n)) (by omega) hq
    have hdiff : lkF w base n e ≠ lkF w base n e' := by
      obtain ⟨⟨f, f', a1, a2, a3⟩, _⟩ := F
      rw [h1] at a1; cases a1
      rw [h2] at a2; cases a2
      exact a3
    have late : ∀ d' q, parts w w mk mk x y (d' :: q) → q.length = n → d ≤ d' := fun d' q hq hl => by
      rcases Nat.lt_or_ge d' d with z | z
      · exfalso
        have h0 := A.2 0 (by omega)
        obtain ⟨c1, c2⟩ := (B.2 x y hx hy).mp h0
        rcases hq with hq | ⟨f, f', a1, a2, a3⟩
        · exact hq.elim (fun z => z c1) fun z => z c2
        · have := F.2 d' z f f' a1 a2
          unfold lkF at this
          simp only [Prod.mk.injEq] at this
          rcases a3 with a3 | a3
          · exact a3 this.1
          · exact no_parts hc B (hc _ _ _ _ (rowD_at.mp a1)) (hc _ _ _ _ (rowD_at.mp a2)) this.2 (by omega) a3
      · exact z
    cases n with
    | zero =>
      cases G
      refine ⟨⟨?_, fun q hq => ?_⟩, rfl⟩
      · refine .inr ⟨e, e', h1, h2, ?_⟩
        by_cases z : e.2 = e'.2
        · refine .inr ?_
          have h3 : num w base 0 e.1 ≠ num w base 0 e'.1 := fun b => hdiff (by unfold lkF; rw [z, b])
          apply Classical.byContradiction
          intro b
          have b : ¬ ((rowD w e.1).length ≠ (rowD w e'.1).length ∨ mk e.1 ≠ mk e'.1) := b
          exact h3 ((B.2 _ _ hel hel').mpr ⟨Classical.byContradiction fun c => b (.inl c), Classical.byContradiction fun c => b (.inr c)⟩)
        · exact .inl z
      · have hq1 := hfar q hq
        cases q with
        | nil => simp at hq1
        | cons d' q =>
          cases q with
          | nil =>
            have := late d' [] hq rfl
            rcases Nat.lt_or_ge d d' with z | z
            · exact .inl (.inr ⟨rfl, .inl z⟩)
            · have : d = d' := by omega
              subst this; exact sle_rfl
          | cons d'' q => exact .inl (.inl (by simp))
    | succ n =>
      obtain ⟨hsame, A'⟩ := apart_next B hx hy A F h1 h2
      obtain ⟨L, hpl⟩ := greedy_least hc B hel hel' A' G
      refine ⟨⟨.inr ⟨e, e', h1, h2, .inr L.1⟩, fun q hq => ?_⟩, by simp [hpl]⟩
      have hq1 := hfar q hq
      rcases Nat.lt_or_ge (n + 1 + 1) q.length with z | z
      · exact .inl (.inl (by simp [hpl]; omega))
      · cases q with
        | nil => simp at hq1
        | cons d' q =>
          have hql : q.length = n + 1 := by simp at hq1 z; omega
          have := late d' q hq hql
          rcases Nat.lt_or_ge d d' with y | y
          · exact .inl (.inr ⟨by simp [hpl, hql], .inl y⟩)
          · have : d = d' := by omega
            subst this
            have h0 := A.2 0 (by omega)
            obtain ⟨c1, c2⟩ := (B.2 x _ hx hy).mp h0
            rcases hq with hq | ⟨f, f', a1, a2, a3⟩
            · exact (hq.elim (fun z => z c1) fun z => z c2).elim
            · rw [h1] at a1; cases a1
              rw [h2] at a2; cases a2
              rcases a3 with a3 | a3
              · exact absurd hsame a3
              · rcases L.2 q a3 with (l | l) | l
                · omega
                · exact .inl (.inr ⟨by simp [hpl, hql], .inr ⟨rfl, l.2⟩⟩)
                · rw [l]; exact sle_rfl
end
end SW
namespace SW

theorem nodup_sub {α : Type} [DecidableEq α] : ∀ (L M : List α), L.Nodup → (∀ x ∈ L, x ∈ M) → L.length ≤ M.length
  | [], M, _, _ => Nat.zero_le _
  | a :: L, M, hn, hs => by
    rw [List.nodup_cons] at hn
    have ha : a ∈ M := hs a List.mem_cons_self
    have ih := nodup_sub L (M.erase a) hn.2 fun x hx => by
      have hne : x ≠ a := fun e => hn.1 (e ▸ hx)
      exact (List.mem_erase_of_ne hne).mpr (hs x (List.mem_cons_of_mem _ hx))
    have := List.length_erase_of_mem ha
    have := List.length_pos_of_mem ha
    simp; omega
theorem nodup_cover {α : Type} [DecidableEq α] : ∀ (M L : List α), L.Nodup → (∀ x ∈ L, x ∈ M) → M.length ≤ L.length → M.Nodup
  | [], _, _, _, _ => List.nodup_nil
  | a :: M, L, hn, hs, hl => by
    have hno : ¬ ∀ x ∈ L, x ∈ M := fun z => by
      have := nodup_sub L M hn z
      simp at hl; omega
    have hal : a ∈ L := by
      apply Classical.byContradiction
      intro z
      refine hno fun x hx => ?_
      rcases List.mem_cons.mp (hs x hx) with rfl | h
      · exact absurd hx z
      · exact h
    have ham : a ∉ M := fun z => hno fun x hx => by
      rcases List.mem_cons.mp (hs x hx) with rfl | h
      · exact z
      · exact h
    rw [List.nodup_cons]
    refine ⟨ham, nodup_cover M (L.erase a) (hn.erase a) (fun x hx => ?_) ?_⟩
    · have h1 := (hn.mem_erase_iff).mp hx
      rcases List.mem_cons.mp (hs x h1.2) with h | h
      · exact absurd h h1.1
      · exact h
    · rw [List.length_erase_of_mem hal]
      simp at hl; omega
theorem nodup_map_inj {α β : Type} {g : α → β} : ∀ {L : List α} {a b : α}, (L.map g).Nodup → a ∈ L → b ∈ L → g a = g b → a = b
  | [], _, _, _, h, _, _ => by simp at h
  | x :: L, a, b, hn, ha, hb, e => by
    rw [List.map_cons, List.nodup_cons] at hn
    rcases List.mem_cons.mp ha with ea | ha'
    · rcases List.mem_cons.mp hb with eb | hb'
      · rw [ea, eb]
      · exact absurd (List.mem_map.mpr ⟨b, hb', by rw [← ea]; exact e.symm⟩) hn.1
    · rcases List.mem_cons.mp hb with eb | hb'
      · exact absurd (List.mem_map.mpr ⟨a, ha', by rw [← eb]; exact e⟩) hn.1
      · exact nodup_map_inj hn.2 ha' hb' e
section
variable {A B : List Nat}
/-- B is finer than A -/
def Fine (A B : List Nat) : Prop := A.length = B.length ∧ ∀ x y, x < B.length → y < B.length → B.getD x 0 = B.getD y 0 → A.getD x 0 = A.getD y 0
def pick (A B : List Nat) (b : Nat) : Nat := A.getD (B.idxOf b) 0
theorem getD_get {L : List Nat} {x : Nat} (h : x < L.length) : L.getD x 0 = L[x] := by
  rw [List.getD_eq_getElem?_getD, List.getElem?_eq_getElem h]; rfl
theorem pick_at (F : Fine A B) {x : Nat} (h : x < B.length) : pick A B (B.getD x 0) = A.getD x 0 := by
  unfold pick
  have hm : B.getD x 0 ∈ B := by rw [getD_get h]; exact List.getElem_mem h
  have h1 : B.idxOf (B.getD x 0) < B.length := List.idxOf_lt_length_iff.mpr hm
  refine F.2 _ _ h1 h ?_
  rw [getD_get h1, List.getElem_idxOf h1]
theorem cover (F : Fine A B) : ∀ a ∈ seenL A, a ∈ (seenL B).map (pick A B) := by
  intro a ha
  rw [seenL_mem] at ha
  obtain ⟨x, hx, rfl⟩ := List.getElem_of_mem ha
  have hx' : x < B.length := by rw [← F.1]; exact hx
  refine List.mem_map.mpr ⟨B.getD x 0, seenL_mem.mpr (by rw [getD_get hx']; exact List.getElem_mem hx'), ?_⟩
  rw [pick_at F hx', getD_get hx]
theorem fine_eq (F : Fine A B) (h : (seenL B).length ≤ (seenL A).length) {x y : Nat} (hx : x < B.length) (hy : y < B.length) (e : A.getD x 0 = A.getD y 0) : B.getD x 0 = B.getD y 0 := by
  have hn := nodup_cover _ _ (seenL_nd A) (cover F) (by simpa using h)
  refine nodup_map_inj hn (seenL_mem.mpr (by rw [getD_get hx]; exact List.getElem_mem hx)) (seenL_mem.mpr (by rw [getD_get hy]; exact List.getElem_mem hy)) ?_
  rw [pick_at F hx, pick_at F hy, e]
end
section
variable {w : Wb} {base : List Nat} {mk : Nat → Bool}
theorem rnd_fine (hb : base.length = w.length) (n : Nat) : Fine (rndF w base n) (rndF w base (n + 1)) := by
  refine ⟨by rw [rndF_len hb, rndF_len hb], fun x y hx hy h => ?_⟩
  rw [rndF_len hb] at hx hy
  exact ((num_succ hb hx hy).mp h).1
/-- two rounds of one partition: all later ones are of it -/
theorem stay_on (hb : base.length = w.length) (hc : Closed w) {n : Nat} (h : ∀ x y, x < w.length → y < w.length → num w base n x = num w base n y → num w base (n + 1) x = num w base (n + 1) y) : ∀ k x y, x < w.length → y < w.length → num w base n x = num w base n y → num w base (n + k) x = num w base (n + k) y := by
  intro k
  induction k with
  | zero => exact fun x y _ _ e => e
  | succ k ih =>
    intro x y hx hy e
    refine (num_succ hb hx hy).mpr ⟨ih x y hx hy e, ?_⟩
    obtain ⟨_, hr⟩ := (num_succ hb hx hy).mp (h x y hx hy e)
    rw [map_ends] at hr ⊢
    refine ⟨hr.1, fun d f f' a1 a2 => ?_⟩
    have := hr.2 d f f' a1 a2
    unfold lkF at this ⊢
    simp only [Prod.mk.injEq] at this ⊢
    exact ⟨this.1, ih _ _ (hc _ _ _ _ (rowD_at.mp a1)) (hc _ _ _ _ (rowD_at.mp a2)) this.2⟩
theorem stable (hb : base.length = w.length) (hc : Closed w) (hp : 0 < w.length) : ∃ n, n < w.length ∧ ∀ k x y, x < w.length → y < w.length → num w base n x = num w base n y → num w base (n + k) x = num w base (n + k) y := by
  have hex : ∃ n, n < w.length ∧ (seenL (rndF w base (n + 1))).length ≤ (seenL (rndF w base n)).length := by
    apply Classical.byContradiction
    intro z
    have grow : ∀ n, n ≤ w.length → n + 1 ≤ (seenL (rndF w base n)).length := by
      intro n
      induction n with
      | zero =>
        intro _
        have h0 : 0 < (rndF w base 0).length := by rw [rndF_len hb]; exact hp
        have : (rndF w base 0)[0] ∈ seenL (rndF w base 0) := seenL_mem.mpr (List.getElem_mem h0)
        exact List.length_pos_of_mem this
      | succ n ih =>
        intro hn
        have h1 := ih (by omega)
        have h2 : ¬ (seenL (rndF w base (n + 1))).length ≤ (seenL (rndF w base n)).length := fun b => z ⟨n, by omega, b⟩
        omega
    have := grow w.length (Nat.le_refl _)
    have h3 := seenL_len (rndF w base w.length)
    rw [rndF_len hb] at h3
    omega
  obtain ⟨n, hn, hle⟩ := hex
  refine ⟨n, hn, stay_on hb hc fun x y hx hy e => ?_⟩
  exact fine_eq (rnd_fine hb n) hle (by rw [rndF_len hb]; exact hx) (by rw [rndF_len hb]; exact hy) e
theorem greedy_ex (hc : Closed w) (B : Base w base mk) : ∀ {n x y : Nat}, x < w.length → y < w.length → Apart w base n x y → ∃ p, Greedy w base n x y p
  | 0, x, y, _, _, _ => ⟨[], .nil⟩
  | n + 1, x, y, hx, hy, A => by
    obtain ⟨d, F⟩ := first_door B hx hy A
    obtain ⟨⟨e, e', h1, h2, h3⟩, _⟩ := id F
    have hel := hc _ _ _ _ (rowD_at.mp h1)
    have hel' := hc _ _ _ _ (rowD_at.mp h2)
    cases n with
    | zero => exact ⟨[d], .cons F h1 h2 .nil⟩
    | succ n =>
      obtain ⟨_, A'⟩ := apart_next B hx hy A F h1 h2
      obtain ⟨p, G⟩ := greedy_ex hc B hel hel' A'
      exact ⟨d :: p, .cons F h1 h2 G⟩
theorem looks0_base (w : Wb) (marks : List Nat) : Base w (numL (looks0 w marks)) fun r => decide (r ∈ marks) := by
  have hb : (numL (looks0 w marks)).length = w.length := by rw [numL_len, looks0_len]
  refine ⟨hb, fun x y hx hy => ?_⟩
  have h1 := num_at hb (n := 0) hx
  have h2 := num_at hb (n := 0) hy
  have h := numL_eq (looks0_get (marks := marks) (row_at hx)) (looks0_get (marks := marks) (row_at hy))
  have e1 : (numL (looks0 w marks))[x]? = some (num w (numL (looks0 w marks)) 0 x) := h1
  have e2 : (numL (looks0 w marks))[y]? = some (num w (numL (looks0 w marks)) 0 y) := h2
  rw [e1, e2, Option.some.injEq] at h
  rw [h]
  unfold look0
  rw [Prod.mk.injEq]
  by_cases a : x ∈ marks <;> by_cases b : y ∈ marks <;> simp [a, b]
end
end SW
namespace SW
open PySem L2
end SW
namespace SW
open PySem L2

/-! pairs of rooms with ways -/
abbrev Wps := List (End × List Nat)
/-! steps of both at once, and what is seen unlike -/
def st2 (w1 w2 : Wb) (u : End) (d : Nat) : Option End := ((rowD w1 u.1)[d]?).bind fun e => ((rowD w2 u.2)[d]?).map fun e' => (e.1, e'.1)
def sightN (w : Wb) (m : Nat → Bool) (e : End) : Nat × Nat × Bool := (e.2, (rowD w e.1).length, m e.1)
def bad2 (w1 w2 : Wb) (m1 m2 : Nat → Bool) (u : End) (d : Nat) : Prop := ∃ e e' : End, (rowD w1 u.1)[d]? = some e ∧ (rowD w2 u.2)[d]? = some e' ∧ sightN w1 m1 e ≠ sightN w2 m2 e'
section
variable {w1 w2 : Wb} {m1 m2 : Nat → Bool}
/-- both rooms look alike -/
def Like2 (w1 w2 : Wb) (m1 m2 : Nat → Bool) (u : End) : Prop := (rowD w1 u.1).length = (rowD w2 u.2).length ∧ m1 u.1 = m2 u.2
end
def markS (s : Option Nat) (r : Nat) : Bool := decide (s = some r)
end SW
namespace SW
open PySem L2

structure PtOk (w1 w2 : Wb) (m1 m2 : Nat → Bool) (a b : Nat) (ws : Wps) (at_ door : Nat) : Prop where
  bfs : Bfs (st2 w1 w2) (a, b) ws at_ door
  lt : ∀ x ∈ ws, x.1.1 < w1.length ∧ x.1.2 < w2.length
  like : ∀ x ∈ ws, Like2 w1 w2 m1 m2 x.1
  good : ∀ (j : Nat) (u : End) (q : List Nat) (d : Nat), ws[j]? = some (u, q) → Ahead at_ door j d → ¬ bad2 w1 w2 m1 m2 u d
theorem PtOk.nd {w1 w2 : Wb} {m1 m2 : Nat → Bool} {a b at_ door : Nat} {ws : Wps} (h : PtOk w1 w2 m1 m2 a b ws at_ door) : ∀ (i j : Nat) (x y : End × List Nat), i < j → ws[i]? = some x → ws[j]? = some y → x.1 ≠ y.1 := fun i j x y k e1 e2 => (h.bfs.ord i j x y k e1 e2).2
theorem PtOk.few {w1 w2 : Wb} {m1 m2 : Nat → Bool} {a b at_ door : Nat} {ws : Wps} (h : PtOk w1 w2 m1 m2 a b ws at_ door) (h1 : w1.length ≤ 24) (h2 : w2.length ≤ 24) : ws.length ≤ 576 := by
  have := nodup_le (n := 576) (xs := ws.map fun x => x.1.1 * 24 + x.1.2) ?_ ?_
  · simpa using this
  · rw [List.nodup_iff_pairwise_ne, List.pairwise_iff_getElem]
    intro i j hi hj hij
    rw [List.getElem_map, List.getElem_map]
    simp at hi hj
    have hne := h.nd i j _ _ hij (List.getElem?_eq_getElem hi) (List.getElem?_eq_getElem hj)
    have l1 := h.lt _ (List.getElem_mem hi)
    have l2 := h.lt _ (List.getElem_mem hj)
    intro e
    exact hne (Prod.ext (by omega) (by omega))
  · intro x hx
    obtain ⟨y, hy, rfl⟩ := List.mem_map.mp hx
    have := h.lt y hy
    omega
section
variable (S0 : Sto) (w1 w2 : Wb) (s1 s2 : Option Nat) (a b : Nat)
end
end SW
namespace SW
open PySem L2

theorem src_W {w : Wb} {S : Sto} : srcOf (wD w) S = some (.fixed (w.map rD)) := rfl
section
variable (S0 : Sto) (w : Wb) (base : List Nat) (bl f : Nat) (r s : Nat)
end
end SW
namespace SW
open PySem L2

/-! lines with their doors turned -/
def fp (b i : Nat) : Nat := if b = 0 then i else 1 - i
end SW
namespace SW
open PySem L2

end SW
namespace SW
open PySem L2

theorem bls_mapI : ∀ bs : List Bool, blsOf (bs.map D.bl) = some bs
  | [] => rfl
  | b :: bs => by
    have := bls_mapI bs
    simp only [List.map_cons, blsOf, this]; rfl
end SW
namespace SW
open PySem L2

/-- what tells two rooms apart, if anything does -/
def Tells (w1 w2 : Wb) (m1 m2 : Nat → Bool) (a b : Nat) : Option (List Nat) → Prop
  | none => ∀ p, ¬ parts w1 w2 m1 m2 a b p
  | some p => Least (parts w1 w2 m1 m2 a b) p
theorem Tells.uniq {w1 w2 : Wb} {m1 m2 : Nat → Bool} {a b : Nat} {x y : Option (List Nat)} (h : Tells w1 w2 m1 m2 a b x) (g : Tells w1 w2 m1 m2 a b y) : x = y := by
  cases x with
  | none => cases y with
    | none => rfl
    | some q => exact absurd g.1 (h q)
  | some p => cases y with
    | none => exact absurd h.1 (g p)
    | some q => rw [Least.uniq (P := parts w1 w2 m1 m2 a b) h g]
theorem Tells.symm {w1 w2 : Wb} {m1 m2 : Nat → Bool} {a b : Nat} {x : Option (List Nat)} (h : Tells w1 w2 m1 m2 a b x) : Tells w2 w1 m2 m1 b a x := by
  cases x with
  | none => exact fun p hp => h p (parts_symm hp)
  | some p => exact Least.congr (P := parts w1 w2 m1 m2 a b) h fun q => ⟨parts_symm, parts_symm⟩
theorem Tells.self {w : Wb} {m : Nat → Bool} {a : Nat} : Tells w w m m a a none := fun p => parts_self
def ff : Nat → Bool := fun _ => false
end SW
namespace SW
open PySem L2

/-! with a stone in both first rooms: not parted just where told alike -/
section
variable {w1 w2 : Wb} {a b : Nat}
abbrev NP (w1 w2 : Wb) (a b r s : Nat) : Prop := ∀ p, ¬ parts w1 w2 (markS (some a)) (markS (some b)) r s p
theorem NP.len {r s : Nat} (h : NP w1 w2 a b r s) : (rowD w1 r).length = (rowD w2 s).length := Classical.byContradiction fun z => h [] (.inl z)
theorem NP.mark {r s : Nat} (h : NP w1 w2 a b r s) : r = a ↔ s = b := by
  have : markS (some a) r = markS (some b) s := Classical.byContradiction fun z => h [] (.inr z)
  unfold markS at this
  simp only [Option.some.injEq, decide_eq_decide] at this
  exact ⟨fun e => (this.mp e.symm).symm, fun e => (this.mpr e.symm).symm⟩
theorem NP.next {r s d : Nat} {e e' : End} (h : NP w1 w2 a b r s) (h1 : (rowD w1 r)[d]? = some e) (h2 : (rowD w2 s)[d]? = some e') : e.2 = e'.2 ∧ NP w1 w2 a b e.1 e'.1 := by
  refine ⟨Classical.byContradiction fun z => h [d] (.inr ⟨e, e', h1, h2, .inl z⟩), fun p hp => h (d :: p) (.inr ⟨e, e', h1, h2, .inr hp⟩)⟩
theorem NP.symm {r s : Nat} (h : NP w1 w2 a b r s) : NP w2 w1 b a s r := fun p hp => h p (parts_symm hp)
/-- both come to by one way -/
inductive Tw (w1 w2 : Wb) (a b : Nat) : Nat → Nat → Prop
  | base : Tw w1 w2 a b a b
  | step {r s d : Nat} {e e' : End} : Tw w1 w2 a b r s → (rowD w1 r)[d]? = some e → (rowD w2 s)[d]? = some e' → Tw w1 w2 a b e.1 e'.1
theorem Tw.symm {r s : Nat} (h : Tw w1 w2 a b r s) : Tw w2 w1 b a s r := by
  induction h with
  | base => exact .base
  | step _ h1 h2 ih => exact .step ih h2 h1
theorem Tw.np {r s : Nat} (H : NP w1 w2 a b a b) (h : Tw w1 w2 a b r s) : NP w1 w2 a b r s := by
  induction h with
  | base => exact H
  | step _ h1 h2 ih => exact (ih.next h1 h2).2
theorem row_back {w : Wb} (B : Back w) {r d : Nat} {e : End} (h : (rowD w r)[d]? = some e) : (rowD w e.1)[e.2]? = some (r, d) := rowD_at.mpr (B r d e.1 e.2 (rowD_at.mp h))
theorem Tw.uniq {r s : Nat} (B1 : Back w1) (B2 : Back w2) (H : NP w1 w2 a b a b) (h : Tw w1 w2 a b r s) : ∀ t, Tw w1 w2 a b r t → s = t := by
  induction h with
  | base => exact fun t g => ((g.np H).mark.mp rfl).symm
  | @step r s d e e' h0 h1 h2 ih =>
    intro t g
    have hb1 := row_back B1 h1
    have hb2 := row_back B2 h2
    have hj := ((h0.np H).next h1 h2).1
    have hlt : e.2 < (rowD w1 e.1).length := (List.getElem?_eq_some_iff.mp hb1).1
    have hf : (rowD w2 t)[e.2]? = some ((rowD w2 t)[e.2]'(by rw [← (g.np H).len]; exact hlt)) := List.getElem?_eq_getElem _
    generalize (rowD w2 t)[e.2]'(by rw [← (g.np H).len]; exact hlt) = f at hf
    have hfd := ((g.np H).next hb1 hf).1
    have g2 : Tw w1 w2 a b r f.1 := Tw.step g hb1 hf
    have := ih f.1 g2
    have hb3 := row_back B2 hf
    rw [← hfd, ← this] at hb3
    rw [hb3] at h2
    cases h2; rfl
theorem Tw.lt {r s : Nat} (c1 : Closed w1) (c2 : Closed w2) (ha : a < w1.length) (hb : b < w2.length) (h : Tw w1 w2 a b r s) : r < w1.length ∧ s < w2.length := by
  cases h with
  | base => exact ⟨ha, hb⟩
  | step _ h1 h2 => exact ⟨c1 _ _ _ _ (rowD_at.mp h1), c2 _ _ _ _ (rowD_at.mp h2)⟩
theorem Tw.all {r : Nat} (H : NP w1 w2 a b a b) (h : Rch w1 a r) : ∃ s, Tw w1 w2 a b r s := by
  induction h with
  | refl => exact ⟨b, .base⟩
  | step _ ad ih =>
    obtain ⟨s, hs⟩ := ih
    obtain ⟨i, j, h⟩ := ad
    have h1 := rowD_at.mpr h
    have hlt := (List.getElem?_eq_some_iff.mp h1).1
    rw [(hs.np H).len] at hlt
    exact ⟨_, .step hs h1 (List.getElem?_eq_getElem hlt)⟩
open Classical in
end
end SW
namespace SW
open PySem L2
end SW
namespace SW
open PySem L2

/-! _law_row_of of numbers and tuples -/
def rt : Nat → D → Bool
  | _, .int _ => true
  | n + 1, .tup ds => decide (ds.length ≤ 1000) && ds.all (rt n)
  | _, _ => false
end SW
namespace SW
open PySem L2

end SW
namespace SW
open PySem L2
end SW
namespace SW
open PySem L2

/-! pairs of rooms come to by the same ways -/
def sx (w1 w2 : Wb) (p : End) : List End := List.zipWith (fun e e' : End => (e.1, e'.1)) (rowD w1 p.1) (rowD w2 p.2)
theorem sx_mem {w1 w2 : Wb} {p v : End} : v ∈ sx w1 w2 p ↔ ∃ (d : Nat) (e e' : End), (rowD w1 p.1)[d]? = some e ∧ (rowD w2 p.2)[d]? = some e' ∧ v = (e.1, e'.1) := by
  unfold sx
  rw [List.mem_iff_getElem?]
  constructor
  · rintro ⟨d, h⟩
    rw [List.getElem?_zipWith] at h
    cases h1 : (rowD w1 p.1)[d]? with
    | none => rw [h1] at h; simp at h
    | some e =>
      cases h2 : (rowD w2 p.2)[d]? with
      | none => rw [h1, h2] at h; simp at h
      | some e' =>
        rw [h1, h2] at h
        exact ⟨d, e, e', h1, h2, by simpa using h.symm⟩
  · rintro ⟨d, e, e', h1, h2, rfl⟩
    refine ⟨d, ?_⟩
    rw [List.getElem?_zipWith, h1, h2]
abbrev TwP (w1 w2 : Wb) (a b : Nat) (p : End) : Prop := Tw w1 w2 a b p.1 p.2
theorem TwP.next {w1 w2 : Wb} {a b : Nat} {p v : End} (h : TwP w1 w2 a b p) (hv : v ∈ sx w1 w2 p) : TwP w1 w2 a b v := by
  obtain ⟨d, e, e', h1, h2, rfl⟩ := sx_mem.mp hv
  exact Tw.step (e := e) (e' := e') h h1 h2
theorem tw_few {w1 w2 : Wb} {a b : Nat} {ks : List End} (W1 : IsWeb w1) (W2 : IsWeb w2) (ha : a < w1.length) (hb : b < w2.length) (hn : ks.Nodup) (h : ∀ p ∈ ks, TwP w1 w2 a b p) : ks.length ≤ 576 := by
  have f1 := W1.few
  have f2 := W2.few
  have := nodup_le (n := 576) (xs := ks.map fun x => x.1 * 24 + x.2) ?_ ?_
  · simpa using this
  · rw [List.nodup_iff_pairwise_ne, List.pairwise_iff_getElem]
    intro i j hi hj hij
    rw [List.getElem_map, List.getElem_map]
    simp at hi hj
    have l1 := (h _ (List.getElem_mem hi)).lt W1.back.closed W2.back.closed ha hb
    have l2 := (h _ (List.getElem_mem hj)).lt W1.back.closed W2.back.closed ha hb
    have hne : ks[i] ≠ ks[j] := by
      rw [List.nodup_iff_pairwise_ne, List.pairwise_iff_getElem] at hn
      exact hn i j hi hj hij
    intro e
    exact hne (Prod.ext (by omega) (by omega))
  · intro x hx
    obtain ⟨y, hy, rfl⟩ := List.mem_map.mp hx
    have := (h y hy).lt W1.back.closed W2.back.closed ha hb
    omega
/-! sorted -/
def i2 (p : End) : Int × Int := ((p.1 : Int), (p.2 : Int))
/-- all pairs, rising -/
def Rise (w1 w2 : Wb) (a b : Nat) (L : List (Int × Int)) : Prop := ∃ ks : List End, ks.Nodup ∧ (∀ p, p ∈ ks ↔ TwP w1 w2 a b p) ∧ L = sortPL (ks.map i2)
theorem Rise.uniq {w1 w2 : Wb} {a b : Nat} {L M : List (Int × Int)} (h : Rise w1 w2 a b L) (g : Rise w1 w2 a b M) : L = M := by
  obtain ⟨ks, n1, m1, rfl⟩ := h
  obtain ⟨js, n2, m2, rfl⟩ := g
  have hp : ks.Perm js := (List.perm_ext_iff_of_nodup n1 n2).mpr fun p => (m1 p).trans (m2 p).symm
  exact lex_uniq ((sortPL_perm _).trans ((hp.map i2).trans (sortPL_perm _).symm)) (sortPL_pw _) (sortPL_pw _)
theorem Rise.len {w1 w2 : Wb} {a b : Nat} {L : List (Int × Int)} (W1 : IsWeb w1) (W2 : IsWeb w2) (ha : a < w1.length) (hb : b < w2.length) (h : Rise w1 w2 a b L) : L.length ≤ 576 := by
  obtain ⟨ks, n1, m1, rfl⟩ := h
  rw [(sortPL_perm _).length_eq, List.length_map]
  exact tw_few W1 W2 ha hb n1 fun p hp => (m1 p).mp hp
end SW
namespace SW
open PySem L2

/-! pairing -/
section
variable (S0 : Sto) (w1 w2 : Wb) (a b : Nat)
structure PgO (cur : Option End) (ks wt : List End) : Prop where
  nd : ks.Nodup
  tw : ∀ p ∈ ks, TwP w1 w2 a b p
  hd : (a, b) ∈ ks
  wnd : wt.Nodup
  sub : ∀ p ∈ wt, p ∈ ks
  cl : ∀ p ∈ ks, p ∈ wt ∨ some p = cur ∨ ∀ v ∈ sx w1 w2 p, v ∈ ks
end
end SW
namespace SW
open PySem L2

theorem PgO.few {w1 w2 : Wb} {a b : Nat} {cur : Option End} {ks wt : List End} (h : PgO w1 w2 a b cur ks wt) (W1 : IsWeb w1) (W2 : IsWeb w2) (ha : a < w1.length) (hb : b < w2.length) : ks.length ≤ 576 ∧ wt.length ≤ 576 := by
  have h1 := tw_few W1 W2 ha hb h.nd h.tw
  have h2 := nodup_sub wt ks h.wnd h.sub
  omega
end SW
namespace SW
open PySem L2

/-! _law_pairs_from -/
section
variable (S0 : Sto) (w1 w2 : Wb) (a b : Nat)
end
end SW
namespace SW
open PySem L2
def b_l_rejoined : EvS := (seqS (stS 2 (aE g_l_ends (consA (vE 1) nilA)))
  (seqS (ifS (tB (b2E ltD (aE lenD (consA (vE 2) nilA)) (cE (.int 2)))) (rtS (vE 1)) nxS)
  (seqS (stS 3 (aE g_l_take (consA (vE 0) (consA (aE lenD (consA (vE 2) nilA)) nilA))))
  (seqS (asS (b2E sbD (vE 2) (vE 3)) (patG (.tp [(.nm 6), (.nm 7)])))
  (seqS (asS (b2E sbD (b2E addD (slE (vE 2) noO (someO (vE 3))) (slE (vE 2) (someO (b2E addD (vE 3) (cE (.int 1)))) noO)) (aE g_l_take (consA (vE 0) (consA (b2E subD (aE lenD (consA (vE 2) nilA)) (cE (.int 1))) nilA)))) (patG (.tp [(.nm 8), (.nm 9)])))
  (seqS (stS 4 (lcE (sqI (vE 1)) (.nm 12) yesT (aE listD (consA (vE 12) nilA)) [12]))
  (seqS (stS 5 (iteE (tB (b2E eqD (aE g_l_take (consA (vE 0) (consA (cE (.int 2)) nilA))) (cE (.int 0)))) (aE lstD (consA (aE tupD (consA (vE 6) (consA (vE 8) nilA))) (consA (aE tupD (consA (vE 7) (consA (vE 9) nilA))) nilA))) (aE lstD (consA (aE tupD (consA (vE 6) (consA (vE 9) nilA))) (consA (aE tupD (consA (vE 7) (consA (vE 8) nilA))) nilA)))))
  (seqS (forS (sqI (vE 5)) (.tp [(.nm 10), (.nm 11)]) (seqS (asS (vE 11) (subG (b2E sbD (vE 4) (b2E sbD (vE 10) (cE (.int 0)))) (b2E sbD (vE 10) (cE (.int 1)))))
  (asS (vE 10) (subG (b2E sbD (vE 4) (b2E sbD (vE 11) (cE (.int 0)))) (b2E sbD (vE 11) (cE (.int 1)))))))
  (rtS (aE tupleD (consA (lcE (sqI (vE 4)) (.nm 12) yesT (aE tupleD (consA (vE 12) nilA)) [12]) nilA)))))))))))
def g_l_rejoined : Fn := fnD 2 13 b_l_rejoined
def b_l_whole_number : EvS := (rtS (andE (aE isiD (consA (vE 0) (consA (cE (.ty "int")) nilA))) (notE (aE isiD (consA (vE 0) (consA (cE (.ty "bool")) nilA))))))
def g_l_whole_number : Fn := fnD 1 1 b_l_whole_number
def b_l_is_web : EvS := (seqS (ifS (orT' (notT (tB (aE isiD (consA (vE 0) (consA (cE (.ty "tuple")) nilA))))) (tB (b2E eqD (aE lenD (consA (vE 0) nilA)) (cE (.int 0))))) (rtS (cE (.bl false))) nxS)
  (seqS (stS 1 nK)
  (seqS (forS (enI (vE 0)) (.tp [(.nm 3), (.nm 4)]) (seqS (ifS (notT (tB (aE isiD (consA (vE 4) (consA (cE (.ty "tuple")) nilA))))) (rtS (cE (.bl false))) nxS)
  (forS (enI (vE 4)) (.tp [(.nm 5), (.nm 2)]) (seqS (ifS (orT' (notT (tB (aE isiD (consA (vE 2) (consA (cE (.ty "tuple")) nilA))))) (orT' (tB (b2E neD (aE lenD (consA (vE 2) nilA)) (cE (.int 2)))) (notT (tB (aE allD (consA (lcE (sqI (vE 2)) (.nm 6) yesT (aE g_l_whole_number (consA (vE 6) nilA)) [6]) nilA)))))) (rtS (cE (.bl false))) nxS)
  (asS (vE 2) (subG (vE 1) (aE tupD (consA (vE 3) (consA (vE 5) nilA)))))))))
  (seqS (lkS 1 (forS (kyI (vE 1)) (.nm 2) (ifS (tB (b2E neD (getE (vE 1) (b2E sbD (vE 1) (vE 2))) (vE 2))) (rtS (cE (.bl false))) nxS)))
  (rtS (b2E eqD (aE lenD (consA (aE g_l_reached (consA (vE 0) (consA (cE (.int 0)) nilA))) nilA)) (aE lenD (consA (vE 0) nilA))))))))
def g_l_is_web : Fn := fnD 1 7 b_l_is_web
end SW
namespace SW
open PySem L2

theorem metB_ok2 {inc : EvS} (hinc : ∀ (o0 o1 o2 o4 o5 : Option D) (k : Nat) (S : Sto) (Q : Out → Sto → Prop), Q (.nx [o0, o1, o2, some (nD (k + 1)), o4, o5]) S → Wp (inc [o0, o1, o2, some (nD k), o4, o5] S) Q)
    {S : Sto} {w : Wb} {a : Nat} {Q : D → Sto → Prop} (hc : Closed w) (ha : a < w.length) (hw : w.length ≤ 100)
    (q : ∀ S' : Sto, RcOk w a (metL w a).length (metL w a) → S'[S.length]? = some (.lst ((metL w a).map nD)) → S'.length = S.length + 1 → (∀ n, n < S.length → S'[n]? = S[n]?) → Q (.loc S.length) S') : Wp (fnD 2 6 (metB inc) [wD w, nD a] S) Q := by
  refine (wp_fnD (by rfl)).mpr ?_
  unfold metB
  (simp! only [])
  refine wp_while (MtI S w a) w.length (by omega) ⟨[a], 0, _, _, rfl, ⟨by simp, by simpa using ha, by simp; exact .refl, by simp, fun i _ _ hi => by omega⟩, by omega, rfl, sto_new, by simp, fun n hn => sto_app hn⟩ ?_
  rintro n τ S1 ⟨xs, k, o4, o5, rfl, R, hkn, hmet, hx, hl, hf⟩
  have hxl := nodup_le R.nd R.lt
  (simp! only [len_loc hx, List.length_map, nD])
  by_cases hk : k < xs.length
  · rw [if_pos (by omega)]
    have hr : xs[k]? = some xs[k] := List.getElem?_eq_getElem hk
    generalize xs[k] = r at hr
    have hrl := R.lt r (List.mem_of_getElem? hr)
    have hat : atI (xs.map nD) (k : Int) = some (nD r) := atI_of (by rw [List.getElem?_map, hr]; rfl)
    have hrow : w[r]? = some w[r] := List.getElem?_eq_getElem hrl
    generalize w[r] = x at hrow
    (simp! only [wq_sbL hx])
    refine ⟨_, hat, ?_⟩
    unfold nD
    rw [wq_row hrow]
    refine ⟨_, rfl, ?_⟩
    have hJ0 : MtJ S w a k r xs x 0 [some (wD w), some (nD a), some (.loc S.length), some (nD k), o4, o5] S1 := ⟨xs, _, _, rfl, R, hr, rfl, fun i' e h => by omega, hx, hl, hf⟩
    refine lo_fixed (x.map eD) (MtJ S w a k r xs x) hJ0 ?_ ?_
    · rintro i d τ S2 hd ⟨ys, o4, o5, rfl, R, hr, hys, hdn, hx, hl, hf⟩
      rw [List.getElem?_map] at hd
      obtain ⟨e, he, rfl⟩ := Option.map_eq_some_iff.mp hd
      have hat : aT w r i = some e := aT_some.mpr ⟨x, hrow, he⟩
      have hes := hc r i e.1 e.2 hat
      have hst := metRow_take (xs := xs) he
      rw [← hys] at hst
      unfold metStep at hst
      unfold eD
      (simp! only [wq_notIn hx])
      have hstep : ∀ zs : List Nat, (∀ y ∈ ys, y ∈ zs) → e.1 ∈ zs → ∀ i' e', i' < i + 1 → aT w r i' = some e' → e'.1 ∈ zs := fun zs h1 h2 i' e' hi' ha' => by
        by_cases z : i' = i
        · subst z; rw [hat] at ha'; cases ha'; exact h2
        · exact h1 _ (hdn i' e' (by omega) ha')
      by_cases hm : e.1 ∈ ys
      · rw [if_pos hm] at hst
        simp only [hm, decide_true, Bool.not_true, Bool.false_eq_true, if_false]
        exact ⟨ys, _, _, rfl, R, hr, hst.symm, hstep ys (fun _ h => h) hm, hx, hl, hf⟩
      · rw [if_neg hm] at hst
        simp only [hm, decide_false, Bool.not_false, if_true]
        have hxl := nodup_le R.nd R.lt
        (simp! only [isLst_loc hx, wq_append hx, List.length_map])
        refine ⟨by omega, ys ++ [e.1], _, _, rfl, ⟨?_, ?_, ?_, ?_, ?_⟩, ?_, hst.symm, hstep _ (fun y h => List.mem_append_left _ h) (by simp), ?_, by simpa using hl, fun n hn => by rw [sto_ne (by omega)]; exact hf n hn⟩
        · rw [List.nodup_append]
          refine ⟨R.nd, by simp, fun y hy z hz e => ?_⟩
          simp at hz
          subst hz; subst e
          exact hm hy
        · intro y hy
          rcases List.mem_append.mp hy with hy | hy
          · exact R.lt y hy
          · simp at hy; subst hy; exact hes
        · intro y hy
          rcases List.mem_append.mp hy with hy | hy
          · exact R.rch y hy
          · simp at hy; subst hy; exact .step (R.rch r (List.mem_of_getElem? hr)) ⟨i, e.2, hat⟩
        · exact List.mem_append_left _ R.one
        · intro i' y s hi' hy hadj
          have hkl : k < ys.length := (List.getElem?_eq_some_iff.mp hr).1
          rw [List.getElem?_append_left (by omega)] at hy
          exact List.mem_append_left _ (R.done i' y s hi' hy hadj)
        · rw [List.getElem?_append_left (List.getElem?_eq_some_iff.mp hr).1]; exact hr
        · rw [sto_set hx, List.map_append]; rfl
    · rintro τ S2 ⟨ys, o4, o5, rfl, R, hr', hys, hdn, hx, hl, hf⟩
      rw [List.length_map] at hdn hys
      rw [List.take_length] at hys
      rw [cont_nx]
      refine hinc _ _ _ _ _ k S2 _ ?_
      have hn : n = (n - 1) + 1 := by omega
      refine ⟨n - 1, by omega, ys, k + 1, o4, o5, rfl, ⟨R.nd, R.lt, R.rch, R.one, ?_⟩, by omega, ?_, hx, hl, hf⟩
      · intro i y s hi hy hadj
        by_cases z : i = k
        · subst z
          rw [hr'] at hy; cases hy
          obtain ⟨i', j, h⟩ := hadj
          refine hdn i' _ ?_ h
          obtain ⟨x', hx', hi'⟩ := aT_some.mp h
          rw [hrow] at hx'; cases hx'
          exact (List.getElem?_eq_some_iff.mp hi').1
        · exact R.done i y s (by omega) hy hadj
      · rw [← hmet]
        conv => rhs; rw [hn]
        simp only [met, hr, hrow, Option.getD_some]
        rw [← hys]
  · rw [if_neg (by omega)]
    (simp! only [])
    rw [met_done (by omega)] at hmet
    subst hmet
    exact q S1 ⟨R.nd, R.lt, R.rch, R.one, fun i y s hi => R.done i y s (by omega)⟩ hx hl hf
theorem l_reached_ok2 {S : Sto} {w : Wb} {a : Nat} {Q : D → Sto → Prop} (hc : Closed w) (ha : a < w.length) (hw : w.length ≤ 100)
    (q : ∀ S' : Sto, S'[S.length]? = some (.lst ((metL w a).map nD)) → S'.length = S.length + 1 → (∀ n, n < S.length → S'[n]? = S[n]?) → Q (.loc S.length) S') : Wp (g_l_reached [wD w, nD a] S) Q := by
  refine metB_ok2 (inc := stS 3 (b2E addD (vE 3) (cE (.int 1)))) (fun o0 o1 o2 o4 o5 k S Q h => ?_) hc ha hw fun S' _ => q S'
  unfold nD
  (simp! only [])
  exact h
/-! locks -/
def noX (P : Prop) : Out → Prop
  | .ex _ _ _ => False
  | _ => P
theorem noX_isX {P : Prop} {o : Out} (h : noX P o) : isX o = false ∧ P := by
  cases o <;> first | exact ⟨rfl, h⟩ | exact h.elim
theorem wp_lkS {i n : Nat} {kvs : List (NestedKey × D)} {f : EvS} {τ : Tau} {S : Sto} {Q : Out → Sto → Prop} (ht : τ[i]? = some (some (.loc n))) (hs : S[n]? = some (.dN kvs)) (q : Wp (f τ (S.set n (.lN kvs))) fun o S1 => S1[n]? = some (.lN kvs) ∧ noX (Q o (S1.set n (.dN kvs))) o) : Wp (lkS i f τ S) Q := by
  obtain ⟨o, S1, e, h1, h2⟩ := q
  obtain ⟨h3, h2⟩ := noX_isX h2
  refine ⟨o, S1.set n (.dN kvs), ?_, h2⟩
  unfold lkS
  simp only [ht, hs, Option.join, Option.bind_some, lkO, id]
  rw [e]
  simp only [Option.bind_some, h3, Bool.false_eq_true, if_false, h1, ulO, Option.map_some]
theorem wp_lkS0 {i n : Nat} {f : EvS} {τ : Tau} {S : Sto} {Q : Out → Sto → Prop} (ht : τ[i]? = some (some (.loc n))) (hs : S[n]? = some (.dK [])) (q : Wp (f τ (S.set n (.lK []))) fun o S1 => S1[n]? = some (.lK []) ∧ noX (Q o (S1.set n (.dK []))) o) : Wp (lkS i f τ S) Q := by
  obtain ⟨o, S1, e, h1, h2⟩ := q
  obtain ⟨h3, h2⟩ := noX_isX h2
  refine ⟨o, S1.set n (.dK []), ?_, h2⟩
  unfold lkS
  simp only [ht, hs, Option.join, Option.bind_some, lkO, id]
  rw [e]
  simp only [Option.bind_some, h3, Bool.false_eq_true, if_false, h1, ulO, Option.map_some]
theorem wp_kyI {f : EvE} {τ : Tau} {S : Sto} {Q : Src → Sto → Prop} : Wp (kyI f τ S) Q ↔ Wp (f τ S) fun d S1 => ∃ s, srcKN d S1 = some s ∧ Q s S1 := by unfold kyI; rw [wp_bind]; simp only [wq_map]
theorem srcKN_N {S : Sto} {n : Nat} {kvs : List (NestedKey × D)} (h : S[n]? = some (.lN kvs)) : srcKN (.loc n) S = some (.keysN n kvs.length) := by simp only [srcKN, h]
theorem srcKN_K {S : Sto} {n : Nat} {kvs : List (Key × D)} (h : S[n]? = some (.lK kvs)) : srcKN (.loc n) S = some (.keysK n kvs.length) := by simp only [srcKN, h]
theorem lo_keys {g : D → Tau → Option Tau} {b : EvS} {τ : Tau} {S : Sto} {Q : Out → Sto → Prop} (n : Nat) (kvs : List (NestedKey × D)) (ds : List D) (hk : kvs.map (fun p => kD p.1) = ds.map some) (I : Nat → Tau → Sto → Prop) (h0 : I 0 τ S) (hl : ∀ i τ S, I i τ S → S[n]? = some (.lN kvs))
    (hs : ∀ i d τ S, ds[i]? = some d → I i τ S → ∃ τ1, g d τ = some τ1 ∧ Wp (b τ1 S) (LoopQ (I (i + 1)) Q))
    (he : ∀ τ S, I ds.length τ S → Q (.nx τ) S) : Wp (loE (.keysN n kvs.length) g b (Src.keysN n kvs.length).len 0 τ S) Q := by
  have hlen : kvs.length = ds.length := by have := congrArg List.length hk; simpa using this
  refine wp_lo (.keysN n kvs.length) ds g b I (fun i d τ S h hI => ?_) (fun τ S hI => ?_) hs he _ 0 τ S (by simp [Src.keysN, hlen]) h0
  · have e := congrArg (fun z => z[i]?) hk
    simp only [List.getElem?_map, h, Option.map_some] at e
    obtain ⟨p, h1, h2⟩ := Option.map_eq_some_iff.mp e
    simp only [Src.keysN, lNAt, hl i τ S hI, if_true, Option.bind_some, h1]
    exact h2
  · simp [Src.keysN, lNAt, hl _ τ S hI]
/-! told ends -/
def ToldR (w : Wb) (r : Nat) : Prop := ∀ (d : Nat) (e : End), (rowD w r)[d]? = some e → (rowD w e.1)[e.2]? = some (r, d)
def WebP (w : Wb) : Prop := 0 < w.length ∧ (∀ r, r < w.length → ToldR w r) ∧ (metL w 0).length = w.length
theorem rowD_none {w : Wb} {r : Nat} (h : ¬ r < w.length) : rowD w r = [] := by
  unfold rowD
  rw [List.getElem?_eq_none_iff.mpr (by omega)]; rfl
theorem told_closed {w : Wb} (h : ∀ r, r < w.length → ToldR w r) : Closed w := fun r i s j a => by
  obtain ⟨row, h1, _⟩ := aT_some.mp a
  have h2 := h r (List.getElem?_eq_some_iff.mp h1).1 i (s, j) (rowD_at.mpr a)
  by_cases z : s < w.length
  · exact z
  · have h2 : (rowD w s)[j]? = some (r, i) := h2
    rw [rowD_none z] at h2; simp at h2
end SW
namespace SW
open PySem L2

theorem srcE_R {x : List End} {S : Sto} : srcEnum (rD x) S = some (.fixed (enumsT 0 (x.map eD))) := srcE_tup
theorem srcE_W {w : Wb} {S : Sto} : srcEnum (wD w) S = some (.fixed (enumsT 0 (w.map rD))) := srcE_tup
def RpI (S0 : Sto) (i : Nat) (acc : List D) (S : Sto) : Prop := acc = (List.replicate i true).map D.bl ∧ S = S0
end SW
namespace SW
open PySem L2

theorem eD_inj' {a b : End} (h : eD a = eD b) : a = b := kE2_inj _ _ (by have := congrArg nkT h; rw [nkT_end, nkT_end] at this; exact Option.some.inj this)
/-! all ends by a dict -/
abbrev Ents2 := List (End × End)
def kvE (ps : Ents2) : List (NestedKey × D) := ps.map fun p => (kE2 p.1, eD p.2)
def mkEn (ps : Ents2) : MO := if ps = [] then .dK [] else .dN (kvE ps)
theorem kvE_len {ps : Ents2} : (kvE ps).length = ps.length := by simp [kvE]
theorem kvE_put {ps : Ents2} {k e : End} (h : lk (kvE ps) (kE2 k) = none) : ptK (kvE ps) (kE2 k) (eD e) = kvE (ps ++ [(k, e)]) := by
  unfold ptK
  rw [lk_any, h, if_neg (by decide)]
  unfold kvE; simp
theorem stD_E {S : Sto} {n : Nat} {ps : Ents2} {k e : End} (h : S[n]? = some (mkEn ps)) (hm : lk (kvE ps) (kE2 k) = none) (hl : ps.length ≤ 1000) : stD (.loc n) (eD k) (eD e) S = some (S.set n (mkEn (ps ++ [(k, e)]))) := by
  have e1 : mkEn (ps ++ [(k, e)]) = .dN (kvE (ps ++ [(k, e)])) := by unfold mkEn; rw [if_neg (by simp)]
  rw [e1, ← kvE_put hm]
  unfold mkEn at h
  split at h
  · rename_i z
    subst z
    have hko : kOf (eD k) = none := rfl
    simp only [stD, h, hko, List.isEmpty_nil, if_true, nkT_end, Option.map_some]
    rfl
  · simp only [stD, h, nkT_end, Option.bind_some]
    rw [if_pos (by rw [kvE_len]; omega)]
theorem lk_mem {k e : End} : ∀ {ps : Ents2}, lk (kvE ps) (kE2 k) = some (eD e) → (k, e) ∈ ps
  | [], h => by simp [kvE, lk] at h
  | p :: ps, h => by
    unfold kvE at h
    rw [List.map_cons, lk_cons] at h
    split at h
    · rename_i z
      have h1 := kE2_inj _ _ z
      have h2 := eD_inj' (Option.some.inj h)
      exact List.mem_cons.mpr (.inl (Prod.ext h1.symm h2.symm))
    · exact List.mem_cons_of_mem _ (lk_mem h)
structure LkS (w : Wb) (m n : Nat) (ps : Ents2) : Prop where
  at_ : ∀ k : End, lk (kvE ps) (kE2 k) = if k.1 < m ∨ (k.1 = m ∧ k.2 < n) then ((rowD w k.1)[k.2]?).map eD else none
  mem : ∀ p ∈ ps, (rowD w p.1.1)[p.1.2]? = some p.2
  len : ps.length ≤ 12 * m + n
theorem LkS.put {w : Wb} {m n : Nat} {ps : Ents2} {e : End} (h : LkS w m n ps) (he : (rowD w m)[n]? = some e) : lk (kvE ps) (kE2 (m, n)) = none ∧ LkS w m (n + 1) (ps ++ [((m, n), e)]) := by
  have h0 : lk (kvE ps) (kE2 (m, n)) = none := by rw [h.at_, if_neg (by simp)]
  refine ⟨h0, fun k => ?_, fun p hp => ?_, by have := h.len; simp; omega⟩
  · rw [← kvE_put h0, lk_pt, h.at_]
    by_cases z : kE2 k = kE2 (m, n)
    · have := kE2_inj _ _ z
      subst this
      rw [if_pos rfl, if_pos (by simp), he]; rfl
    · rw [if_neg z]
      have hne : ¬ (k.1 = m ∧ k.2 = n) := fun y => z (by rw [show k = (m, n) from Prod.ext y.1 y.2])
      by_cases y : k.1 < m ∨ (k.1 = m ∧ k.2 < n)
      · rw [if_pos y, if_pos (by omega)]
      · rw [if_neg y, if_neg (by omega)]
  · rcases List.mem_append.mp hp with h1 | h1
    · exact h.mem p h1
    · simp at h1; subst h1; exact he
theorem LkS.next {w : Wb} {m : Nat} {ps : Ents2} (h : LkS w m (rowD w m).length ps) (hl : (rowD w m).length ≤ 12) : LkS w (m + 1) 0 ps := by
  refine ⟨fun k => ?_, h.mem, by have := h.len; omega⟩
  rw [h.at_]
  by_cases y : k.1 < m ∨ (k.1 = m ∧ k.2 < (rowD w m).length)
  · rw [if_pos y, if_pos (by omega)]
  · rw [if_neg y]
    by_cases z : k.1 < m + 1 ∨ (k.1 = m + 1 ∧ k.2 < 0)
    · rw [if_pos z]
      have : k.1 = m := by omega
      rw [this, List.getElem?_eq_none_iff.mpr (by omega)]; rfl
    · rw [if_neg z]
def LwI (S0 : Sto) (w : Wb) (m : Nat) (τ : Tau) (S : Sto) : Prop := ∃ (ps : Ents2) (o2 o3 o4 o5 o6 : Option D), τ = [some (wD w), some (.loc S0.length), o2, o3, o4, o5, o6] ∧ LkS w m 0 ps ∧ S[S0.length]? = some (mkEn ps) ∧ S0.length < S.length ∧ ∀ n, n < S0.length → S[n]? = S0[n]?
def LwJ (S0 : Sto) (w : Wb) (m : Nat) (n : Nat) (τ : Tau) (S : Sto) : Prop := ∃ (ps : Ents2) (o2 o5 o6 : Option D), τ = [some (wD w), some (.loc S0.length), o2, some (.int (m : Int)), some (rD (rowD w m)), o5, o6] ∧ LkS w m n ps ∧ S[S0.length]? = some (mkEn ps) ∧ S0.length < S.length ∧ ∀ n, n < S0.length → S[n]? = S0[n]?
def LwK (S0 S1 : Sto) (w : Wb) (ps : Ents2) (i : Nat) (τ : Tau) (S : Sto) : Prop := ∃ (o2 o3 o4 o5 o6 : Option D), τ = [some (wD w), some (.loc S0.length), o2, o3, o4, o5, o6] ∧ S = S1 ∧ ∀ (j : Nat) (p : End × End), j < i → ps[j]? = some p → (rowD w p.2.1)[p.2.2]? = some p.1
theorem whole_ok {i : Int} {S : Sto} {Q : D → Sto → Prop} (q : Q (.bl true) S) : Wp (g_l_whole_number [.int i] S) Q := by
  unfold g_l_whole_number
  refine (wp_fnD (by rfl)).mpr ?_
  unfold b_l_whole_number
  (simp! only [isi_ii, isi_ib])
  exact q
theorem wq_dgL {S : Sto} {a : Nat} {kvs : List (NestedKey × D)} {k : End} {Q : D → Sto → Prop} (h : S[a]? = some (.lN kvs)) : Wp (sbD (.loc a) (eD k) S) Q ↔ ∃ v, lk kvs (kE2 k) = some v ∧ Q v S := by
  have e : sbD (.loc a) (eD k) S = (lk kvs (kE2 k)).map fun v => (v, S) := by
    unfold sbD
    have e0 : ixD (.loc a) (eD k) S = none := no_ix
    rw [e0]
    have e1 : dgD (.loc a) (eD k) S = none := by simp only [dgD, h]
    rw [e1]
    have e2 : nHas a (eD k) S = some (lk kvs (kE2 k)) := by
      unfold nHas
      rw [h, Option.bind_some]
      show (some kvs).bind _ = _
      rw [Option.bind_some, nkT_end]; rfl
    simp only [Option.orElse, gnD, e2, Option.bind_some]
  rw [e, wq_map]
theorem wp_getL {fo fe : EvE} {τ : Tau} {S : Sto} {a : Nat} {kvs : List (NestedKey × D)} {k : End} {Q : D → Sto → Prop} (ho : fo τ S = some (.loc a, S)) (he : fe τ S = some (eD k, S)) (h : S[a]? = some (.lN kvs)) (q : Q ((lk kvs (kE2 k)).getD .non) S) : Wp (getE fo fe τ S) Q := by
  refine .of (a := (lk kvs (kE2 k)).getD .non) (S := S) ?_ q
  unfold getE
  have e1 : isKT (.loc a) S = false := by simp only [isKT, h]
  have e2 : isNd (.loc a) S = true := by simp only [isNd, h, Option.bind_some, nAt]
  have e3 : nHas a (eD k) S = some (lk kvs (kE2 k)) := by
    unfold nHas
    rw [h, Option.bind_some]
    show (some kvs).bind _ = _
    rw [Option.bind_some, nkT_end]; rfl
  simp only [ho, he, Option.bind_some, e1, e2, hasK, hasN, e3, if_true, Option.orElse, Option.map_some]
  rfl
theorem eval_sbL {S : Sto} {a : Nat} {kvs : List (NestedKey × D)} {k : End} {v : D} (h : S[a]? = some (.lN kvs)) (hv : lk kvs (kE2 k) = some v) : sbD (.loc a) (eD k) S = some (v, S) := by
  have := (wq_dgL (k := k) (Q := fun d S1 => d = v ∧ S1 = S) h).mpr ⟨v, hv, rfl, rfl⟩
  obtain ⟨d, S1, e, rfl, rfl⟩ := this
  exact e
theorem l_is_web_ok {w : Wb} {S : Sto} {Q : D → Sto → Prop} (hl : w.length ≤ 60) (hd : ∀ r, (rowD w r).length ≤ 12) (q : ∀ (S' : Sto) (b : Bool), (b = true ↔ WebP w) → S.length ≤ S'.length → (∀ n, n < S.length → S'[n]? = S[n]?) → Q (.bl b) S') : Wp (g_l_is_web [wD w] S) Q := by
  unfold g_l_is_web
  refine (wp_fnD (by rfl)).mpr ?_
  unfold b_l_is_web
  have isiW : ∀ {S : Sto} {Q : D → Sto → Prop}, Wp (isiD [wD w, .ty "tuple"] S) Q ↔ Q (.bl true) S := isi_tt
  (simp! only [isiW, len_w, wq_eqI])
  by_cases h0 : w.length = 0
  · rw [if_pos (show ((w.length : Nat) : Int) = 0 by omega)]
    exact q S false ⟨fun h => (by cases h), fun h => by have := h.1; omega⟩ (Nat.le_refl _) fun _ _ => rfl
  rw [if_neg (show ¬ ((w.length : Nat) : Int) = 0 by omega)]
  (simp! only [srcE_W])
  refine lo_enT (w.map rD) (LwI S w) ⟨[], none, none, none, none, none, rfl, ⟨fun k => by simp [kvE, lk], fun p hp => by simp at hp, by simp⟩, sto_new, by simp, fun n hn => sto_app hn⟩ ?_ ?_
  · rintro m d τ S1 hd1 ⟨ps, o2, o3, o4, o5, o6, rfl, L, hm, l1, f1⟩
    rw [List.getElem?_map] at hd1
    obtain ⟨row, hrow, rfl⟩ := Option.map_eq_some_iff.mp hd1
    have hre : row = rowD w m := (rowD_of hrow).symm
    subst hre
    have hml : m < w.length := (List.getElem?_eq_some_iff.mp hrow).1
    have isiR : ∀ {S : Sto} {Q : D → Sto → Prop}, Wp (isiD [rD (rowD w m), .ty "tuple"] S) Q ↔ Q (.bl true) S := isi_tt
    (simp! only [pr])
    (simp! only [isiR, srcE_R])
    refine lo_enT ((rowD w m).map eD) (LwJ S w m) ⟨ps, o2, o5, o6, rfl, L, hm, l1, f1⟩ ?_ ?_
    · rintro n d τ S2 hd2 ⟨ps, o2, o5, o6, rfl, L, hm, l2, f2⟩
      rw [List.getElem?_map] at hd2
      obtain ⟨e, he, rfl⟩ := Option.map_eq_some_iff.mp hd2
      have eeD : eD e = .tup [.int (e.1 : Int), .int (e.2 : Int)] := rfl
      have hn8 : n < 12 := by have := (List.getElem?_eq_some_iff.mp he).1; have := hd m; omega
      (simp! only [pr])
      rw [eeD]
      (simp! only [isi_tt, len_tup, wq_neI])
      rw [if_neg (by decide)]
      refine lc_fixed [.int (e.1 : Int), .int (e.2 : Int)] (by simp) (RpI S2) ⟨rfl, rfl⟩ ?_ ?_
      · rintro j d acc S3 hdj ⟨rfl, rfl⟩
        have hi : ∃ i : Int, d = .int i := by
          have := List.mem_of_getElem? hdj
          simp at this
          rcases this with rfl | rfl
          · exact ⟨_, rfl⟩
          · exact ⟨_, rfl⟩
        obtain ⟨i, rfl⟩ := hi
        refine ⟨_, pb_nm, ?_⟩
        (simp! only [])
        refine whole_ok ⟨?_, rfl⟩
        rw [List.replicate_succ', List.map_append]; rfl
      · rintro acc S3 ⟨rfl, rfl⟩
        (simp! only [])
        rw [wq_allL sto_new (bls_mapI _)]
        refine ⟨_, rfl, ?_⟩
        rw [if_neg (by decide)]
        have hm3 : (S3 ++ [MO.lst ((List.replicate [D.int (e.1 : Int), D.int (e.2 : Int)].length true).map D.bl)])[S.length]? = some (mkEn ps) := sto_old hm
        have f3 : ∀ n, n < S.length → (S3 ++ [MO.lst ((List.replicate [D.int (e.1 : Int), D.int (e.2 : Int)].length true).map D.bl)])[n]? = S[n]? := fun n hn => by rw [sto_app (by omega)]; exact f2 n hn
        have l3 : S.length < (S3 ++ [MO.lst ((List.replicate [D.int (e.1 : Int), D.int (e.2 : Int)].length true).map D.bl)]).length := by simp; omega
        generalize S3 ++ [MO.lst ((List.replicate [D.int (e.1 : Int), D.int (e.2 : Int)].length true).map D.bl)] = S4 at hm3 f3 l3 ⊢
        obtain ⟨hno, L2⟩ := L.put he
        have hst := stD_E (e := e) hm3 hno (by have := L.len; omega)
        have ek : D.tup [D.int (m : Int), D.int (n : Int)] = eD (m, n) := rfl
        rw [eeD] at hst
        (simp! only [ek, hst])
        exact ⟨ps ++ [((m, n), e)], _, _, _, rfl, L2, sto_set hm3, by simpa using l3, fun n hn => by rw [sto_ne (by omega)]; exact f3 n hn⟩
    · rintro τ S2 ⟨ps, o2, o5, o6, rfl, L, hm, l2, f2⟩
      rw [List.length_map] at L
      exact ⟨ps, _, _, _, _, _, rfl, L.next (hd m), hm, l2, f2⟩
  · rintro τ S1 ⟨ps, o2, o3, o4, o5, o6, rfl, L, hm, l1, f1⟩
    rw [List.length_map] at L
    have hall : ∀ k : End, lk (kvE ps) (kE2 k) = ((rowD w k.1)[k.2]?).map eD := fun k => by
      rw [L.at_]
      by_cases z : k.1 < w.length
      · rw [if_pos (.inl z)]
      · rw [rowD_none z]; simp
    -- what stands behind the loop
    have tail : ∀ (S2 : Sto) (o2 o3 o4 o5 o6 : Option D), (∀ p ∈ ps, (rowD w p.2.1)[p.2.2]? = some p.1) → S.length ≤ S2.length → (∀ n, n < S.length → S2[n]? = S[n]?) → Wp (rtS (b2E eqD (aE lenD (consA (aE g_l_reached (consA (vE 0) (consA (cE (.int 0)) nilA))) nilA)) (aE lenD (consA (vE 0) nilA))) [some (wD w), some (.loc S.length), o2, o3, o4, o5, o6] S2) fun o S1 => match o with
        | .rt d => Q d S1
        | .nx τ => Q .non S1
        | _ => False := fun S2 o2 o3 o4 o5 o6 ht l2 f2 => by
      have hT : ∀ r, r < w.length → ToldR w r := fun r hr d e he => by
        have := hall (r, d)
        have he' : (rowD w (r, d).1)[(r, d).2]? = some e := he
        rw [he', Option.map_some] at this
        exact ht _ (lk_mem this)
      have hc := told_closed hT
      (simp! only [])
      show Wp (g_l_reached [wD w, nD 0] S2) _
      refine l_reached_ok2 hc (by omega) (by omega) fun S5 h5 l5 f5 => ?_
      (simp! only [len_loc h5, List.length_map, len_w, wq_eqI])
      refine q S5 _ ?_ (by omega) fun n hn => by rw [f5 n (by omega)]; exact f2 n hn
      rw [decide_eq_true_eq]
      exact ⟨fun h => ⟨by omega, hT, by omega⟩, fun h => by have := h.2.2; omega⟩
    rw [cont_nx, wp_seqS]
    by_cases hps : ps = []
    · subst hps
      have hm' : S1[S.length]? = some (.dK []) := hm
      refine wp_lkS0 (n := S.length) rfl hm' ?_
      rw [wp_forS, wp_kyI]
      (simp! only [])
      refine ⟨_, srcKN_K (sto_set hm'), ?_⟩
      refine wp_lo (.keysK S.length ([] : List (Key × D)).length) [] (Pat.nm 2).bind _ (fun i τ S' => τ = [some (wD w), some (.loc S.length), o2, o3, o4, o5, o6] ∧ S' = S1.set S.length (.lK [])) (fun i d τ S' h => by simp at h) (fun τ S' h => by rw [h.2]; simp [Src.keysK, lKAt, sto_set hm']) (fun i d τ S' h => by simp at h) (fun τ S' h => ?_) _ 0 _ _ (by simp [Src.keysK]) ⟨rfl, rfl⟩
      obtain ⟨rfl, rfl⟩ := h
      refine ⟨sto_set hm', ?_⟩
      refine tail _ _ _ _ _ _ (fun p hp => by simp at hp) (by simp; omega) fun n hn => by rw [sto_ne (by omega), sto_ne (by omega)]; exact f1 n hn
    · have hm' : S1[S.length]? = some (.dN (kvE ps)) := by rw [hm]; unfold mkEn; rw [if_neg hps]
      have hm2 : (S1.set S.length (.lN (kvE ps)))[S.length]? = some (.lN (kvE ps)) := sto_set hm'
      refine wp_lkS (n := S.length) rfl hm' ?_
      rw [wp_forS, wp_kyI]
      (simp! only [])
      refine ⟨_, srcKN_N hm2, ?_⟩
      refine lo_keys S.length (kvE ps) (ps.map fun p => eD p.1) (by unfold kvE; rw [List.map_map, List.map_map]; rfl) (LwK S (S1.set S.length (.lN (kvE ps))) w ps) ⟨_, _, _, _, _, rfl, rfl, fun j p h => by omega⟩ (fun i τ S' ⟨_, _, _, _, _, _, h, _⟩ => by rw [h]; exact hm2) ?_ ?_
      · rintro i d τ S2 hd3 ⟨o2, o3, o4, o5, o6, rfl, rfl, hdn⟩
        rw [List.getElem?_map] at hd3
        obtain ⟨p, hp, rfl⟩ := Option.map_eq_some_iff.mp hd3
        have hpm := L.mem p (List.mem_of_getElem? hp)
        have hv : lk (kvE ps) (kE2 p.1) = some (eD p.2) := by rw [hall, hpm]; rfl
        refine ⟨_, pb_nm, ?_⟩
        have hsb := eval_sbL hm2 hv
        rw [wp_ifS, wp_tB, wp_b2E]
        refine wp_getL (a := S.length) (k := p.2) (kvs := kvE ps) rfl ?_ hm2 ?_
        · show (b2E sbD (vE 1) (vE 2)) _ _ = _
          have : ∀ (τ : Tau), τ[1]? = some (some (.loc S.length)) → τ[2]? = some (some (eD p.1)) → (b2E sbD (vE 1) (vE 2)) τ (S1.set S.length (.lN (kvE ps))) = some (eD p.2, S1.set S.length (.lN (kvE ps))) := fun τ h1 h2 => by
            have w1 : Wp (b2E sbD (vE 1) (vE 2) τ (S1.set S.length (.lN (kvE ps)))) fun d S' => d = eD p.2 ∧ S' = S1.set S.length (.lN (kvE ps)) := by
              (simp! only [h1, h2])
              exact ⟨_, _, hsb, rfl, rfl⟩
            obtain ⟨d, S', e, rfl, rfl⟩ := w1
            exact e
          exact this _ rfl rfl
        · rw [hall p.2]
          have g2 : gd (eD p.1) := (gk_two (k := 0) gk_int gk_int).gd
          have g1 : gd ((((rowD w p.2.1)[p.2.2]?).map eD).getD .non) := by
            cases (rowD w p.2.1)[p.2.2]? with
            | none => exact (gk_non (k := 0)).gd
            | some e => exact (gk_two (k := 0) gk_int gk_int).gd
          (simp! only [])
          rw [wq_neG g1 g2]
          refine ⟨_, rfl, ?_⟩
          have hiff : (((rowD w p.2.1)[p.2.2]?).map eD).getD .non = eD p.1 ↔ (rowD w p.2.1)[p.2.2]? = some p.1 := by
            cases (rowD w p.2.1)[p.2.2]? with
            | none => simp [eD]
            | some e =>
              simp only [Option.map_some, Option.getD_some, Option.some.injEq]
              exact ⟨eD_inj', fun h => by rw [h]⟩
          by_cases hz : (rowD w p.2.1)[p.2.2]? = some p.1
          · rw [if_neg (by simp [hiff.mpr hz])]
            refine ⟨_, _, _, _, _, rfl, rfl, fun j p' hj hp' => ?_⟩
            by_cases y : j = i
            · subst y; rw [hp] at hp'; cases hp'; exact hz
            · exact hdn j p' (by omega) hp'
          · rw [if_pos (by simpa using fun y => hz (hiff.mp y))]
            (simp! only [])
            refine ⟨hm2, ?_⟩
            refine q _ false ⟨fun h => (by cases h), fun h => absurd ?_ hz⟩ (by simp; omega) fun n hn => by rw [sto_ne (by omega), sto_ne (by omega)]; exact f1 n hn
            have hr : p.1.1 < w.length := by
              by_cases z : p.1.1 < w.length
              · exact z
              · rw [rowD_none z] at hpm; simp at hpm
            exact h.2.1 p.1.1 hr p.1.2 p.2 hpm
      · rintro τ S2 ⟨o2, o3, o4, o5, o6, rfl, rfl, hdn⟩
        rw [List.length_map] at hdn
        refine ⟨hm2, ?_⟩
        refine tail _ _ _ _ _ _ (fun p hp => ?_) (by simp; omega) fun n hn => by rw [sto_ne (by omega), sto_ne (by omega)]; exact f1 n hn
        obtain ⟨j, hj⟩ := List.getElem?_of_mem hp
        exact hdn j p (List.getElem?_eq_some_iff.mp hj).1 hj
end SW
namespace SW
open PySem L2

theorem rD_map {x : List End} : rD x = .tup (x.map eD) := rfl
def ShpOk (v : Wb) : Prop := v.length ≤ 50 ∧ ∀ x ∈ v, x.length ≤ 8
theorem ShpOk.row {v : Wb} (h : ShpOk v) (r : Nat) : (rowD v r).length ≤ 8 := by
  unfold rowD
  cases h1 : v[r]? with
  | none => simp
  | some x => exact h.2 x (List.mem_of_getElem? h1)
end SW
namespace SW
open PySem L2

/-! _law_rejoined -/
def VE (w : Wb) (p : End) : Prop := p.1 < w.length ∧ p.2 < (rowD w p.1).length
structure RjO (base : Nat) (R : Wb) (S : Sto) : Prop where
  row : ∀ (j : Nat) (x : List End), R[j]? = some x → S[base + j]? = some (.lst (x.map eD))
  out : S[base + R.length]? = some (.lst ((List.range R.length).map fun j => D.loc (base + j)))
def SameSh (w R : Wb) : Prop := R.length = w.length ∧ ∀ r, (rowD R r).length = (rowD w r).length
theorem rowD_set {R : Wb} {r s : Nat} {x : List End} (h : r < R.length) : rowD (R.set r x) s = if s = r then x else rowD R s := by
  unfold rowD
  rw [List.getElem?_set]
  by_cases z : r = s
  · subst z; rw [if_pos rfl, if_pos h, if_pos rfl]; rfl
  · rw [if_neg z, if_neg (fun y => z y.symm)]
theorem SameSh.put {w R : Wb} {p q : End} (h : SameSh w R) (hp : VE w p) : SameSh w (R.set p.1 ((rowD R p.1).set p.2 q)) := by
  refine ⟨by simp [h.1], fun r => ?_⟩
  rw [rowD_set (by rw [h.1]; exact hp.1)]
  by_cases z : r = p.1
  · rw [if_pos z, z, List.length_set]; exact h.2 _
  · rw [if_neg z]; exact h.2 r
theorem RjO.put {base : Nat} {R : Wb} {S : Sto} {p q : End} (h : RjO base R S) (hp : p.1 < R.length) : RjO base (R.set p.1 ((rowD R p.1).set p.2 q)) (S.set (base + p.1) (.lst (((rowD R p.1).map eD).set p.2 (eD q)))) := by
  have hr := h.row p.1 _ (row_at hp)
  refine ⟨fun j x e => ?_, ?_⟩
  · rw [List.getElem?_set] at e
    by_cases z : p.1 = j
    · subst z
      rw [if_pos rfl, if_pos hp] at e
      cases e
      rw [sto_set hr, List.map_set]
    · rw [if_neg z] at e
      rw [sto_ne (by omega)]; exact h.row j x e
  · rw [List.length_set, sto_ne (by omega)]; exact h.out
def RjI (S0 : Sto) (b z base l k : Nat) (w : Wb) (o2 o3 o6 o7 o8 o9 : Option D) (i : Nat) (τ : Tau) (S : Sto) : Prop := ∃ (R : Wb) (o10 o11 o12 : Option D), τ = [some (.loc b), some (wD w), o2, o3, some (.loc (base + w.length)), some (.loc l), o6, o7, o8, o9, o10, o11, o12] ∧ SameSh w R ∧ RjO base R S ∧ S0.length = S.length ∧ ∀ n, n < S0.length → (n < base ∨ base + w.length < n) → S[n]? = S0[n]?
def RjC (S0 : Sto) (w : Wb) (i : Nat) (acc : List D) (S : Sto) : Prop := acc = (List.range i).map (fun j => D.loc (S0.length + j)) ∧ S.length = S0.length + i ∧ (∀ n, n < S0.length → S[n]? = S0[n]?) ∧ ∀ (j : Nat) (x : List End), j < i → w[j]? = some x → S[S0.length + j]? = some (.lst (x.map eD))
def RjF (S0 : Sto) (R : Wb) (i : Nat) (acc : List D) (S : Sto) : Prop := acc = (R.take i).map rD ∧ S = S0
def Rj5 : EvS := (seqS (forS (sqI (vE 5)) (.tp [(.nm 10), (.nm 11)]) (seqS (asS (vE 11) (subG (b2E sbD (vE 4) (b2E sbD (vE 10) (cE (.int 0)))) (b2E sbD (vE 10) (cE (.int 1)))))
  (asS (vE 10) (subG (b2E sbD (vE 4) (b2E sbD (vE 11) (cE (.int 0)))) (b2E sbD (vE 11) (cE (.int 1)))))))
  (rtS (aE tupleD (consA (lcE (sqI (vE 4)) (.nm 12) yesT (aE tupleD (consA (vE 12) nilA)) [12]) nilA))))
theorem rj5_ok {S : Sto} {b z base l : Nat} {w R : Wb} {ts : List (End × End)} {o2 o3 o6 o7 o8 o9 o10 o11 o12 : Option D} {Q : Out → Sto → Prop} (hw : w.length ≤ 24) (hR : SameSh w R) (hO : RjO base R S) (hl : S[l]? = some (.lst (ts.map tD))) (hlb : l < base ∨ base + w.length < l) (hts : ∀ t ∈ ts, VE w t.1 ∧ VE w t.2)
    (q : ∀ (S' : Sto) (R : Wb), SameSh w R → S.length ≤ S'.length → (∀ n, n < S.length → (n < base ∨ base + w.length < n) → S'[n]? = S[n]?) → Q (.rt (wD R)) S') :
    Wp (Rj5 [some (.loc b), some (wD w), o2, o3, some (.loc (base + w.length)), some (.loc l), o6, o7, o8, o9, o10, o11, o12] S) Q := by
  unfold Rj5
  (simp! only [src_loc hl])
  refine lo_live l (ts.map tD) (RjI S b z base l 0 w o2 o3 o6 o7 o8 o9) ⟨R, _, _, _, rfl, hR, hO, rfl, fun _ _ _ => rfl⟩ (fun i τ S' ⟨_, _, _, _, _, _, _, _, f⟩ => by rw [f l (sto_lt hl) hlb]; exact hl) ?_ ?_
  · rintro i d τ S1 hd ⟨R, o10, o11, o12, rfl, hR, hO, l1, f1⟩
    rw [List.getElem?_map] at hd
    obtain ⟨⟨p, p'⟩, ht, rfl⟩ := Option.map_eq_some_iff.mp hd
    obtain ⟨hp, hp'⟩ := hts _ (List.mem_of_getElem? ht)
    have hp : VE w p := hp
    have hp' : VE w p' := hp'
    have etD : tD (p, p') = .tup [eD p, eD p'] := rfl
    have hout := hO.out
    rw [hR.1] at hout
    have hpl : p.1 < R.length := by rw [hR.1]; exact hp.1
    have hrow := hO.row p.1 _ (row_at hpl)
    have hat : ∀ j, j < w.length → atI ((List.range w.length).map fun j => D.loc (base + j)) (j : Int) = some (.loc (base + j)) := fun j hj => atI_of (by rw [List.getElem?_map, List.getElem?_range hj]; rfl)
    have hd1 : p.2 < ((rowD R p.1).map eD).length := by rw [List.length_map, hR.2]; exact hp.2
    rw [etD]
    (simp! only [wq_e0, wq_e1, wq_sbL hout])
    refine ⟨_, hat p.1 hp.1, _, stD_lst (v := eD p') hrow hd1, ?_⟩
    have hR2 := hR.put (q := p') hp
    have hO2 := hO.put (q := p') hpl
    have hl2 : (S1.set (base + p.1) (.lst (((rowD R p.1).map eD).set p.2 (eD p')))).length = S1.length := by simp
    have f2 : ∀ n, n < S.length → (n < base ∨ base + w.length < n) → (S1.set (base + p.1) (.lst (((rowD R p.1).map eD).set p.2 (eD p'))))[n]? = S[n]? := fun n hn h => by
      have := hp.1
      rw [sto_ne (by omega)]; exact f1 n hn h
    generalize S1.set (base + p.1) (.lst (((rowD R p.1).map eD).set p.2 (eD p'))) = S2 at hO2 hl2 f2 ⊢
    generalize R.set p.1 ((rowD R p.1).set p.2 p') = R2 at hO2 hR2
    have hout2 := hO2.out
    rw [hR2.1] at hout2
    have hpl2 : p'.1 < R2.length := by rw [hR2.1]; exact hp'.1
    have hrow2 := hO2.row p'.1 _ (row_at hpl2)
    have hd2 : p'.2 < ((rowD R2 p'.1).map eD).length := by rw [List.length_map, hR2.2]; exact hp'.2
    have hR3 := hR2.put (q := p) hp'
    have hO3 := hO2.put (q := p) hpl2
    (simp! only [wq_e0, wq_e1, wq_sbL hout2])
    refine ⟨_, hat p'.1 hp'.1, _, stD_lst (v := eD p) hrow2 hd2, ?_⟩
    exact ⟨_, _, _, _, rfl, hR3, hO3, by simp; omega, fun n hn h => by
      have := hp'.1
      rw [sto_ne (by omega)]; exact f2 n hn h⟩
  · rintro τ S1 ⟨R, o10, o11, o12, rfl, hR, hO, l1, f1⟩
    have hout := hO.out
    rw [hR.1] at hout
    (simp! only [src_loc hout])
    refine lc_live (base + w.length) ((List.range w.length).map fun j => D.loc (base + j)) (by simp; omega) (RjF S1 R) ⟨rfl, rfl⟩ (fun i acc S h => by rw [h.2]; exact hout) ?_ ?_
    · rintro i d acc S2 hd ⟨rfl, rfl⟩
      rw [List.getElem?_map] at hd
      obtain ⟨j, hj, rfl⟩ := Option.map_eq_some_iff.mp hd
      have hi : i < w.length := by have := (List.getElem?_eq_some_iff.mp hj).1; simpa using this
      rw [List.getElem?_range hi] at hj
      cases hj
      have hrow := hO.row i _ (row_at (show i < R.length by rw [hR.1]; exact hi))
      refine ⟨_, pb_nm, ?_⟩
      (simp! only [wq_tupleL hrow])
      refine ⟨?_, rfl⟩
      rw [List.take_add_one, row_at (show i < R.length by rw [hR.1]; exact hi), List.map_append]; rfl
    · rintro acc S2 ⟨rfl, rfl⟩
      rw [List.length_map, List.length_range, ← hR.1, List.take_length]
      have hn : (S2 ++ [MO.lst (R.map rD)])[S2.length]? = some (.lst (R.map rD)) := sto_new
      (simp! only [wq_tupleL hn])
      exact q _ R hR (by simp; omega) fun n hn h => by rw [sto_app (by omega)]; exact f1 n hn h
theorem l_rejoined_ok {S : Sto} {b z : Nat} {w : Wb} {Q : D → Sto → Prop} (hb : Bx S b z) (hz : z < 800000) (W : IsWeb w)
    (q : ∀ (S' : Sto) (v : Wb), SameSh w v → Bx S' b (z + 10) → Fr S S' b → Q (wD v) S') : Wp (g_l_rejoined [.loc b, wD w] S) Q := by
  unfold g_l_rejoined
  refine (wp_fnD (by rfl)).mpr ?_
  show Wp (seqS _ (seqS _ (seqS _ (seqS _ (seqS _ (seqS _ (seqS _ Rj5)))))) _ S) _
  have hf := W.few
  have hbl := hb.lt
  (simp! only [])
  refine ends_ok hf W.doors fun S1 es E h1 l1 f1 => ?_
  have hes := E.few
  have hb1 : Bx S1 b z := hb.of (f1 b hbl)
  have fr1 : Fr S S1 b := ⟨by omega, fun n hn _ => f1 n hn⟩
  have vE : ∀ t ∈ es, VE w t.1 ∧ VE w t.2 := fun t ht => by
    have h := ((E.mem t.1 t.2).mp ht).1
    have hbk := W.back _ _ _ _ h
    have ok : ∀ (p q : End), aT w p.1 p.2 = some q → VE w p := fun p q h => by
      obtain ⟨row, h1, h2⟩ := aT_some.mp h
      refine ⟨(List.getElem?_eq_some_iff.mp h1).1, ?_⟩
      rw [rowD_of h1]; exact (List.getElem?_eq_some_iff.mp h2).1
    exact ⟨ok _ _ h, ok _ _ hbk⟩
  (simp! only [len_loc h1, List.length_map])
  by_cases h2 : ((es.length : Nat) : Int) < 2
  · rw [if_pos (by simpa using h2)]
    (simp! only [])
    exact q S1 w ⟨rfl, fun _ => rfl⟩ (hb1.le (by omega)) fr1
  rw [if_neg (by simpa using h2)]
  (simp! only [len_loc h1, List.length_map])
  refine take_ok hb1 (by omega) (by omega) (by omega) fun k S2 hk hb2 l2 f2 => ?_
  have fr2 : Fr S S2 b := fr1.trans ⟨by omega, fun n _ h => f2 n h⟩
  have h2' : S2[S.length]? = some (.lst (es.map tD)) := by rw [f2 _ (by omega)]; exact h1
  have hkk : es[k]? = some es[k] := List.getElem?_eq_getElem hk
  generalize es[k] = t at hkk
  have hvt := vE t (List.mem_of_getElem? hkk)
  have hat : atI (es.map tD) (k : Int) = some (.tup [eD t.1, eD t.2]) := atI_of (by rw [List.getElem?_map, hkk]; rfl)
  have e1 : (k : Int) + 1 = ((k + 1 : Nat) : Int) := by omega
  have hA : (S2 ++ [MO.lst ((es.take k).map tD)])[S.length]? = some (.lst (es.map tD)) := sto_old h2'
  have hB : (S2 ++ [MO.lst ((es.take k).map tD)] ++ [MO.lst ((es.drop (k + 1)).map tD)])[S2.length]? = some (.lst ((es.take k).map tD)) := sto_old sto_new
  have hC : (S2 ++ [MO.lst ((es.take k).map tD)] ++ [MO.lst ((es.drop (k + 1)).map tD)])[(S2 ++ [MO.lst ((es.take k).map tD)]).length]? = some (.lst ((es.drop (k + 1)).map tD)) := sto_new
  (simp! only [wq_sbL h2', hat])
  (simp! only [wq_slL h2', e1, cut_take])
  rw [← List.map_take]
  (simp! only [wq_slL hA, cut_drop])
  rw [← List.map_drop]
  rw [wq_catL hB hC]
  refine ⟨by simp; omega, ?_⟩
  have ecat : (es.take k).map tD ++ (es.drop (k + 1)).map tD = (es.take k ++ es.drop (k + 1)).map tD := by rw [List.map_append]
  rw [ecat]
  have hlen : (es.take k ++ es.drop (k + 1)).length = es.length - 1 := by simp; omega
  have hvs : ∀ t ∈ es.take k ++ es.drop (k + 1), VE w t.1 ∧ VE w t.2 := fun t ht => by
    rcases List.mem_append.mp ht with h | h
    · exact vE t (List.mem_of_mem_take h)
    · exact vE t (List.mem_of_mem_drop h)
  generalize es.take k ++ es.drop (k + 1) = es2 at hlen hvs
  have hD : (S2 ++ [MO.lst ((es.take k).map tD)] ++ [MO.lst ((es.drop (k + 1)).map tD)] ++ [MO.lst (es2.map tD)])[(S2 ++ [MO.lst ((es.take k).map tD)] ++ [MO.lst ((es.drop (k + 1)).map tD)]).length]? = some (.lst (es2.map tD)) := sto_new
  have hE : (S2 ++ [MO.lst ((es.take k).map tD)] ++ [MO.lst ((es.drop (k + 1)).map tD)] ++ [MO.lst (es2.map tD)])[S.length]? = some (.lst (es.map tD)) := sto_old (sto_old hA)
  have fr3 : Fr S (S2 ++ [MO.lst ((es.take k).map tD)] ++ [MO.lst ((es.drop (k + 1)).map tD)] ++ [MO.lst (es2.map tD)]) b := ((fr2.trans (Fr.app _ _ _)).trans (Fr.app _ _ _)).trans (Fr.app _ _ _)
  have hb3 : Bx (S2 ++ [MO.lst ((es.take k).map tD)] ++ [MO.lst ((es.drop (k + 1)).map tD)] ++ [MO.lst (es2.map tD)]) b (z + 1) := hb2.of (by rw [List.append_assoc, List.append_assoc, List.getElem?_append_left hb2.lt])
  have hlE : b < (S2 ++ [MO.lst ((es.take k).map tD)] ++ [MO.lst ((es.drop (k + 1)).map tD)]).length := by have := hb2.lt; simp; omega
  generalize (S2 ++ [MO.lst ((es.take k).map tD)] ++ [MO.lst ((es.drop (k + 1)).map tD)]).length = lx at hD hlE ⊢
  generalize S2 ++ [MO.lst ((es.take k).map tD)] ++ [MO.lst ((es.drop (k + 1)).map tD)] ++ [MO.lst (es2.map tD)] = S3 at hD hE fr3 hb3 ⊢
  have e2 : ((es.length : Nat) : Int) - 1 = ((es.length - 1 : Nat) : Int) := by omega
  (simp! only [len_loc hE, List.length_map, e2])
  refine take_ok hb3 (by omega) (by omega) (by omega) fun m S4 hm hb4 l4 f4 => ?_
  have fr4 : Fr S S4 b := fr3.trans ⟨by omega, fun n _ h => f4 n h⟩
  have hD4 : S4[lx]? = some (.lst (es2.map tD)) := by rw [f4 _ (by omega)]; exact hD
  have hmm : es2[m]? = some es2[m] := List.getElem?_eq_getElem (by omega)
  generalize es2[m] = t2 at hmm
  have hvt2 := hvs t2 (List.mem_of_getElem? hmm)
  have hat2 : atI (es2.map tD) (m : Int) = some (.tup [eD t2.1, eD t2.2]) := atI_of (by rw [List.getElem?_map, hmm]; rfl)
  (simp! only [wq_sbL hD4, hat2])
  (simp! only [src_W])
  refine lc_fixed (w.map rD) (by simp; omega) (RjC S4 w) ⟨rfl, rfl, fun _ _ => rfl, fun j x h => by omega⟩ ?_ ?_
  · rintro i d acc S5 hd ⟨rfl, l5, f5, r5⟩
    rw [List.getElem?_map] at hd
    obtain ⟨row, hrow, rfl⟩ := Option.map_eq_some_iff.mp hd
    refine ⟨_, pb_nm, ?_⟩
    (simp! only [rD_map, wq_listT])
    refine ⟨?_, by simp; omega, fun n hn => by rw [sto_app (by omega)]; exact f5 n hn, fun j x hj hx => ?_⟩
    · rw [List.range_succ, List.map_append, l5]; rfl
    · by_cases hz : j = i
      · subst hz
        rw [hrow] at hx; cases hx
        rw [← l5]; exact sto_new
      · rw [sto_app (by omega)]; exact r5 j x (by omega) hx
  · rintro acc S5 ⟨rfl, l5, f5, r5⟩
    rw [List.length_map] at l5 r5 ⊢
    have hO : RjO S4.length w (S5 ++ [MO.lst ((List.range w.length).map fun j => D.loc (S4.length + j))]) := ⟨fun j x hx => by
      have hj := (List.getElem?_eq_some_iff.mp hx).1
      rw [sto_app (by omega)]; exact r5 j x hj hx, by rw [← l5]; exact sto_new⟩
    have hbl4 := hb4.lt
    have hb6 : Bx (S5 ++ [MO.lst ((List.range w.length).map fun j => D.loc (S4.length + j))]) b (z + 1 + 1) := hb4.of (by rw [sto_app (by omega)]; exact f5 b hbl4)
    have fr6 : Fr S (S5 ++ [MO.lst ((List.range w.length).map fun j => D.loc (S4.length + j))]) b := fr4.trans ⟨by simp; omega, fun n hn _ => by rw [sto_app (by omega)]; exact f5 n hn⟩
    have l6 : (S5 ++ [MO.lst ((List.range w.length).map fun j => D.loc (S4.length + j))]).length = S4.length + w.length + 1 := by simp; omega
    (simp! only [])
    rw [l5]
    generalize S5 ++ [MO.lst ((List.range w.length).map fun j => D.loc (S4.length + j))] = S6 at hO hb6 fr6 l6 ⊢
    refine take_ok (m := 2) hb6 (by omega) (by omega) (by omega) fun c S7 hc hb7 l7 f7 => ?_
    have hO7 : RjO S4.length w S7 := ⟨fun j x hx => by rw [f7 _ (by omega)]; exact hO.row j x hx, by rw [f7 _ (by omega)]; exact hO.out⟩
    have fr7 : Fr S S7 b := fr6.trans ⟨by omega, fun n _ h => f7 n h⟩
    have fin : ∀ (ts : List (End × End)) (o10 o11 o12 : Option D), (∀ t ∈ ts, VE w t.1 ∧ VE w t.2) → Wp (Rj5 [some (.loc b), some (wD w), some (.loc S.length), some (.int (k : Int)), some (.loc (S4.length + w.length)), some (.loc S7.length), some (eD t.1), some (eD t.2), some (eD t2.1), some (eD t2.2), o10, o11, o12] (S7 ++ [MO.lst (ts.map tD)])) fun o S1 => match o with
        | .rt d => Q d S1
        | .nx _ => Q .non S1
        | _ => False := fun ts o10 o11 o12 hts => by
      have hO8 : RjO S4.length w (S7 ++ [MO.lst (ts.map tD)]) := ⟨fun j x hx => sto_old (hO7.row j x hx), sto_old hO7.out⟩
      refine rj5_ok (z := z) hf ⟨rfl, fun _ => rfl⟩ hO8 sto_new (by omega) hts fun S9 R hR l9 f9 => ?_
      have hbl7 := hb7.lt
      refine q S9 R hR ((hb7.le (by omega)).of (by rw [f9 b (by simp; omega) (by omega), sto_app (by omega)])) ⟨by have := fr7.len; simp at l9; omega, fun n hn hne => ?_⟩
      have := fr4.len
      have := fr7.len
      rw [f9 n (by simp; omega) (by omega), sto_app (by omega)]
      exact fr7.at_ n hn hne
    (simp! only [wq_eqI])
    by_cases hc0 : (c : Int) = 0
    · rw [if_pos hc0]
      (simp! only [])
      exact fin [(t.1, t2.1), (t.2, t2.2)] _ _ _ fun x hx => by
        simp at hx
        rcases hx with rfl | rfl
        · exact ⟨hvt.1, hvt2.1⟩
        · exact ⟨hvt.2, hvt2.2⟩
    · rw [if_neg hc0]
      (simp! only [])
      exact fin [(t.1, t2.2), (t.2, t2.1)] _ _ _ fun x hx => by
        simp at hx
        rcases hx with rfl | rfl
        · exact ⟨hvt.1, hvt2.2⟩
        · exact ⟨hvt.2, hvt2.1⟩
end SW
namespace SW
open PySem L2
end SW
namespace SW
open PySem L2

end SW
namespace SW
open PySem L2

/-! the web of the sheets, told exactly -/
structure ShOf (w : Wb) (es : List (End × End)) (σ : List (List Nat)) (many : Nat) (w' : Wb) : Prop where
  len : w'.length = many * w.length
  row : ∀ (x : Nat) (l : List End), w'[x]? = some l → l.length = rowL w (x % w.length)
  at_ : ∀ (x d : Nat) (e : End), aT w' x d = some e → Rt w es σ x d e
theorem ShOf.uniq {w : Wb} {es : List (End × End)} {σ : List (List Nat)} {many : Nat} {w1 w2 : Wb} (H : Sheets w es σ many) (h1 : ShOf w es σ many w1) (h2 : ShOf w es σ many w2) : w1 = w2 := by
  apply List.ext_getElem?
  intro x
  by_cases hx : x < many * w.length
  · have g1 : w1[x]? = some (w1[x]'(by rw [h1.len]; exact hx)) := List.getElem?_eq_getElem _
    have g2 : w2[x]? = some (w2[x]'(by rw [h2.len]; exact hx)) := List.getElem?_eq_getElem _
    generalize (w1[x]'(by rw [h1.len]; exact hx)) = l1 at g1
    generalize (w2[x]'(by rw [h2.len]; exact hx)) = l2 at g2
    rw [g1, g2]
    congr 1
    have e1 := h1.row x l1 g1
    have e2 := h2.row x l2 g2
    apply List.ext_getElem?
    intro d
    by_cases hd : d < l1.length
    · have k1 : l1[d]? = some l1[d] := List.getElem?_eq_getElem hd
      have k2 : l2[d]? = some (l2[d]'(by omega)) := List.getElem?_eq_getElem _
      generalize l1[d] = a1 at k1
      generalize (l2[d]'(by omega)) = a2 at k2
      rw [k1, k2]
      congr 1
      exact (h1.at_ x d a1 (aT_some.mpr ⟨l1, g1, k1⟩)).fun_ H (h2.at_ x d a2 (aT_some.mpr ⟨l2, g2, k2⟩))
    · rw [List.getElem?_eq_none_iff.mpr (by omega), List.getElem?_eq_none_iff.mpr (by omega)]
  · rw [List.getElem?_eq_none_iff.mpr (by rw [h1.len]; omega), List.getElem?_eq_none_iff.mpr (by rw [h2.len]; omega)]
section
variable {S : Sto} {Q : D → Sto → Prop}
end
end SW
namespace SW
open PySem L2

/-! the program's spread -/
section
variable {g : D → Tau → Option Tau} {b : EvS} {τ : Tau} {S : Sto} {Q : Out → Sto → Prop}
theorem lo_zip (m k : Nat) (as bs : List D) (hab : as.length = bs.length) (I : Nat → Tau → Sto → Prop) (h0 : I 0 τ S) (hl : ∀ i τ S, I i τ S → S[m]? = some (.lst as) ∧ S[k]? = some (.lst bs))
    (hs : ∀ i x y τ S, as[i]? = some x → bs[i]? = some y → I i τ S → ∃ τ1, g (.tup [x, y]) τ = some τ1 ∧ Wp (b τ1 S) (LoopQ (I (i + 1)) Q))
    (he : ∀ τ S, I as.length τ S → Q (.nx τ) S) : ∃ s, srcZip (.loc m) (.loc k) S = some s ∧ Wp (loE s g b s.len 0 τ S) Q := by
  have lof : ∀ {S : Sto} {n : Nat} {ds : List D}, S[n]? = some (.lst ds) → lsOf (.loc n) S = some ds := fun h => by simp only [lsOf, h]
  obtain ⟨z1, z2⟩ := hl 0 τ S h0
  have hsz : srcZip (.loc m) (.loc k) S = some (.zz m k as.length bs.length) := by
    simp only [srcZip, lof z1, lof z2, Option.bind_some, Option.map_some]; rfl
  refine ⟨_, hsz, ?_⟩
  have hlen : (zipsT as bs).length = as.length := by rw [zipsT_len]; omega
  refine wp_lo (.zz m k as.length bs.length) (zipsT as bs) g b I (fun i d τ S h hI => ?_) (fun τ S hI => ?_) (fun i d τ S h hI => ?_) (by rw [hlen]; exact he) _ 0 τ S ?_ h0
  · obtain ⟨y1, y2⟩ := hl i τ S hI
    obtain ⟨a, b, h1, h2, rfl⟩ := zipsT_get _ _ _ _ h
    simp only [Src.zz, lsN_of y1, lsN_of y2, Option.bind_some, h1, h2, Option.map_some]
  · obtain ⟨y1, y2⟩ := hl _ τ S hI
    simp only [Src.zz, lsN_of y1, lsN_of y2]; rfl
  · obtain ⟨a, b, h1, h2, rfl⟩ := zipsT_get _ _ _ _ h
    exact hs i a b τ S h1 h2 hI
  · simp only [Src.zz]; omega
end
/-- rows in the store, wherever they lie -/
structure MkA (S : Sto) (A : Nat → Nat) (T U N : Nat) (M : Mat) : Prop where
  top : S[T]? = some (.lst ((List.range N).map fun x => D.loc (A x)))
  at_ : ∀ x, x < N → S[A x]? = some (.lst ((M x).map oD))
  lo : ∀ x, x < N → T < A x
  hi : ∀ x, x < N → A x < U
  inj : ∀ x y, x < N → y < N → A x = A y → x = y
theorem MkA.of {S S' : Sto} {A : Nat → Nat} {T U N : Nat} {M : Mat} (h : MkA S A T U N M) (hT : T < U) (k : ∀ n, T ≤ n → n < U → S'[n]? = S[n]?) : MkA S' A T U N M :=
  ⟨(k _ (Nat.le_refl _) hT).trans h.top, fun x hx => (k _ (Nat.le_of_lt (h.lo x hx)) (h.hi x hx)).trans (h.at_ x hx), h.lo, h.hi, h.inj⟩
theorem MkA.put {S : Sto} {A : Nat → Nat} {T U N x d : Nat} {M : Mat} {e : End} (h : MkA S A T U N M) (hx : x < N) : MkA (S.set (A x) (.lst (((M x).map oD).set d (eD e)))) A T U N (putM M x d e) := by
  refine ⟨by rw [sto_ne (by have := h.lo x hx; omega)]; exact h.top, fun y hy => ?_, h.lo, h.hi, h.inj⟩
  unfold putM
  by_cases z : y = x
  · subst z
    rw [if_pos rfl, sto_set (h.at_ y hy), List.map_set]; rfl
  · rw [if_neg z, sto_ne fun e => z (h.inj y x hy hx e.symm)]; exact h.at_ y hy
theorem MkA.get {S : Sto} {A : Nat → Nat} {T U N x : Nat} {M : Mat} {Q : D → Sto → Prop} (h : MkA S A T U N M) (hx : x < N) : Wp (sbD (.loc T) (.int (x : Int)) S) Q ↔ Q (.loc (A x)) S := by
  have : atI ((List.range N).map fun x => D.loc (A x)) (x : Int) = some (.loc (A x)) := atI_of (by rw [List.getElem?_map, List.getElem?_range hx]; rfl)
  rw [wq_sbL h.top, this]
  simp
end SW
namespace SW
open PySem L2

end SW
namespace SW
open PySem L2

end SW
namespace SW
open PySem L2

/-! a web over another one: kinds by kinds -/
section
variable {α : Type} [DecidableEq α]
def Rep (L L' : List α) : Prop := 0 < L.length ∧ L.length ≤ L'.length ∧ ∀ x, x < L'.length → L'[x]? = L[x % L.length]?
theorem foldl_in : ∀ (L acc : List α), (∀ x ∈ L, x ∈ acc) → L.foldl addL acc = acc
  | [], _, _ => rfl
  | a :: L, acc, h => by
    have : addL acc a = acc := by unfold addL; rw [if_pos (h a (by simp))]
    rw [List.foldl_cons, this]
    exact foldl_in L acc fun x hx => h x (by simp [hx])
theorem Rep.take {L L' : List α} (R : Rep L L') : L'.take L.length = L := by
  obtain ⟨h0, hl, h⟩ := R
  apply List.ext_getElem?
  intro i
  by_cases hi : i < L.length
  · rw [List.getElem?_take_of_lt hi, h i (by omega), Nat.mod_eq_of_lt hi]
  · rw [List.getElem?_eq_none_iff.mpr (by rw [List.length_take]; omega), List.getElem?_eq_none_iff.mpr (by omega)]
theorem Rep.seen {L L' : List α} (R : Rep L L') : seenL L' = seenL L := by
  have e : L' = L ++ L'.drop L.length := by
    conv => lhs; rw [← List.take_append_drop L.length L', R.take]
  have h2 : seenL L' = (L'.drop L.length).foldl addL (seenL L) := by
    conv => lhs; rw [e]
    unfold seenL
    rw [List.foldl_append]
  rw [h2]
  refine foldl_in _ _ fun x hx => seenL_mem.mpr ?_
  obtain ⟨i, hi⟩ := List.getElem?_of_mem (List.mem_of_mem_drop hx)
  have hl := (List.getElem?_eq_some_iff.mp hi).1
  rw [R.2.2 i hl] at hi
  exact List.mem_of_getElem? hi
theorem Rep.num {L L' : List α} (R : Rep L L') : Rep (numL L) (numL L') := by
  obtain ⟨h0, hl, h⟩ := id R
  refine ⟨by rw [numL_len]; exact h0, by rw [numL_len, numL_len]; exact hl, fun x hx => ?_⟩
  rw [numL_len] at hx ⊢
  have hm : x % L.length < L.length := Nat.mod_lt _ h0
  have g : L[x % L.length]? = some L[x % L.length] := List.getElem?_eq_getElem hm
  rw [numL_get g, numL_get ((h x hx).trans g), R.seen]
/-- the same pattern, the same numbers -/
theorem numL_pat {β : Type} [DecidableEq β] {L : List α} {M : List β} (hl : L.length = M.length) (h : ∀ i j, i < L.length → j < L.length → (L[i]? = L[j]? ↔ M[i]? = M[j]?)) : numL L = numL M := by
  have first : ∀ i, i ≤ L.length → ∃ F : List Nat, (∀ f ∈ F, f < i) ∧ (seenL (L.take i)).map some = F.map (L[·]?) ∧ (seenL (M.take i)).map some = F.map (M[·]?) := by
    intro i
    induction i with
    | zero => intro _; exact ⟨[], by simp, rfl, rfl⟩
    | succ i ih =>
      intro hi
      obtain ⟨F, f1, f2, f3⟩ := ih (by omega)
      have g1 : L[i]? = some L[i] := List.getElem?_eq_getElem (by omega)
      have g2 : M[i]? = some (M[i]'(by omega)) := List.getElem?_eq_getElem _
      generalize L[i] = a at g1
      generalize (M[i]'(by omega)) = b at g2
      rw [seenL_take g1, seenL_take g2]
      have m1 : a ∈ seenL (L.take i) ↔ ∃ f ∈ F, L[f]? = L[i]? := by
        rw [g1, ← List.mem_map (f := fun f : Nat => L[f]?), ← f2]
        simp
      have m2 : b ∈ seenL (M.take i) ↔ ∃ f ∈ F, M[f]? = M[i]? := by
        rw [g2, ← List.mem_map (f := fun f : Nat => M[f]?), ← f3]
        simp
      have mm : a ∈ seenL (L.take i) ↔ b ∈ seenL (M.take i) := by
        rw [m1, m2]
        constructor
        · rintro ⟨f, hf, e⟩; exact ⟨f, hf, (h f i (by have := f1 f hf; omega) (by omega)).mp e⟩
        · rintro ⟨f, hf, e⟩; exact ⟨f, hf, (h f i (by have := f1 f hf; omega) (by omega)).mpr e⟩
      unfold addL
      by_cases z : a ∈ seenL (L.take i)
      · rw [if_pos z, if_pos (mm.mp z)]
        exact ⟨F, fun f hf => by have := f1 f hf; omega, f2, f3⟩
      · rw [if_neg z, if_neg fun y => z (mm.mpr y)]
        refine ⟨F ++ [i], fun f hf => ?_, ?_, ?_⟩
        · rw [List.mem_append, List.mem_singleton] at hf
          rcases hf with hf | rfl
          · have := f1 f hf; omega
          · omega
        · rw [List.map_append, List.map_append, f2]; simp [g1]
        · rw [List.map_append, List.map_append, f3]; simp [g2]
  obtain ⟨F, f1, f2, f3⟩ := first L.length (Nat.le_refl _)
  rw [List.take_length] at f2
  rw [hl, List.take_length] at f3
  apply List.ext_getElem?
  intro j
  by_cases hj : j < L.length
  · have g1 : L[j]? = some L[j] := List.getElem?_eq_getElem hj
    have g2 : M[j]? = some (M[j]'(by omega)) := List.getElem?_eq_getElem _
    generalize L[j] = a at g1
    generalize (M[j]'(by omega)) = b at g2
    rw [numL_get g1, numL_get g2]
    congr 1
    have i1 : (seenL L).idxOf a = F.findIdx fun f => L[f]? == some a := by
      have e1 : ((seenL L).map some).findIdx (fun o => o == some a) = (seenL L).findIdx (· == a) := by
        rw [List.findIdx_map]
        congr 1
      unfold List.idxOf
      rw [← e1, f2, List.findIdx_map]; rfl
    have i2 : (seenL M).idxOf b = F.findIdx fun f => M[f]? == some b := by
      have e1 : ((seenL M).map some).findIdx (fun o => o == some b) = (seenL M).findIdx (· == b) := by
        rw [List.findIdx_map]
        congr 1
      unfold List.idxOf
      rw [← e1, f3, List.findIdx_map]; rfl
    rw [i1, i2]
    have : ∀ F : List Nat, (∀ f ∈ F, f < L.length) → F.findIdx (fun f => L[f]? == some a) = F.findIdx fun f => M[f]? == some b := by
      intro F
      induction F with
      | nil => intro _; rfl
      | cons f F ih =>
        intro hf
        have e : (L[f]? == some a) = (M[f]? == some b) := by
          rw [← g1, ← g2]
          have := h f j (hf f (by simp)) hj
          by_cases z : L[f]? = L[j]?
          · rw [beq_iff_eq.mpr z, beq_iff_eq.mpr (this.mp z)]
          · rw [beq_eq_false_iff_ne.mpr z, beq_eq_false_iff_ne.mpr fun y => z (this.mpr y)]
        rw [List.findIdx_cons, List.findIdx_cons, e, ih fun x hx => hf x (by simp [hx])]
    exact this F f1
  · rw [List.getElem?_eq_none_iff.mpr (by rw [numL_len]; omega), List.getElem?_eq_none_iff.mpr (by rw [numL_len]; omega)]
end
structure Cov (w w' : Wb) (many : Nat) : Prop where
  pos : 0 < w.length
  pm : 0 < many
  len : w'.length = many * w.length
  row : ∀ x, x < w'.length → (rowD w' x).map (fun e => (e.1 % w.length, e.2)) = rowD w (x % w.length)
theorem Cov.rep {w w' : Wb} {many : Nat} (C : Cov w w' many) {α : Type} {L L' : List α} (h1 : L.length = w.length) (h2 : L'.length = w'.length) (h : ∀ x, x < w'.length → L'[x]? = L[x % w.length]?) : Rep L L' := by
  have := C.pos
  refine ⟨by omega, ?_, fun x hx => by rw [h1]; exact h x (by omega)⟩
  rw [h1, h2, C.len]
  exact Nat.le_mul_of_pos_left _ C.pm
theorem ShOf.cov {w w' : Wb} {σ : List (List Nat)} {many : Nat} (h0 : 0 < w.length) (hm : 0 < many) (H : Sheets w (endsN w w.length) σ many) (h : ShOf w (endsN w w.length) σ many w') : Cov w w' many := by
  refine ⟨h0, hm, h.len, fun x hx => ?_⟩
  have hr := row_at hx
  have hxm : x % w.length < w.length := Nat.mod_lt _ h0
  have hl := h.row x _ hr
  rw [rowL_of (row_at hxm)] at hl
  apply List.ext_getElem?
  intro d
  by_cases hd : d < (rowD w' x).length
  · have g : (rowD w' x)[d]? = some (rowD w' x)[d] := List.getElem?_eq_getElem hd
    generalize (rowD w' x)[d] = e at g
    rw [List.getElem?_map, g]
    obtain ⟨t, one, other, k, s, L, h1, h2, h3, c⟩ := h.at_ x d e (rowD_at.mp g)
    obtain ⟨a1, a2, a3, a4, a5⟩ := H.at_ h1
    rcases c with ⟨x1, d1, e1⟩ | ⟨x1, d1, e1⟩
    · rw [x1, mod_n a4, d1, rowD_at.mpr a1, e1]
      show some ((other.1 + s * w.length) % w.length, other.2) = _
      rw [mod_n a5]
    · rw [x1, mod_n a5, d1, rowD_at.mpr a2, e1]
      show some ((one.1 + k * w.length) % w.length, one.2) = _
      rw [mod_n a4]
  · rw [List.getElem?_eq_none_iff.mpr (by rw [List.length_map]; omega), List.getElem?_eq_none_iff.mpr (by omega)]
theorem Cov.rnd {w w' : Wb} {many : Nat} (C : Cov w w' many) (hc : Closed w') : ∀ t, Rep (SW.rnd w t) (SW.rnd w' t) := by
  have hlt : ∀ x, x % w.length < w.length := fun x => Nat.mod_lt _ C.pos
  have rl : ∀ x, x < w'.length → (rowD w' x).length = (rowD w (x % w.length)).length := fun x hx => by rw [← C.row x hx, List.length_map]
  intro t
  induction t with
  | zero =>
    refine Rep.num (C.rep (by simp) (by simp) fun x hx => ?_)
    rw [List.getElem?_map, List.getElem?_map, row_at hx, row_at (hlt x)]
    show some _ = some _
    rw [rl x hx]
  | succ t ih =>
    refine Rep.num (C.rep (finer_len _ _) (finer_len _ _) fun x hx => ?_)
    rw [finer_get (row_at hx), finer_get (row_at (hlt x))]
    have hg : ∀ y, y < w'.length → (SW.rnd w' t).getD y 0 = (SW.rnd w t).getD (y % w.length) 0 := fun y hy => by
      have := ih.2.2 y (by rw [rnd_len]; exact hy)
      rw [rnd_len] at this
      rw [List.getD_eq_getElem?_getD, List.getD_eq_getElem?_getD, this]
    congr 1
    show ((SW.rnd w' t).getD x 0, (rowD w' x).map fun e => (e.2, (SW.rnd w' t).getD e.1 0)) = ((SW.rnd w t).getD (x % w.length) 0, (rowD w (x % w.length)).map fun e => (e.2, (SW.rnd w t).getD e.1 0))
    rw [hg x hx, ← C.row x hx, List.map_map]
    congr 1
    refine List.map_congr_left fun e he => ?_
    obtain ⟨d, hd⟩ := List.getElem?_of_mem he
    have := hc x d e.1 e.2 (rowD_at.mp hd)
    show (e.2, (SW.rnd w' t).getD e.1 0) = (e.2, (SW.rnd w t).getD (e.1 % w.length) 0)
    rw [hg e.1 this]
end SW
namespace SW
open PySem L2

theorem numL_idem {α : Type} [DecidableEq α] (L : List α) : numL (numL L) = numL L := by
  refine numL_pat (numL_len L) fun i j hi hj => ?_
  rw [numL_len] at hi hj
  have g1 : L[i]? = some L[i] := List.getElem?_eq_getElem hi
  have g2 : L[j]? = some L[j] := List.getElem?_eq_getElem hj
  generalize L[i] = a at g1
  generalize L[j] = b at g2
  rw [numL_eq g1 g2, g1, g2]
  simp
theorem rnd_num (w : Wb) (t : Nat) : numL (rnd w t) = rnd w t := by
  cases t with
  | zero => exact numL_idem _
  | succ t => exact numL_idem _
/-- after so many rounds as there are rooms nothing changes -/
theorem rnd_stop {w : Wb} (hc : Closed w) (hp : 0 < w.length) {t : Nat} (ht : w.length ≤ t) : rnd w t = rnd w w.length := by
  have hb : (numL (w.map List.length)).length = w.length := by rw [numL_len, List.length_map]
  obtain ⟨m, hm, hs⟩ := stable hb hc hp
  have e : rnd w (m + 1) = rnd w m := by
    rw [← rnd_num w (m + 1), ← rnd_num w m]
    refine numL_pat (by rw [rnd_len, rnd_len]) fun i j hi hj => ?_
    rw [rnd_len] at hi hj
    have a1 := num_at (n := m + 1) hb hi
    have a2 := num_at (n := m + 1) hb hj
    have a3 := num_at (n := m) hb hi
    have a4 := num_at (n := m) hb hj
    unfold rnd
    rw [a1, a2, a3, a4]
    constructor
    · intro h
      rw [num_mono hb hi hj (Option.some.inj h) (Nat.le_succ m)]
    · intro h
      rw [hs 1 i j hi hj (Option.some.inj h)]
  have st := rndF_stay e
  show rndF w _ t = rndF w _ w.length
  rw [st t (by omega), st w.length (by omega)]
theorem Cov.kin {w w' : Wb} {many : Nat} (C : Cov w w' many) (hc : Closed w) (hc' : Closed w') : Rep (SW.rnd w w.length) (SW.rnd w' w'.length) := by
  have h := C.rnd hc' w'.length
  rw [rnd_stop hc C.pos (t := w'.length) (by rw [C.len]; exact Nat.le_mul_of_pos_left _ C.pm)] at h
  exact h
end SW
namespace SW
open PySem L2
end SW
namespace SW
open PySem L2

/-- the numbers of kinds -/
def kd (w : Wb) : List Nat := rnd w w.length
theorem kd_len (w : Wb) : (kd w).length = w.length := rnd_len w _
end SW
namespace SW
open PySem L2

def rowBy (f : Nat → Nat) (row : List End) : List End := row.map fun e => (f e.1, e.2)
/-- the folded web -/
def kdN (w : Wb) (x : Nat) : Nat := (kd w).getD x 0
theorem kd_at {w : Wb} {x : Nat} (h : x < w.length) : (kd w)[x]? = some (kdN w x) := by
  unfold kdN
  rw [List.getD_eq_getElem?_getD, List.getElem?_eq_getElem (by rw [kd_len]; exact h)]; rfl
end SW
namespace SW
open PySem L2

theorem Rep.mem {α : Type} [DecidableEq α] {L L' : List α} (R : Rep L L') (k : α) : k ∈ L ↔ k ∈ L' := by
  rw [← seenL_mem (L := L), ← seenL_mem (L := L'), R.seen]
theorem Cov.kdN {w w' : Wb} {many : Nat} (C : Cov w w' many) (hc : Closed w) (hc' : Closed w') {x : Nat} (hx : x < w'.length) : SW.kdN w' x = SW.kdN w (x % w.length) := by
  have R := C.kin hc hc'
  have h := R.2.2 x (by rw [rnd_len]; exact hx)
  rw [rnd_len] at h
  have a := kd_at hx
  have b := kd_at (w := w) (x := x % w.length) (Nat.mod_lt _ C.pos)
  unfold kd at a b
  rw [a, b] at h
  exact Option.some.inj h
theorem Cov.sheets {w w' : Wb} {many : Nat} (C : Cov w w' many) (hc : Closed w) (hc' : Closed w') (k : Nat) : (grp (kd w') k).length = many * (grp (kd w) k).length := by
  have hn : 0 < w.length := C.pos
  have key : ∀ m, m ≤ many → ((List.range (m * w.length)).filter fun r => decide (SW.kdN w' r = k)).length = m * ((List.range w.length).filter fun r => decide (SW.kdN w r = k)).length := by
    intro m
    induction m with
    | zero => intro _; simp
    | succ m ih =>
      intro hm
      have hle : (m + 1) * w.length ≤ many * w.length := Nat.mul_le_mul_right _ hm
      rw [Nat.succ_mul] at hle
      rw [Nat.succ_mul, List.range_add, List.filter_append, List.length_append, ih (by omega), Nat.succ_mul, List.filter_map, List.length_map]
      congr 2
      refine List.filter_congr fun r hr => ?_
      rw [List.mem_range] at hr
      show decide (SW.kdN w' (m * w.length + r) = k) = _
      rw [C.kdN hc hc' (by rw [C.len]; omega), Nat.add_comm, Nat.add_mul_mod_self_right, Nat.mod_eq_of_lt hr]
  have := key many (Nat.le_refl _)
  rw [← C.len] at this
  unfold grp
  rw [kd_len, kd_len]
  exact this
end SW
namespace SW
open PySem L2

section
variable {g : D → Tau → Option Tau} {t : EvT} {f : EvE} {τ : Tau} {S : Sto} {Q : List D → Sto → Prop}
end
end SW
namespace SW
open PySem L2

end SW
namespace SW
open PySem L2

end SW
namespace SW
open PySem L2
end SW
namespace SW
open PySem L2
end SW
namespace SW
open PySem L2
end SW
namespace SW
open PySem L2
end SW
namespace SW
open PySem L2

end SW
namespace SW
open PySem L2

theorem pat_num {α : Type} [DecidableEq α] {L : List α} {n : Nat} (hn : L.length = n) (x y : Nat) (hx : x < n) (hy : y < n) : (numL L).getD x 0 = (numL L).getD y 0 ↔ L[x]? = L[y]? := by
  have g1 : L[x]? = some (L[x]'(by omega)) := List.getElem?_eq_getElem _
  have g2 : L[y]? = some (L[y]'(by omega)) := List.getElem?_eq_getElem _
  have h := numL_eq g1 g2
  rw [List.getD_eq_getElem?_getD, List.getD_eq_getElem?_getD, numL_get g1, numL_get g2, g1, g2]
  rw [numL_get g1, numL_get g2] at h
  simp only [Option.getD_some, Option.some.injEq] at h ⊢
  exact h
end SW
namespace SW
open PySem L2

theorem map_fun {F G : Nat → Nat} {n : Nat} (h : ∀ a b, a < n → b < n → (F a = F b ↔ G a = G b)) : ∀ {l m : List End}, (∀ e ∈ l, e.1 < n) → (∀ e ∈ m, e.1 < n) → ((l.map fun e => ((e.2, F e.1) : End)) = (m.map fun e => ((e.2, F e.1) : End)) ↔ (l.map fun e => ((e.2, G e.1) : End)) = m.map fun e => ((e.2, G e.1) : End))
  | [], [], _, _ => by simp
  | [], _ :: _, _, _ => by simp
  | _ :: _, [], _, _ => by simp
  | e :: l, f :: m, hl, hm => by
    have ih := map_fun h (l := l) (m := m) (fun e he => hl e (by simp [he])) (fun e he => hm e (by simp [he]))
    have := h e.1 f.1 (hl e (by simp)) (hm f (by simp))
    simp only [List.map_cons, List.cons.injEq, Prod.mk.injEq, ih, this]
/-- renumbered rooms go together as they did -/
theorem Ren.pat {w w' : Wb} {ν : Nat → Nat} (R : Ren w w' ν) (hc : Closed w) : ∀ t x y, x < w.length → y < w.length → ((rnd w' t).getD (ν x) 0 = (rnd w' t).getD (ν y) 0 ↔ (rnd w t).getD x 0 = (rnd w t).getD y 0) := by
  have hlt : ∀ x, x < w.length → ν x < w'.length := fun x hx => by rw [R.len]; exact R.lt x hx
  intro t
  induction t with
  | zero =>
    intro x y hx hy
    have e1 : rnd w' 0 = numL (w'.map List.length) := rfl
    have e2 : rnd w 0 = numL (w.map List.length) := rfl
    rw [e1, e2, pat_num (by simp) _ _ (hlt x hx) (hlt y hy), pat_num (by simp) x y hx hy]
    rw [List.getElem?_map, List.getElem?_map, List.getElem?_map, List.getElem?_map, row_at hx, row_at hy, row_at (hlt x hx), row_at (hlt y hy), R.row x hx, R.row y hy]
    simp [mapE]
  | succ t ih =>
    intro x y hx hy
    have e1 : rnd w' (t + 1) = numL (finer w' (rnd w' t)) := rfl
    have e2 : rnd w (t + 1) = numL (finer w (rnd w t)) := rfl
    rw [e1, e2, pat_num (finer_len _ _) _ _ (hlt x hx) (hlt y hy), pat_num (finer_len _ _) x y hx hy]
    rw [finer_get (row_at hx), finer_get (row_at hy), finer_get (row_at (hlt x hx)), finer_get (row_at (hlt y hy)), R.row x hx, R.row y hy]
    have c : ∀ z, z < w.length → ∀ e ∈ rowD w z, e.1 < w.length := fun z hz e he => by
      obtain ⟨d, hd⟩ := List.getElem?_of_mem he
      exact hc z d e.1 e.2 (rowD_at.mp hd)
    have h1 := map_fun (F := fun a => (rnd w' t).getD (ν a) 0) (G := fun a => (rnd w t).getD a 0) (fun a b ha hb => ih a b ha hb) (c x hx) (c y hy)
    have h2 := ih x y hx hy
    simp only [Option.some.injEq, lookR, Prod.mk.injEq, mapE, List.map_map]
    have m : ∀ l : List End, (l.map ((fun e : End => ((e.2, (rnd w' t).getD e.1 0) : End)) ∘ fun e : End => ((ν e.1, e.2) : End))) = l.map fun e : End => ((e.2, (rnd w' t).getD (ν e.1) 0) : End) := fun l => rfl
    rw [m, m, h1, h2]
theorem Ren.kin {w w' : Wb} {ν : Nat → Nat} (R : Ren w w' ν) (hc : Closed w) {x y : Nat} (hx : x < w.length) (hy : y < w.length) : kdN w' (ν x) = kdN w' (ν y) ↔ kdN w x = kdN w y := by
  have := R.pat hc w.length x y hx hy
  unfold kdN kd
  rw [R.len]
  exact this
theorem wq_neLN {S : Sto} {m n : Nat} {k l : List Nat} {Q : D → Sto → Prop} (h1 : S[m]? = some (.lst (k.map nD))) (h2 : S[n]? = some (.lst (l.map nD))) : Wp (neD (.loc m) (.loc n) S) Q ↔ Q (.bl (!decide (k = l))) S := by
  have e : ∀ k : List Nat, k.map nD = (k.map fun n : Nat => (n : Int)).map D.int := fun k => by rw [List.map_map]; rfl
  rw [e] at h1 h2
  rw [wq_neL h1 h2]
  have : decide ((k.map fun n : Nat => (n : Int)) = l.map fun n : Nat => (n : Int)) = decide (k = l) := by
    by_cases h : k = l
    · subst h; simp
    · have : ¬ (k.map fun n : Nat => (n : Int)) = l.map fun n : Nat => (n : Int) := fun z => h (ints_inj z)
      simp [h, this]
  rw [this]
end SW
namespace SW
open PySem L2

/-! webs one upon the other -/
structure Mor (w w' : Wb) (f : Nat → Nat) : Prop where
  lt : ∀ x, x < w.length → f x < w'.length
  row : ∀ x, x < w.length → rowD w' (f x) = rowBy f (rowD w x)
theorem Mor.pat {w w' : Wb} {f : Nat → Nat} (R : Mor w w' f) (hc : Closed w) : ∀ t x y, x < w.length → y < w.length → ((rnd w' t).getD (f x) 0 = (rnd w' t).getD (f y) 0 ↔ (rnd w t).getD x 0 = (rnd w t).getD y 0) := by
  intro t
  induction t with
  | zero =>
    intro x y hx hy
    have e1 : rnd w' 0 = numL (w'.map List.length) := rfl
    have e2 : rnd w 0 = numL (w.map List.length) := rfl
    rw [e1, e2, pat_num (by simp) _ _ (R.lt x hx) (R.lt y hy), pat_num (by simp) x y hx hy]
    rw [List.getElem?_map, List.getElem?_map, List.getElem?_map, List.getElem?_map, row_at hx, row_at hy, row_at (R.lt x hx), row_at (R.lt y hy), R.row x hx, R.row y hy]
    simp [rowBy]
  | succ t ih =>
    intro x y hx hy
    have e1 : rnd w' (t + 1) = numL (finer w' (rnd w' t)) := rfl
    have e2 : rnd w (t + 1) = numL (finer w (rnd w t)) := rfl
    rw [e1, e2, pat_num (finer_len _ _) _ _ (R.lt x hx) (R.lt y hy), pat_num (finer_len _ _) x y hx hy]
    rw [finer_get (row_at hx), finer_get (row_at hy), finer_get (row_at (R.lt x hx)), finer_get (row_at (R.lt y hy)), R.row x hx, R.row y hy]
    have c : ∀ z, z < w.length → ∀ e ∈ rowD w z, e.1 < w.length := fun z hz e he => by
      obtain ⟨d, hd⟩ := List.getElem?_of_mem he
      exact hc z d e.1 e.2 (rowD_at.mp hd)
    have h1 := map_fun (F := fun a => (rnd w' t).getD (f a) 0) (G := fun a => (rnd w t).getD a 0) (fun a b ha hb => ih a b ha hb) (c x hx) (c y hy)
    have h2 := ih x y hx hy
    simp only [Option.some.injEq, lookR, Prod.mk.injEq, rowBy, List.map_map]
    have m : ∀ l : List End, (l.map ((fun e : End => ((e.2, (rnd w' t).getD e.1 0) : End)) ∘ fun e : End => ((f e.1, e.2) : End))) = l.map fun e : End => ((e.2, (rnd w' t).getD (f e.1) 0) : End) := fun l => rfl
    rw [m, m, h1, h2]
theorem Mor.kin {w w' : Wb} {f : Nat → Nat} (R : Mor w w' f) (hc : Closed w) (hc' : Closed w') (h0 : 0 < w.length) {x y : Nat} (hx : x < w.length) (hy : y < w.length) : kdN w' (f x) = kdN w' (f y) ↔ kdN w x = kdN w y := by
  have h0' : 0 < w'.length := Nat.lt_of_le_of_lt (Nat.zero_le _) (R.lt x hx)
  have := R.pat hc (max w.length w'.length) x y hx hy
  rw [rnd_stop hc h0 (Nat.le_max_left _ _), rnd_stop hc' h0' (Nat.le_max_right _ _)] at this
  exact this
end SW
namespace SW
open PySem L2

end SW
namespace SW
open PySem L2

def f0 : Nat → Bool := fun _ => false
/-- rooms that no way parts are of one kind -/
theorem np_kin {w : Wb} (hc : Closed w) {x y : Nat} (hx : x < w.length) (hy : y < w.length) (h : ∀ p, ¬ parts w w f0 f0 x y p) : kdN w x = kdN w y := by
  have B := looks0_base w []
  have e0 : (fun r : Nat => decide (r ∈ ([] : List Nat))) = f0 := by funext r; simp [f0]
  rw [e0] at B
  have key : ∀ n, num w (numL (looks0 w [])) n x = num w (numL (looks0 w [])) n y := by
    intro n
    induction n using Nat.strongRecOn with
    | ind n ih =>
      refine Classical.byContradiction fun hne => ?_
      have A : Apart w (numL (looks0 w [])) n x y := ⟨hne, ih⟩
      obtain ⟨p, G⟩ := greedy_ex hc B hx hy A
      exact h p (greedy_least hc B hx hy A G).1.1
  have := key w.length
  unfold num at this
  have hr : rndF w (numL (looks0 w [])) w.length = rnd w w.length := rndM_nil w w.length
  rw [hr] at this
  exact this
end SW
namespace SW
open PySem L2
end SW
namespace SW
open PySem L2

end SW
namespace SW
open PySem L2

/-! rooms that no way parts -/
def NQ (w1 w2 : Wb) (a b : Nat) : Prop := ∀ p, ¬ parts w1 w2 ff ff a b p
theorem NQ.len {w1 w2 : Wb} {a b : Nat} (h : NQ w1 w2 a b) : (rowD w1 a).length = (rowD w2 b).length :=
  Classical.byContradiction fun z => h [] (.inl z)
theorem NQ.step {w1 w2 : Wb} {a b d : Nat} {e e' : End} (h : NQ w1 w2 a b) (h1 : (rowD w1 a)[d]? = some e) (h2 : (rowD w2 b)[d]? = some e') : e.2 = e'.2 ∧ NQ w1 w2 e.1 e'.1 :=
  ⟨Classical.byContradiction fun z => h [d] (.inr ⟨e, e', h1, h2, .inl z⟩), fun p hp => h (d :: p) (.inr ⟨e, e', h1, h2, .inr hp⟩)⟩
theorem NQ.symm {w1 w2 : Wb} {a b : Nat} (h : NQ w1 w2 a b) : NQ w2 w1 b a := fun p hp => h p (parts_symm hp)
theorem NQ.trans {w1 w2 w3 : Wb} : ∀ {a b c : Nat}, NQ w1 w2 a b → NQ w2 w3 b c → NQ w1 w3 a c := by
  intro a b c h g p
  induction p generalizing a b c with
  | nil =>
    rintro (z | z)
    · exact z (h.len.trans g.len)
    · exact z rfl
  | cons d p ih =>
    rintro ((z | z) | ⟨e, e'', h1, h3, z⟩)
    · exact z (h.len.trans g.len)
    · exact z rfl
    · have hd : d < (rowD w2 b).length := by rw [← h.len]; exact (List.getElem?_eq_some_iff.mp h1).1
      have h2 : (rowD w2 b)[d]? = some (rowD w2 b)[d] := List.getElem?_eq_getElem hd
      obtain ⟨a1, a2⟩ := h.step h1 h2
      obtain ⟨b1, b2⟩ := g.step h2 h3
      rcases z with z | z
      · exact z (a1.trans b1)
      · exact ih a2 b2 z
theorem NQ.kin {w : Wb} (hc : Closed w) {x y : Nat} (hx : x < w.length) (hy : y < w.length) (h : NQ w w x y) : kdN w x = kdN w y := np_kin hc hx hy h
theorem spots_cons (w : Wb) (a d : Nat) (p : List Nat) : spots w a (d :: p) = ((rowD w a)[d]?).bind fun e => (spots w e.1 p).map (e :: ·) := by
  have : aT w a d = (rowD w a)[d]? := by
    unfold aT rowD
    cases w[a]? <;> simp
  rw [← this]; rfl
end SW
namespace SW
open PySem L2

end SW
namespace SW
open PySem L2
end SW
namespace SW
open PySem L2

end SW
namespace SW
open PySem L2
end SW
namespace SW
open PySem L2

/-! no way of at most n doors parts -/
def NB (n : Nat) (w1 w2 : Wb) (a b : Nat) : Prop := ∀ p : List Nat, p.length ≤ n → ¬ parts w1 w2 ff ff a b p
theorem NB.symm {n : Nat} {w1 w2 : Wb} {a b : Nat} (h : NB n w1 w2 a b) : NB n w2 w1 b a := fun p hp z => h p hp (parts_symm z)
theorem NB.len {n : Nat} {w1 w2 : Wb} {a b : Nat} (h : NB n w1 w2 a b) : (rowD w1 a).length = (rowD w2 b).length :=
  Classical.byContradiction fun z => h [] (by simp) (.inl z)
theorem NB.step {n : Nat} {w1 w2 : Wb} {a b d : Nat} {e e' : End} (h : NB (n + 1) w1 w2 a b) (h1 : (rowD w1 a)[d]? = some e) (h2 : (rowD w2 b)[d]? = some e') : e.2 = e'.2 ∧ NB n w1 w2 e.1 e'.1 :=
  ⟨Classical.byContradiction fun z => h [d] (by simp) (.inr ⟨e, e', h1, h2, .inl z⟩), fun p hp z => h (d :: p) (by simp; omega) (.inr ⟨e, e', h1, h2, .inr z⟩)⟩
theorem NB.trans {w1 w2 w3 : Wb} : ∀ {n a b c : Nat}, NB n w1 w2 a b → NB n w2 w3 b c → NB n w1 w3 a c := by
  intro n a b c h g p
  induction p generalizing n a b c with
  | nil =>
    rintro _ (z | z)
    · exact z (h.len.trans g.len)
    · exact z rfl
  | cons d p ih =>
    rintro hn ((z | z) | ⟨e, e'', h1, h3, z⟩)
    · exact z (h.len.trans g.len)
    · exact z rfl
    · cases n with
      | zero => simp at hn
      | succ n =>
        have hd : d < (rowD w2 b).length := by rw [← h.len]; exact (List.getElem?_eq_some_iff.mp h1).1
        have h2 : (rowD w2 b)[d]? = some (rowD w2 b)[d] := List.getElem?_eq_getElem hd
        obtain ⟨a1, a2⟩ := h.step h1 h2
        obtain ⟨b1, b2⟩ := g.step h2 h3
        rcases z with z | z
        · exact z (a1.trans b1)
        · exact ih a2 b2 (by simp at hn; omega) z
end SW
namespace SW
open PySem L2

end SW
namespace SW
open PySem L2
end SW
namespace SW
open PySem L2

end SW
namespace SW
open PySem L2
end SW
namespace SW
open PySem L2

end SW
namespace SW
open PySem L2

section
variable {τ : Tau} {S : Sto} {cs : List String} {f : Str}
theorem fst_at {n : Nat} {c : String} {fs : List (Str × D)} {d : D} (h : S[n]? = some (.ins c fs)) (hc : c ∈ cs) (hl : fs.length < 999) : fstD cs f (.loc n) d S = some (S.set n (.ins c (pF f d fs))) := by
  unfold fstD
  simp only [h]
  rw [if_pos ⟨hc, hl⟩]
end
/-! a walker -/
structure Wk where
  w : Wb
  r : Nat
  hand : Nat
  came : D
  steps : Nat
  ly : List Nat
def Wk.fs (W : Wk) (l : Nat) : List (Str × D) := [("web", wD W.w), ("room", nD W.r), ("stones_left", nD W.hand), ("came_by", W.came), ("gone_through", nD W.steps), ("lying", .loc l)]
def CameOk (d : D) : Prop := d = .non ∨ ∃ c : Nat, d = nD c
structure WkAt (S : Sto) (n l : Nat) (W : Wk) : Prop where
  ob : S[n]? = some (.ins "Walker" (W.fs l))
  ls : S[l]? = some (.lst (W.ly.map nD))
  ne : n ≠ l
  web : IsWeb W.w
  lt : W.r < W.w.length
  len : W.ly.length = W.w.length
  cm : CameOk W.came
theorem WkAt.of {S S' : Sto} {n l : Nat} {W : Wk} (h : WkAt S n l W) (e1 : S'[n]? = S[n]?) (e2 : S'[l]? = S[l]?) : WkAt S' n l W := ⟨e1.trans h.ob, e2.trans h.ls, h.ne, h.web, h.lt, h.len, h.cm⟩
section
variable {S : Sto} {n l : Nat} {W : Wk} {Q : D → Sto → Prop}
end
/-- what is here -/
def Wk.here (W : Wk) : D := .tup [nD (rowL W.w W.r), W.came, nD (W.ly.getD W.r 0)]
/-! what a walker does -/
structure FrW (S S' : Sto) (n l : Nat) : Prop where
  len : S'.length = S.length
  at_ : ∀ m, m ≠ n → m ≠ l → S'[m]? = S[m]?
def Wk.go (W : Wk) (e : End) : Wk := {W with r := e.1, came := nD e.2, steps := W.steps + 1}
def Wk.lay (W : Wk) : Wk := {W with hand := W.hand - 1, ly := W.ly.set W.r (W.ly.getD W.r 0 + 1)}
def Wk.take (W : Wk) : Wk := {W with hand := W.hand + 1, ly := W.ly.set W.r (W.ly.getD W.r 0 - 1)}
theorem WkAt.put {S : Sto} {n l : Nat} {W W' : Wk} {f : Str} {v : D} (h : WkAt S n l W) (e : pF f v (W.fs l) = W'.fs l) (hw : W'.w = W.w) (hr : W'.r < W.w.length) (hl : W'.ly = W.ly) (hc : CameOk W'.came) : WkAt (S.set n (.ins "Walker" (pF f v (W.fs l)))) n l W' ∧ FrW S (S.set n (.ins "Walker" (pF f v (W.fs l)))) n l :=
  ⟨⟨by rw [sto_set h.ob, e], by rw [sto_ne h.ne, hl]; exact h.ls, h.ne, by rw [hw]; exact h.web, by rw [hw]; exact hr, by rw [hl, hw]; exact h.len, hc⟩, by simp, fun m h1 _ => sto_ne (Ne.symm h1)⟩
theorem FrW.trans {S S' S2 : Sto} {n l : Nat} (a : FrW S S' n l) (b : FrW S' S2 n l) : FrW S S2 n l := ⟨b.len.trans a.len, fun m h1 h2 => (b.at_ m h1 h2).trans (a.at_ m h1 h2)⟩
def W0 (w : Wb) (r h : Nat) : Wk := ⟨w, r, h, .non, 0, List.replicate w.length 0⟩
end SW
namespace SW
open PySem L2

/-! one deed -/
def Wk.did (W : Wk) (a b : Nat) : Wk × D :=
  if a < 4 ∧ 0 < rowL W.w W.r then
    match (rowD W.w W.r)[b % rowL W.w W.r]? with
    | some e => (W.go e, (W.go e).here)
    | none => (W, W.here)
  else if a < 6 ∧ 0 < W.hand then (W.lay, W.lay.here)
  else if 0 < W.ly.getD W.r 0 then (W.take, W.take.here)
  else (W, W.here)
/-! many deeds -/
def runW (W : Wk) (ds : List (Nat × Nat)) : Wk × List D := ds.foldl (fun p x => ((p.1.did x.1 x.2).1, p.2 ++ [(p.1.did x.1 x.2).2])) (W, [])
/-- what stays so on a walk: few stones, plain trees -/
structure Wk.Ok (W : Wk) (t : Nat) : Prop where
  came : CameOk W.came
  sum : W.hand + W.ly.sum = t
  lt : W.r < W.ly.length
theorem gn_came {d : D} (h : CameOk d) : gn d = true ∧ dp d = 0 := by
  rcases h with rfl | ⟨c, rfl⟩
  · exact ⟨rfl, rfl⟩
  · exact ⟨rfl, rfl⟩
theorem gn_here {W : Wk} {t : Nat} (h : W.Ok t) : gn W.here = true ∧ dp W.here ≤ 2 := by
  obtain ⟨h1, h2⟩ := gn_came h.came
  unfold Wk.here nD
  refine ⟨by simp [gn, gns, h1], ?_⟩
  simp [dp, dps, h2]
theorem sum_set : ∀ (L : List Nat) (i v : Nat), i < L.length → (L.set i v).sum + L.getD i 0 = L.sum + v
  | [], i, v, h => by simp at h
  | a :: L, 0, v, _ => by simp; omega
  | a :: L, i + 1, v, h => by
    have := sum_set L i v (by simpa using h)
    simp at this ⊢
    omega
theorem Wk.Ok.did {W : Wk} {t a b : Nat} (h : W.Ok t) (hc : ∀ (d : Nat) (e : End), (rowD W.w W.r)[d]? = some e → e.1 < W.ly.length) : (W.did a b).1.Ok t ∧ gn (W.did a b).2 = true ∧ dp (W.did a b).2 ≤ 2 ∧ (W.did a b).1.w = W.w ∧ (W.did a b).1.ly.length = W.ly.length := by
  have self : W.Ok t ∧ gn W.here = true ∧ dp W.here ≤ 2 ∧ W.w = W.w ∧ W.ly.length = W.ly.length := ⟨h, (gn_here h).1, (gn_here h).2, rfl, rfl⟩
  unfold Wk.did
  split
  · split
    · rename_i e he
      have h2 : (W.go e).Ok t := ⟨.inr ⟨e.2, rfl⟩, h.sum, hc _ e he⟩
      exact ⟨h2, (gn_here h2).1, (gn_here h2).2, rfl, rfl⟩
    · exact self
  · split
    · rename_i h3
      have hs := sum_set W.ly W.r (W.ly.getD W.r 0 + 1) h.lt
      have h2 : (W.lay).Ok t := ⟨h.came, by have := h.sum; show W.hand - 1 + (W.ly.set W.r (W.ly.getD W.r 0 + 1)).sum = t; omega, by have := h.lt; simpa [Wk.lay] using this⟩
      exact ⟨h2, (gn_here h2).1, (gn_here h2).2, rfl, by simp [Wk.lay]⟩
    · split
      · rename_i h3
        have hs := sum_set W.ly W.r (W.ly.getD W.r 0 - 1) h.lt
        have h2 : (W.take).Ok t := ⟨h.came, by have := h.sum; show W.hand + 1 + (W.ly.set W.r (W.ly.getD W.r 0 - 1)).sum = t; omega, by have := h.lt; simpa [Wk.take] using this⟩
        exact ⟨h2, (gn_here h2).1, (gn_here h2).2, rfl, by simp [Wk.take]⟩
      · exact self
end SW
namespace SW
open PySem L2

structure Ad where
  (p4 p5 n0 l0 n1 l1 p6 d0 d1 p7 t0 t1 p8 : Nat)
def prN (x : Nat × Nat) : D := .tup [nD x.1, nD x.2]
structure L28 (S : Sto) (c b z : Nat) (cs : List Int) (A : Ad) (w : Wb) (s0 s1 h0 h1 : Nat) (x0 x1 : List (Nat × Nat)) : Prop where
  hc : S[c]? = some (.lst (cs.map D.int))
  bx : Bx S b z
  a4 : S[A.p4]? = some (.lst [nD s0, nD s1])
  a5 : S[A.p5]? = some (.lst [nD h0, nD h1])
  w0 : WkAt S A.n0 A.l0 (runW (W0 w s0 h0) x0).1
  w1 : WkAt S A.n1 A.l1 (runW (W0 w s1 h1) x1).1
  a6 : S[A.p6]? = some (.lst [.loc A.n0, .loc A.n1])
  e0 : S[A.d0]? = some (.lst (x0.map prN))
  e1 : S[A.d1]? = some (.lst (x1.map prN))
  a7 : S[A.p7]? = some (.lst [.loc A.d0, .loc A.d1])
  t0 : S[A.t0]? = some (.lst (runW (W0 w s0 h0) x0).2)
  t1 : S[A.t1]? = some (.lst (runW (W0 w s1 h1) x1).2)
  a8 : S[A.p8]? = some (.lst [.loc A.t0, .loc A.t1])
  ord : c < b ∧ b < A.p4 ∧ A.p4 < A.p5 ∧ A.p5 < A.n0 ∧ A.n0 < A.l0 ∧ A.l0 < A.n1 ∧ A.n1 < A.l1 ∧ A.l1 < A.p6 ∧ A.p6 < A.d0 ∧ A.d0 < A.d1 ∧ A.d1 < A.p7 ∧ A.p7 < A.t0 ∧ A.t0 < A.t1 ∧ A.t1 < A.p8 ∧ A.p8 < S.length
end SW
namespace SW
open PySem L2

theorem L28.keep {S S' : Sto} {c b z : Nat} {cs : List Int} {A : Ad} {w : Wb} {s0 s1 h0 h1 : Nat} {x0 x1 : List (Nat × Nat)} (H : L28 S c b z cs A w s0 s1 h0 h1 x0 x1) (l : S.length ≤ S'.length) (f : ∀ m, m < S.length → S'[m]? = S[m]?) : L28 S' c b z cs A w s0 s1 h0 h1 x0 x1 := by
  have ord := H.ord
  exact { hc := by rw [f _ (by omega)]; exact H.hc, bx := H.bx.of (f _ (by omega)), a4 := by rw [f _ (by omega)]; exact H.a4, a5 := by rw [f _ (by omega)]; exact H.a5, w0 := H.w0.of (f _ (by omega)) (f _ (by omega)), w1 := H.w1.of (f _ (by omega)) (f _ (by omega)), a6 := by rw [f _ (by omega)]; exact H.a6, e0 := by rw [f _ (by omega)]; exact H.e0, e1 := by rw [f _ (by omega)]; exact H.e1, a7 := by rw [f _ (by omega)]; exact H.a7, t0 := by rw [f _ (by omega)]; exact H.t0, t1 := by rw [f _ (by omega)]; exact H.t1, a8 := by rw [f _ (by omega)]; exact H.a8, ord := by omega }
end SW
namespace SW
open PySem L2
end SW
namespace SW
open PySem L2

/-! views: trees as deep as asked -/
def viewT (w : Wb) : Nat → Nat → D
  | 0, r => .tup [nD (rowL w r)]
  | k + 1, r => .tup (nD (rowL w r) :: (rowD w r).map fun e => .tup [nD e.2, viewT w k e.1])
/-! the walk -/
structure Wk.Like (W W' : Wk) : Prop where
  w : W'.w = W.w
  hand : W'.hand = W.hand
  ly : W'.ly = W.ly
  steps : W.steps ≤ W'.steps
theorem Wk.Like.refl (W : Wk) : W.Like W := ⟨rfl, rfl, rfl, Nat.le_refl _⟩
theorem Wk.Like.trans {W W' W2 : Wk} (a : W.Like W') (b : W'.Like W2) : W.Like W2 := ⟨b.w.trans a.w, b.hand.trans a.hand, b.ly.trans a.ly, Nat.le_trans a.steps b.steps⟩
structure FrV (S S' : Sto) (n l : Nat) : Prop where
  len : S.length ≤ S'.length
  at_ : ∀ m, m < S.length → m ≠ n → m ≠ l → S'[m]? = S[m]?
theorem FrV.trans {S S' S2 : Sto} {n l : Nat} (a : FrV S S' n l) (b : FrV S' S2 n l) : FrV S S2 n l := ⟨Nat.le_trans a.len b.len, fun m h h1 h2 => (b.at_ m (by have := a.len; omega) h1 h2).trans (a.at_ m h h1 h2)⟩
theorem FrW.v {S S' : Sto} {n l : Nat} (a : FrW S S' n l) : FrV S S' n l := ⟨by rw [a.len]; exact Nat.le_refl _, fun m _ h1 h2 => a.at_ m h1 h2⟩
end SW
namespace SW
open PySem L2
end SW
namespace SW
open PySem L2

/-! a way gone by a walker -/
theorem WayAt.fr {S S' : Sto} {n l : Nat} {d : D} {ds : List Nat} (h : WayAt S d ds) (f : FrV S S' n l) (hn : d ≠ .loc n) (hl : d ≠ .loc l) : WayAt S' d ds := by
  unfold WayAt at h ⊢
  split at h
  · exact h
  · rename_i m
    rw [f.at_ m (sto_lt h) (fun e => hn (by rw [e])) (fun e => hl (by rw [e]))]
    exact h
  · exact h.elim
end SW
namespace SW
open PySem L2

end SW
namespace SW
open PySem L2

def Ln.fs (n k lv lw lm : Nat) : List (Str × D) := [("walker", .loc n), ("deep", nD k), ("views", .loc lv), ("ways", .loc lw), ("made", .loc lm)]
structure Ln (S : Sto) (g n l lv lw lm : Nat) (W : Wk) (k a : Nat) (L ps : List Nat) : Prop where
  ob : S[g]? = some (.ins "Learning" (Ln.fs n k lv lw lm))
  wk : WkAt S n l W
  vs : S[lv]? = some (.lst (L.map (viewT W.w k)))
  ws : S[lw]? = some (.lst (ps.map D.loc))
  lt : ∀ s ∈ L, s < W.w.length
  nd : (L.map (viewT W.w k)).Nodup
  pl : ps.length = L.length
  way : ∀ (i p s : Nat), ps[i]? = some p → L[i]? = some s → ∃ (ds : List Nat) (es : List End), S[p]? = some (.lst (ds.map nD)) ∧ spots W.w a ds = some es ∧ lastR a es = s ∧ ds.length ≤ i
  od : n < g ∧ l < g ∧ g < lv ∧ lv < lw ∧ lw < lm ∧ ∀ p ∈ ps, lm < p
section
variable {S : Sto} {g n l lv lw lm k a : Nat} {W : Wk} {L ps : List Nat} {Q : D → Sto → Prop}
theorem Ln.few (h : Ln S g n l lv lw lm W k a L ps) : L.length ≤ W.w.length := by
  have h1 : L.Nodup := List.Pairwise.of_map _ (fun a b z e => z (by rw [e])) h.nd
  exact nodup_le h1 h.lt
/-- the walker went somewhere, new things were made -/
theorem Ln.go {S' : Sto} {W' : Wk} (h : Ln S g n l lv lw lm W k a L ps) (h' : WkAt S' n l W') (e : W'.w = W.w) (f : FrV S S' n l) : Ln S' g n l lv lw lm W' k a L ps := by
  obtain ⟨o1, o2, o3, o4, o5, o6⟩ := h.od
  have hg := sto_lt h.ob
  have hv := sto_lt h.vs
  have hw := sto_lt h.ws
  refine ⟨(f.at_ _ hg (by omega) (by omega)).trans h.ob, h', ?_, (f.at_ _ hw (by omega) (by omega)).trans h.ws, by rw [e]; exact h.lt, by rw [e]; exact h.nd, h.pl, fun i p s h1 h2 => ?_, h.od⟩
  · rw [e]; exact (f.at_ _ hv (by omega) (by omega)).trans h.vs
  · obtain ⟨ds, es, a1, a2, a3, a4⟩ := h.way i p s h1 h2
    have := o6 p (List.mem_of_getElem? h1)
    exact ⟨ds, es, (f.at_ _ (sto_lt a1) (by omega) (by omega)).trans a1, by rw [e]; exact a2, a3, a4⟩
end
/-- a place that is none of these changes -/
theorem Ln.keep {S S' : Sto} {g n l lv lw lm k a x : Nat} {W : Wk} {L ps : List Nat} (h : Ln S g n l lv lw lm W k a L ps) (hx : lm ≤ x) (hp : x ∉ ps) (f : ∀ m, m ≠ x → S'[m]? = S[m]?) : Ln S' g n l lv lw lm W k a L ps := by
  obtain ⟨o1, o2, o3, o4, o5, o6⟩ := h.od
  refine ⟨(f _ (by omega)).trans h.ob, h.wk.of (f _ (by omega)) (f _ (by omega)), (f _ (by omega)).trans h.vs, (f _ (by omega)).trans h.ws, h.lt, h.nd, h.pl, fun i p s h1 h2 => ?_, h.od⟩
  obtain ⟨ds, es, a1, a2, a3, a4⟩ := h.way i p s h1 h2
  have : p ≠ x := fun e => hp (e ▸ List.mem_of_getElem? h1)
  exact ⟨ds, es, (f _ this).trans a1, a2, a3, a4⟩
structure FrL (S S' : Sto) (n l lv lw : Nat) : Prop where
  len : S.length ≤ S'.length
  at_ : ∀ m, m < S.length → m ≠ n → m ≠ l → m ≠ lv → m ≠ lw → S'[m]? = S[m]?
theorem FrV.l {S S' : Sto} {n l lv lw : Nat} (f : FrV S S' n l) : FrL S S' n l lv lw := ⟨f.len, fun m h1 h2 h3 _ _ => f.at_ m h1 h2 h3⟩
theorem FrL.trans {S S' S2 : Sto} {n l lv lw : Nat} (a : FrL S S' n l lv lw) (b : FrL S' S2 n l lv lw) : FrL S S2 n l lv lw := ⟨Nat.le_trans a.len b.len, fun m h h1 h2 h3 h4 => (b.at_ m (by have := a.len; omega) h1 h2 h3 h4).trans (a.at_ m h h1 h2 h3 h4)⟩
end SW
namespace SW
open PySem L2

theorem FrL.lt {S S' : Sto} {n l lv lw m : Nat} (f : FrL S S' n l lv lw) (h : m < S.length) : m < S'.length := Nat.lt_of_lt_of_le h f.len
end SW
namespace SW
open PySem L2

end SW
namespace SW
open PySem L2

end SW
namespace SW
open PySem L2

end SW
namespace SW
open PySem L2

end SW
namespace SW
open PySem L2

/-! where a walker may be -/
def kinL (w : Wb) (r : Nat) : List Nat := (List.range w.length).filter fun x => decide (kdN w x = kdN w r)
end SW
namespace SW
open PySem L2

end SW
namespace SW
open PySem L2

end SW
namespace SW
open PySem L2

end SW
namespace SW
open PySem L2
end SW
namespace SW
open PySem L2
end SW
namespace SW
open PySem L2
end SW
namespace SW
open PySem L2

end SW
namespace SW
open PySem L2

/-! a web tied tie by tie -/
def HasE (hs : Wb) (e : End) : Prop := ∃ (r : Nat) (x : List End), hs[r]? = some x ∧ e ∈ x
theorem has_ins {hs : Wb} {r v : Nat} {x : List End} {e0 e : End} (hx : hs[r]? = some x) : HasE (hs.set r (insAt x v e0)) e ↔ HasE hs e ∨ e = e0 := by
  have hr : r < hs.length := (List.getElem?_eq_some_iff.mp hx).1
  have hm : ∀ y, y ∈ insAt x v e0 ↔ y = e0 ∨ y ∈ x := fun y => by rw [(ins_perm x v e0).mem_iff, List.mem_cons]
  constructor
  · rintro ⟨r', y, hy, he⟩
    by_cases q : r = r'
    · subst q
      rw [List.getElem?_set_self hr] at hy
      cases hy
      rcases (hm e).mp he with z | z
      · exact .inr z
      · exact .inl ⟨r, x, hx, z⟩
    · rw [List.getElem?_set_ne q] at hy
      exact .inl ⟨r', y, hy, he⟩
  · rintro (⟨r', y, hy, he⟩ | rfl)
    · by_cases q : r = r'
      · subst q
        rw [hx] at hy; cases hy
        exact ⟨r, _, List.getElem?_set_self hr, (hm e).mpr (.inr he)⟩
      · exact ⟨r', y, by rw [List.getElem?_set_ne q]; exact hy, he⟩
    · exact ⟨r, _, List.getElem?_set_self hr, (hm e).mpr (.inl rfl)⟩
def EntOk (hs : Wb) (kvs : List (Key × D)) (k : Nat) : Prop := ∀ e, HasE hs e → e.1 < k ∧ e.2 ≤ 1 ∧ ∃ lp : Bool, lk kvs (kN e.1) = some (.bl lp) ∧ HasE hs (e.1, if lp = true then e.2 else 1 - e.2) ∧ (lp = true → e.2 = 0)
def totL (hs : Wb) : Nat := (hs.map List.length).sum
theorem tot_set : ∀ {hs : Wb} {r : Nat} {x y : List End}, hs[r]? = some x → totL (hs.set r y) + x.length = totL hs + y.length
  | [], r, x, y, h => by simp at h
  | a :: hs, 0, x, y, h => by
    simp at h; subst h
    simp [totL]; omega
  | a :: hs, r + 1, x, y, h => by
    have := tot_set (hs := hs) (r := r) (y := y) (by simpa using h)
    simp [totL] at this ⊢; omega
theorem ins_len {x : List End} {v : Nat} {e : End} : (insAt x v e).length = x.length + 1 := (ins_perm x v e).length_eq
structure G2 (hs : Wb) (kvs : List (Key × D)) (many k : Nat) : Prop where
  len : hs.length = many
  ent : EntOk hs kvs k
  six : ∀ (r : Nat) (x : List End), hs[r]? = some x → x.length ≤ 6
  tot : totL hs ≤ 2 * k
  emp : ∀ (r : Nat) (x : List End), hs[r]? = some x → k < r → x = []
  kl : kvs.length ≤ k
  nd : hs.flatten.Nodup
  two : (0 < k → HasE hs (0, 0)) ∧ (1 < k → HasE hs (1, 0))
theorem has_flat {hs : Wb} {e : End} : HasE hs e ↔ e ∈ hs.flatten := by
  rw [List.mem_flatten]
  constructor
  · rintro ⟨r, x, h1, h2⟩; exact ⟨x, List.mem_of_getElem? h1, h2⟩
  · rintro ⟨x, h1, h2⟩
    obtain ⟨r, hr⟩ := List.getElem?_of_mem h1
    exact ⟨r, x, hr, h2⟩
theorem flat_ins : ∀ {hs : Wb} {r v : Nat} {x : List End} {e : End}, hs[r]? = some x → (hs.set r (insAt x v e)).flatten.Perm (e :: hs.flatten)
  | [], r, v, x, e, h => by simp at h
  | a :: hs, 0, v, x, e, h => by
    simp at h; subst h
    show (insAt a v e ++ hs.flatten).Perm (e :: (a ++ hs.flatten))
    exact (ins_perm a v e).append_right _
  | a :: hs, r + 1, v, x, e, h => by
    have ih := flat_ins (hs := hs) (r := r) (v := v) (e := e) (by simpa using h)
    show (a ++ (hs.set r (insAt x v e)).flatten).Perm (e :: (a ++ hs.flatten))
    exact (ih.append_left a).trans List.perm_middle
theorem lk_ptN {kvs : List (Key × D)} {a b : Nat} {d : D} : lk (ptK kvs (kN a) d) (kN b) = if b = a then some d else lk kvs (kN b) := by
  rw [lk_pt]
  by_cases h : b = a
  · rw [if_pos h, if_pos (by rw [h])]
  · rw [if_neg h, if_neg fun z => h (kN_inj z)]
/-- a tie more -/
theorem G2.loop {hs : Wb} {kvs : List (Key × D)} {many k r v : Nat} {x : List End} (G : G2 hs kvs many k) (hx : hs[r]? = some x) (h5 : x.length < 5) (hr : r ≤ k + 1) : G2 (hs.set r (insAt x v (k, 0))) (ptK kvs (kN k) (.bl true)) many (k + 1) := by
  have fresh : (k, 0) ∉ hs.flatten := fun h => by have := (G.ent _ (has_flat.mpr h)).1; simp at this
  refine ⟨by simpa using G.len, fun e he => ?_, fun r' y hy => ?_, ?_, fun r' y hy hlt => ?_, Nat.le_trans (pt_len _ _ _) (by have := G.kl; omega), (flat_ins hx).nodup_iff.mpr (List.nodup_cons.mpr ⟨fresh, G.nd⟩), fun _ => ?_, fun _ => ?_⟩
  rotate_left 4
  · by_cases e : k = 0
    · subst e; exact (has_ins hx).mpr (.inr rfl)
    · exact (has_ins hx).mpr (.inl (G.two.1 (by omega)))
  · by_cases e : k = 1
    · subst e; exact (has_ins hx).mpr (.inr rfl)
    · exact (has_ins hx).mpr (.inl (G.two.2 (by omega)))
  · rcases (has_ins hx).mp he with z | rfl
    · obtain ⟨a, b, lp, c, d, dd⟩ := G.ent e z
      refine ⟨by omega, b, lp, by rw [lk_ptN, if_neg (by omega)]; exact c, (has_ins hx).mpr (.inl d), dd⟩
    · exact ⟨by simp, by simp, true, by rw [lk_ptN, if_pos rfl], (has_ins hx).mpr (.inr (by simp)), fun _ => rfl⟩
  · by_cases q : r = r'
    · subst q
      rw [List.getElem?_set_self (List.getElem?_eq_some_iff.mp hx).1] at hy
      cases hy
      rw [ins_len]; omega
    · rw [List.getElem?_set_ne q] at hy; exact G.six r' y hy
  · have := tot_set (y := insAt x v (k, 0)) hx
    have h2 := G.tot
    rw [ins_len] at this
    omega
  · rw [List.getElem?_set_ne (by omega)] at hy
    exact G.emp r' y hy (by omega)
theorem G2.tie {hs : Wb} {kvs : List (Key × D)} {many k r r2 v v2 : Nat} {x x2 : List End} (G : G2 hs kvs many k) (hx : hs[r]? = some x) (h5 : x.length < 5) (hr : r ≤ k + 1) (hx2 : (hs.set r (insAt x v (k, 0)))[r2]? = some x2) (h6 : x2.length ≤ 5) (hr2 : r2 ≤ k + 1) : G2 ((hs.set r (insAt x v (k, 0))).set r2 (insAt x2 v2 (k, 1))) (ptK kvs (kN k) (.bl false)) many (k + 1) := by
  have hm : ∀ e, HasE ((hs.set r (insAt x v (k, 0))).set r2 (insAt x2 v2 (k, 1))) e ↔ HasE hs e ∨ e = (k, 0) ∨ e = (k, 1) := fun e => by rw [has_ins hx2, has_ins hx, or_assoc]
  have fresh : (k, 0) ∉ hs.flatten := fun h => by have := (G.ent _ (has_flat.mpr h)).1; simp at this
  have fresh2 : (k, 1) ∉ (hs.set r (insAt x v (k, 0))).flatten := fun h => by
    rcases List.mem_cons.mp ((flat_ins hx).mem_iff.mp h) with h | h
    · cases h
    · have := (G.ent _ (has_flat.mpr h)).1; simp at this
  refine ⟨by simpa using G.len, fun e he => ?_, fun r' y hy => ?_, ?_, fun r' y hy hlt => ?_, Nat.le_trans (pt_len _ _ _) (by have := G.kl; omega), (flat_ins hx2).nodup_iff.mpr (List.nodup_cons.mpr ⟨fresh2, (flat_ins hx).nodup_iff.mpr (List.nodup_cons.mpr ⟨fresh, G.nd⟩)⟩), fun _ => ?_, fun _ => ?_⟩
  rotate_left 4
  · by_cases e : k = 0
    · subst e; exact (hm _).mpr (.inr (.inl rfl))
    · exact (hm _).mpr (.inl (G.two.1 (by omega)))
  · by_cases e : k = 1
    · subst e; exact (hm _).mpr (.inr (.inl rfl))
    · exact (hm _).mpr (.inl (G.two.2 (by omega)))
  · rcases (hm e).mp he with z | rfl | rfl
    · obtain ⟨a, b, lp, c, d, dd⟩ := G.ent e z
      exact ⟨by omega, b, lp, by rw [lk_ptN, if_neg (by omega)]; exact c, (hm _).mpr (.inl d), dd⟩
    · exact ⟨by simp, by simp, false, by rw [lk_ptN, if_pos rfl], (hm _).mpr (.inr (.inr (by simp))), fun h => nomatch h⟩
    · exact ⟨by simp, by simp, false, by rw [lk_ptN, if_pos rfl], (hm _).mpr (.inr (.inl (by simp))), fun h => nomatch h⟩
  · by_cases q2 : r2 = r'
    · subst q2
      rw [List.getElem?_set_self (List.getElem?_eq_some_iff.mp hx2).1] at hy
      cases hy
      rw [ins_len]; omega
    · rw [List.getElem?_set_ne q2] at hy
      by_cases q : r = r'
      · subst q
        rw [List.getElem?_set_self (List.getElem?_eq_some_iff.mp hx).1] at hy
        cases hy
        rw [ins_len]; omega
      · rw [List.getElem?_set_ne q] at hy; exact G.six r' y hy
  · have h1 := tot_set (y := insAt x v (k, 0)) hx
    have h3 := tot_set (y := insAt x2 v2 (k, 1)) hx2
    have h2 := G.tot
    rw [ins_len] at h1 h3
    omega
  · rw [List.getElem?_set_ne (by omega), List.getElem?_set_ne (by omega)] at hy
    exact G.emp r' y hy (by omega)
end SW
namespace SW
open PySem L2

theorem Hw.low {S S' : Sto} {L many : Nat} {hs : Wb} (H : Hw S L many hs) (k : ∀ n, L ≤ n → n ≤ L + many → S'[n]? = S[n]?) : Hw S' L many hs :=
  ⟨(k _ (by omega) (by omega)).trans H.top, H.len, fun r x a => (k _ (by omega) (by have := H.len; have := (List.getElem?_eq_some_iff.mp a).1; omega)).trans (H.at_ r x a)⟩
end SW
namespace SW
open PySem L2

/-! where each end is -/
def Whr (hs : Wb) (many : Nat) (kvs : List (List Key × D)) (r i : Nat) : Prop := ∀ r' i' e, (r' < r ∨ (r' = r ∧ i' < i)) → aT hs r' i' = some e → ∃ p : End, lk kvs (kE e) = some (eD p) ∧ p.1 < many ∧ aT hs p.1 p.2 = some e
theorem Whr.put {hs : Wb} {many : Nat} {kvs : List (List Key × D)} {r i : Nat} {e : End} (h : Whr hs many kvs r i) (he : aT hs r i = some e) (hr : r < many) : Whr hs many (ptK kvs (kE e) (eD (r, i))) r (i + 1) := by
  intro r' i' e' hlt h'
  rw [lk_pt]
  by_cases q : kE e' = kE e
  · exact ⟨(r, i), by rw [if_pos q], hr, by rw [kE_inj q]; exact he⟩
  · rw [if_neg q]
    refine h r' i' e' ?_ h'
    rcases hlt with z | ⟨z, y⟩
    · exact .inl z
    · subst z
      by_cases q2 : i' = i
      · subst q2
        rw [he] at h'; cases h'
        exact absurd rfl q
      · exact .inr ⟨rfl, by omega⟩
end SW
namespace SW
open PySem L2

end SW
namespace SW
open PySem L2

end SW
namespace SW
open PySem L2

/-! stories -/
abbrev St := Nat × (Nat × Nat)
end SW
namespace SW
open PySem L2

end SW
namespace SW
open PySem L2

end SW
namespace SW
open PySem L2

end SW
namespace SW
open PySem L2

end SW
namespace SW
open PySem L2
end SW
namespace SW
open PySem L2

end SW
namespace SW
open PySem L2

/-- rows of ends of rooms -/
structure G3 (hs : Wb) (many : Nat) : Prop where
  len : hs.length = many
  ent : ∀ (r : Nat) (x : List End) (e : End), hs[r]? = some x → e ∈ x → e.1 < many
  six : ∀ (r : Nat) (x : List End), hs[r]? = some x → x.length ≤ 6
theorem G3.add {hs : Wb} {many r : Nat} {x : List End} {e : End} (G : G3 hs many) (hx : hs[r]? = some x) (h6 : x.length < 6) (he : e.1 < many) : G3 (hs.set r (x ++ [e])) many := by
  have hr := (List.getElem?_eq_some_iff.mp hx).1
  have at_ : ∀ (r' : Nat) (y : List End), (hs.set r (x ++ [e]))[r']? = some y → y = x ++ [e] ∨ hs[r']? = some y := fun r' y hy => by
    by_cases q : r = r'
    · subst q
      rw [List.getElem?_set_self hr] at hy
      exact .inl (Option.some.inj hy).symm
    · rw [List.getElem?_set_ne q] at hy
      exact .inr hy
  refine ⟨by simpa using G.len, fun r' y e' hy he' => ?_, fun r' y hy => ?_⟩
  · rcases at_ r' y hy with rfl | hy
    · rcases List.mem_append.mp he' with z | z
      · exact G.ent r x e' hx z
      · rw [List.mem_singleton.mp z]; exact he
    · exact G.ent r' y e' hy he'
  · rcases at_ r' y hy with rfl | hy
    · simp; omega
    · exact G.six r' y hy
theorem Hw.sb {S : Sto} {L many r : Nat} {hs : Wb} {Q : D → Sto → Prop} (H : Hw S L many hs) (hr : r < many) : Wp (sbD (.loc (L + many)) (.int (r : Int)) S) Q ↔ Q (.loc (L + r)) S := by
  have at1 : atI ((List.range many).map fun i => D.loc (L + i)) (r : Int) = some (.loc (L + r)) := atI_of (by rw [List.getElem?_map, List.getElem?_range hr]; rfl)
  rw [wq_sbL H.top, at1]; simp
end SW
namespace SW
open PySem L2

end SW
namespace SW
open PySem L2

end SW
namespace SW
open PySem L2
end SW
namespace SW
open PySem L2

section
variable {w : Wb} {K k : Nat}
end
section
variable {w : Wb} {K k a : Nat}
end
end SW
namespace SW
open PySem L2

end SW
namespace SW
open PySem L2

end SW
namespace SW
open PySem L2

end SW
namespace SW
open PySem L2
end SW
namespace SW
open PySem L2

end SW
namespace SW
open PySem L2

structure Plain (W : Wk) (w : Wb) (r h : Nat) : Prop where
  ww : W.w = w
  rr : W.r = r
  hand : W.hand = h
  ly : W.ly = List.replicate w.length 0
theorem Plain.like {W W' : Wk} {w : Wb} {r h : Nat} (P : Plain W w r h) (lk : W.Like W') (er : W'.r = W.r) : Plain W' w r h := ⟨lk.w.trans P.ww, er.trans P.rr, lk.hand.trans P.hand, lk.ly.trans P.ly⟩
end SW
namespace SW
open PySem L2

/-! whereabouts in rings and lines -/
theorem Fr.v {S0 S S' : Sto} {b n l : Nat} (f : Fr S0 S b) (g : FrV S S' n l) (hn : S0.length ≤ n) (hl : S0.length ≤ l) : Fr S0 S' b :=
  ⟨Nat.le_trans f.len g.len, fun m hm hmb => (g.at_ m (by have := f.len; omega) (by omega) (by omega)).trans (f.at_ m hm hmb)⟩
theorem Fr.keep {S0 S S' : Sto} {b : Nat} (f : Fr S0 S b) (l : S.length ≤ S'.length) (g : ∀ m, m < S.length → S'[m]? = S[m]?) : Fr S0 S' b :=
  ⟨Nat.le_trans f.len l, fun m hm hmb => (g m (by have := f.len; omega)).trans (f.at_ m hm hmb)⟩
theorem sum_rep (n : Nat) : (List.replicate n 0).sum = 0 := by
  induction n with
  | zero => rfl
  | succ n ih => rw [List.replicate_succ, List.sum_cons, ih]
theorem Plain.sum {V : Wk} {w : Wb} {r h : Nat} (P : Plain V w r h) : V.ly.sum = 0 := by rw [P.ly, sum_rep]
end SW
namespace SW
open PySem L2

end SW
namespace SW
open PySem L2

structure RR (S0 S : Sto) (b z n l p : Nat) (w : Wb) (r h : Nat) (V : Wk) : Prop where
  hb : Bx S b z
  wk : WkAt S n l V
  pl : Plain V w r h
  hp : S[p]? = some (.lst ((kinL w r).map nD))
  F : Fr S0 S b
  ord : b < S0.length ∧ p < S0.length ∧ S0.length ≤ n ∧ S0.length ≤ l
  pb : p ≠ b
theorem RR.keep {S0 S S' : Sto} {b z n l p r h : Nat} {w : Wb} {V : Wk} (R : RR S0 S b z n l p w r h V) (hl : S.length ≤ S'.length) (f : ∀ m, m < S.length → S'[m]? = S[m]?) : RR S0 S' b z n l p w r h V :=
  ⟨R.hb.of (f b R.hb.lt), R.wk.of (f _ (sto_lt R.wk.ob)) (f _ (sto_lt R.wk.ls)), R.pl, (f p (sto_lt R.hp)).trans R.hp, R.F.keep hl f, R.ord, R.pb⟩
theorem RR.go {S0 S S' : Sto} {b z n l p r h : Nat} {w : Wb} {V V' : Wk} (R : RR S0 S b z n l p w r h V) (w' : WkAt S' n l V') (lk : V.Like V') (er : V'.r = V.r) (f : FrV S S' n l) : RR S0 S' b z n l p w r h V' := by
  obtain ⟨a1, a2, a3, a4⟩ := R.ord
  exact ⟨R.hb.of (f.at_ b R.hb.lt (by omega) (by omega)), w', R.pl.like lk er, (f.at_ p (sto_lt R.hp) (by omega) (by omega)).trans R.hp, R.F.v f a3 a4, R.ord, R.pb⟩
end SW
namespace SW
open PySem L2

end SW
namespace SW
open PySem L2

end SW
namespace SW
open PySem L2
def b_l_pairs : EvS := (seqS (stS 2 (aE lstD nilA))
  (seqS (forS (rgI1 (aE lenD (consA (vE 0) nilA))) (.nm 3) (seqS (stS 4 (aE g_l_gone (consA (vE 0) (consA (vE 3) (consA (lcE (sqI (b2E sbD (vE 1) (cE (.int 1)))) (.nm 5) yesT (b2E sbD (vE 5) (cE (.int 0))) [5]) nilA)))))
  (ifS (andT (tB (b2E isNotD (vE 4) (cE .non))) (tB (b2E eqD (aE lenD (consA (b2E sbD (vE 0) (vE 3)) nilA)) (b2E sbD (vE 1) (cE (.int 0)))))) (ifS (tB (b2E eqD (lcE (sqI (slE (vE 4) (someO (cE (.int 1))) noO)) (.tp [(.nm 6), (.nm 7)]) yesT (aE tupD (consA (vE 7) (consA (aE lenD (consA (b2E sbD (vE 0) (vE 6)) nilA)) nilA))) [6, 7]) (lcE (sqI (b2E sbD (vE 1) (cE (.int 1)))) (.nm 5) yesT (slE (vE 5) (someO (cE (.int 1))) noO) [5]))) (exS (mE appendM (vE 2) (consA (aE tupD (consA (vE 3) (consA (b2E sbD (b2E sbD (vE 4) (u1E negD (cE (.int 1)))) (cE (.int 0))) nilA))) nilA))) nxS) nxS)))
  (rtS (vE 2))))
def g_l_pairs : Fn := fnD 2 8 b_l_pairs
def b_l_leads_home : EvS := (seqS (forS (sqI (aE g_l_pairs (consA (vE 0) (consA (vE 1) nilA)))) (.tp [(.nm 3), (.nm 4)]) (seqS (stS 5 (aE g_l_gone (consA (vE 0) (consA (vE 4) (consA (vE 2) nilA)))))
  (ifS (orT' (tB (b2E isD (vE 5) (cE .non))) (tB (b2E neD (b2E sbD (b2E sbD (vE 5) (u1E negD (cE (.int 1)))) (cE (.int 0))) (vE 3)))) (rtS (cE (.bl false))) nxS)))
  (rtS (cE (.bl true))))
def g_l_leads_home : Fn := fnD 3 6 b_l_leads_home
end SW
namespace SW
open PySem L2

/-! a search over things of any kind, kept in a dict with nested keys -/
section
variable {σ : Type}
def kvG (key : σ → NestedKey) (f : List Nat → D) (ws : List (σ × List Nat)) : List (NestedKey × D) := ws.map fun x => (key x.1, f x.2)
def rmG (enc : σ → D) (ws : List (σ × List Nat)) : List D := ws.map fun x => enc x.1
variable {key : σ → NestedKey} {enc : σ → D} {f : List Nat → D}
structure LvG (S0 S : Sto) (st : σ → Nat → Option σ) (s0 : σ) (key : σ → NestedKey) (P : σ → Prop) (dl : Nat) (ws : List (σ × List Nat)) (a door : Nat) : Prop where
  dict : S[dl]? = some (.dN (kvG key wF ws))
  bfs : Bfs st s0 ws a door
  ok : ∀ x ∈ ws, P x.1
  len : S0.length ≤ S.length
  fr : ∀ n, n < S0.length → S[n]? = S0[n]?
structure LgI (S0 S : Sto) (st : σ → Nat → Option σ) (s0 : σ) (key : σ → NestedKey) (enc : σ → D) (P : σ → Prop) (dl l g : Nat) (ws0 more : List (σ × List Nat)) (a i door : Nat) : Prop where
  at_ : LvG S0 S st s0 key P dl (ws0 ++ more) (a + i) door
  last : S[l]? = some (.lst (rmG enc (ws0.drop a)))
  next : S[g]? = some (.lst (rmG enc more))
  gl : g ≠ l
  dg : S0.length ≤ dl
  gg : S0.length ≤ g
variable {S0 S : Sto} {st : σ → Nat → Option σ} {s0 : σ} {P : σ → Prop} {dl l g a i door : Nat} {ws0 more : List (σ × List Nat)}
theorem LgI.spot (h : LgI S0 S st s0 key enc P dl l g ws0 more a i door) {x : σ × List Nat} (hx : (ws0.drop a)[i]? = some x) : (ws0 ++ more)[a + i]? = some x := by
  rw [List.getElem?_drop] at hx
  rw [List.getElem?_append_left (List.getElem?_eq_some_iff.mp hx).1]
  exact hx
theorem LgI.old (h : LgI S0 S st s0 key enc P dl l g ws0 more a i door) {u : σ} {q : List Nat} (hx : (ws0.drop a)[i]? = some (u, q)) {v : σ} (hv : st u door = some v) (ho : ∃ (i : Nat) (p : List Nat), (ws0 ++ more)[i]? = some (v, p)) : LgI S0 S st s0 key enc P dl l g ws0 more a i (door + 1) :=
  ⟨⟨h.at_.dict, h.at_.bfs.old (h.spot hx) fun v' hv' => by rw [hv] at hv'; cases hv'; exact ho, h.at_.ok, h.at_.len, h.at_.fr⟩, h.last, h.next, h.gl, h.dg, h.gg⟩
theorem LgI.new (h : LgI S0 S st s0 key enc P dl l g ws0 more a i door) {u : σ} {q : List Nat} (hx : (ws0.drop a)[i]? = some (u, q)) {v : σ} (hv : st u door = some v) (hP : P v) (hn : ∀ (i : Nat) (p : List Nat), (ws0 ++ more)[i]? ≠ some (v, p)) :
    LgI S0 ((S.set dl (.dN (kvG key wF (ws0 ++ more ++ [(v, q ++ [door])])))).set g (.lst (rmG enc more ++ [enc v]))) st s0 key enc P dl l g ws0 (more ++ [(v, q ++ [door])]) a i (door + 1) := by
  have hd := h.at_.dict
  have hl := h.last
  have hg := h.next
  have n1 : dl ≠ g := fun z => by subst z; rw [hd] at hg; cases hg
  have n2 : dl ≠ l := fun z => by subst z; rw [hd] at hl; cases hl
  have n3 := h.gl
  have b := h.at_.bfs.new (h.spot hx) hv hn
  rw [List.append_assoc] at b
  refine ⟨⟨?_, b, ?_, ?_, ?_⟩, ?_, ?_, n3, h.dg, h.gg⟩
  · rw [sto_ne (Ne.symm n1), sto_set hd, List.append_assoc]
  · intro x hx
    rw [← List.append_assoc] at hx
    rcases List.mem_append.mp hx with hx | hx
    · exact h.at_.ok x hx
    · simp at hx; subst hx; exact hP
  · simpa using h.at_.len
  · intro n hn
    rw [sto_ne (by have := h.gg; omega), sto_ne (by have := h.dg; omega)]
    exact h.at_.fr n hn
  · rw [sto_ne n3, sto_ne n2]; exact hl
  · rw [sto_set (p := .lst (rmG enc more)) (by rw [sto_ne n1]; exact hg)]
    unfold rmG
    rw [List.map_append]; rfl
/-- a thing that a way leads to stands there, or the search isn't at its end -/
theorem LvG.left {ws : List (σ × List Nat)} (h : LvG S0 S st s0 key P dl ws a 0) {p : List Nat} {v : σ} (hr : runS st s0 p = some v) : (∃ (i : Nat) (q : List Nat), ws[i]? = some (v, q)) ∨ a < ws.length := by
  rcases h.bfs.reach p.length p v rfl hr with ⟨i, q, e, _⟩ | ⟨j, x, q', q1, h1, h2, _, _⟩
  · exact .inl ⟨i, q, e⟩
  · exact .inr (by have := (List.getElem?_eq_some_iff.mp h2).1; omega)
end
end SW
namespace SW
open PySem L2

end SW
namespace SW
open PySem L2

theorem LvG.keep {σ : Type} {S0 S S' : Sto} {st : σ → Nat → Option σ} {s0 : σ} {key : σ → NestedKey} {P : σ → Prop} {dl a door : Nat} {ws : List (σ × List Nat)} (h : LvG S0 S st s0 key P dl ws a door) (l : S.length ≤ S'.length) (f : ∀ m, m < S.length → S'[m]? = S[m]?) : LvG S0 S' st s0 key P dl ws a door :=
  ⟨(f _ (sto_lt h.dict)).trans h.dict, h.bfs, h.ok, Nat.le_trans h.len l, fun n hn => (f n (by have := h.len; omega)).trans (h.fr n hn)⟩
theorem LgI.keep {σ : Type} {S0 S S' : Sto} {st : σ → Nat → Option σ} {s0 : σ} {key : σ → NestedKey} {enc : σ → D} {P : σ → Prop} {dl l g a i door : Nat} {ws0 more : List (σ × List Nat)} (h : LgI S0 S st s0 key enc P dl l g ws0 more a i door) (hl : S.length ≤ S'.length) (f : ∀ m, m < S.length → S'[m]? = S[m]?) : LgI S0 S' st s0 key enc P dl l g ws0 more a i door :=
  ⟨h.at_.keep hl f, (f _ (sto_lt h.last)).trans h.last, (f _ (sto_lt h.next)).trans h.next, h.gl, h.dg, h.gg⟩
end SW
namespace SW
open PySem L2

end SW
namespace SW
open PySem L2

end SW
namespace SW
open PySem L2

section
variable {S : Sto} {w : Wb} {n r : Nat} {ss : List St} {es : List End} {Q : D → Sto → Prop}
end
end SW
namespace SW
open PySem L2

end SW
namespace SW
open PySem L2

end SW
namespace SW
open PySem L2

end SW
namespace SW
open PySem L2

end SW
namespace SW
open PySem L2

def TA : EvE := (aE anyD (consA (lcE (sqI (vE 9)) (.nm 13) yesT (aE g_l_leads_home (consA (vE 4) (consA (vE 7) (consA (vE 13) nilA)))) [13]) nilA))
end SW
namespace SW
open PySem L2
end SW
namespace SW
open PySem L2

end SW
namespace SW
open PySem L2

def endR (w : Wb) (x d : Nat) : End := ((rowD w x)[d]?).getD (0, 0)
theorem endR_of {w : Wb} {x d : Nat} {e : End} (h : (rowD w x)[d]? = some e) : endR w x d = e := by unfold endR; rw [h]; rfl
end SW
namespace SW
open PySem L2

end SW
namespace SW
open PySem L2

end SW
namespace SW
open PySem L2

end SW
namespace SW
open PySem L2

end SW
namespace SW
open PySem L2

end SW
namespace SW
open PySem L2

end SW
namespace SW
open PySem L2

end SW
namespace SW
open PySem L2

end SW
namespace SW
open PySem L2

end SW
namespace SW
open PySem L2

end SW
namespace SW
open PySem L2

end SW
namespace SW
open PySem L2

end SW
namespace SW
open PySem L2
def b_same_web : EvS := (seqS (ifS (tB (b2E neD (aE g_told_from (consA (vE 0) (consA (vE 1) nilA))) (aE g_told_from (consA (vE 2) (consA (vE 3) nilA))))) (rtS (cE .non)) nxS)
  (seqS (stS 4 (b2E mulD (aE lstD (consA (cE (.int 0)) nilA)) (aE lenD (consA (vE 0) nilA))))
  (seqS (forS (ziI (aE g_rooms_met (consA (vE 0) (consA (vE 1) nilA))) (aE g_rooms_met (consA (vE 2) (consA (vE 3) nilA)))) (.tp [(.nm 5), (.nm 6)]) (asS (vE 6) (subG (vE 4) (vE 5))))
  (rtS (aE tupleD (consA (vE 4) nilA))))))
def g_same_web : Fn := fnD 4 7 b_same_web
end SW
namespace SW
open PySem L2
end SW
namespace SW
open PySem L2

/-! maps with a stone: what is known of a web, by rooms and by ties gone through -/
theorem endR_at {w : Wb} {x d : Nat} (hd : d < (rowD w x).length) : (rowD w x)[d]? = some (endR w x d) := by
  unfold endR
  rw [List.getElem?_eq_getElem hd]; rfl
theorem endR_back {w : Wb} {x d : Nat} (W : IsWeb w) (hd : d < (rowD w x).length) : (endR w x d).1 < w.length ∧ (endR w x d).2 < (rowD w (endR w x d).1).length ∧ endR w (endR w x d).1 (endR w x d).2 = (x, d) := by
  have h := endR_at hd
  have b := W.back _ _ _ _ (rowD_at.mp h)
  have h2 := rowD_at.mpr b
  exact ⟨W.back.closed _ _ _ _ (rowD_at.mp h), (List.getElem?_eq_some_iff.mp h2).1, endR_of h2⟩
def isKn (w : Wb) (T : List End) (x d : Nat) : Bool := decide ((x, d) ∈ T ∨ endR w x d ∈ T)
theorem isKn_iff {w : Wb} {T : List End} {x d : Nat} : isKn w T x d = true ↔ (x, d) ∈ T ∨ endR w x d ∈ T := by
  unfold isKn
  rw [decide_eq_true_eq]
theorem isKn_back {w : Wb} {T : List End} {x d : Nat} (W : IsWeb w) (hd : d < (rowD w x).length) : isKn w T (endR w x d).1 (endR w x d).2 = isKn w T x d := by
  rw [Bool.eq_iff_iff, isKn_iff, isKn_iff, (endR_back W hd).2.2]
  exact Or.comm
theorem isKn_add {w : Wb} {T : List End} {x d y c : Nat} : isKn w (T ++ [(x, d)]) y c = true ↔ isKn w T y c = true ∨ (y, c) = (x, d) ∨ endR w y c = (x, d) := by
  rw [isKn_iff, isKn_iff, List.mem_append, List.mem_append, List.mem_singleton, List.mem_singleton]
  constructor
  · rintro ((h | h) | (h | h))
    · exact .inl (.inl h)
    · exact .inr (.inl h)
    · exact .inl (.inr h)
    · exact .inr (.inr h)
  · rintro ((h | h) | h | h)
    · exact .inl (.inl h)
    · exact .inr (.inl h)
    · exact .inl (.inr h)
    · exact .inr (.inr h)
structure Kst (w : Wb) (a : Nat) (L : List Nat) (T : List End) : Prop where
  hd : L[0]? = some a
  lt : ∀ x ∈ L, x < w.length
  nd : L.Nodup
  vt : ∀ t ∈ T, t.1 ∈ L ∧ t.2 < (rowD w t.1).length ∧ (endR w t.1 t.2).1 ∈ L
  tn : T.Nodup
  cn : ∀ x ∈ L, ∀ P : Nat → Prop, (∀ t ∈ T, P t.1 ↔ P (endR w t.1 t.2).1) → (P a ↔ P x)
  od : met w w.length 0 L = metL w a
theorem Kst.init {w : Wb} {a : Nat} (ha : a < w.length) : Kst w a [a] [] := ⟨rfl, by simpa using ha, by simp, by simp, by simp, fun x hx P _ => by rw [List.mem_singleton.mp hx], rfl⟩
section
variable {w : Wb} {a : Nat} {L : List Nat} {T : List End}
theorem Kst.few (k : Kst w a L T) : L.length ≤ w.length := nodup_le k.nd k.lt
theorem Kst.known (k : Kst w a L T) (W : IsWeb w) {x d : Nat} (hd : d < (rowD w x).length) (h : isKn w T x d = true) : x ∈ L ∧ (endR w x d).1 ∈ L := by
  rcases isKn_iff.mp h with h | h
  · exact ⟨(k.vt _ h).1, (k.vt _ h).2.2⟩
  · have := k.vt _ h
    rw [(endR_back W hd).2.2] at this
    exact ⟨this.2.2, this.1⟩
/-- from any room known to any other one -/
theorem Kst.conn (k : Kst w a L T) {x y : Nat} (hx : x ∈ L) (hy : y ∈ L) {P : Nat → Prop} (hP : ∀ t ∈ T, P t.1 ↔ P (endR w t.1 t.2).1) (h : P x) : P y := (k.cn y hy P hP).mp ((k.cn x hx P hP).mpr h)
end
theorem metRow_app {xs : List Nat} {r1 r2 : List End} : metRow xs (r1 ++ r2) = metRow (metRow xs r1) r2 := by
  unfold metRow
  rw [List.foldl_append]
theorem metRow_all : ∀ {row : List End} {xs : List Nat}, (∀ e ∈ row, e.1 ∈ xs) → metRow xs row = xs
  | [], _, _ => rfl
  | e :: row, xs, h => by
    show metRow (metStep xs e) row = xs
    unfold metStep
    rw [if_pos (h e (by simp))]
    exact metRow_all fun e' he => h e' (by simp [he])
/-- rooms whose ends all lead to rooms met: nothing is met on the way -/
theorem met_rows {w : Wb} : ∀ (i k n : Nat) (xs : List Nat), (∀ j, k ≤ j → j < k + i → ∃ x, xs[j]? = some x ∧ ∀ e ∈ rowD w x, e.1 ∈ xs) → met w (n + i) k xs = met w n (k + i) xs
  | 0, k, n, xs, _ => rfl
  | i + 1, k, n, xs, h => by
    obtain ⟨x, hx, he⟩ := h k (Nat.le_refl _) (by omega)
    have e1 : met w (n + (i + 1)) k xs = met w (n + i) (k + 1) (metRow xs (rowD w x)) := by
      show met w ((n + i) + 1) k xs = _
      simp only [met, hx]; rfl
    rw [e1, metRow_all he, met_rows i (k + 1) n xs fun j h1 h2 => h j (by omega) (by omega)]
    congr 1
    omega
theorem metRow_skip {xs : List Nat} {row : List End} {d : Nat} (h : ∀ j e, j < d → row[j]? = some e → e.1 ∈ xs) : metRow xs row = metRow xs (row.drop d) := by
  have h1 : metRow xs (row.take d) = xs := metRow_all fun x hx => by
    obtain ⟨j, hj⟩ := List.getElem?_of_mem hx
    rw [List.getElem?_take] at hj
    split at hj
    · exact h j x (by assumption) hj
    · cases hj
  have h2 := metRow_app (xs := xs) (r1 := row.take d) (r2 := row.drop d)
  rw [List.take_append_drop, h1] at h2
  exact h2
/-- the rooms by their order of coming: a further one behind the first open door -/
theorem met_more {w : Wb} {L : List Nat} {i x d : Nat} {e : End} (hl : L.length ≤ w.length) (hx : L[i]? = some x) (he : (rowD w x)[d]? = some e) (hr : ∀ j y, j < i → L[j]? = some y → ∀ e ∈ rowD w y, e.1 ∈ L) (hd : ∀ j e, j < d → (rowD w x)[j]? = some e → e.1 ∈ L) :
    met w w.length 0 (metStep L e) = met w w.length 0 L := by
  have hi : i < L.length := (List.getElem?_eq_some_iff.mp hx).1
  obtain ⟨n, hn⟩ : ∃ n, w.length = n + 1 + i := ⟨w.length - i - 1, by omega⟩
  have sub : ∀ y ∈ L, y ∈ metStep L e := fun y hy => by
    unfold metStep
    split
    · exact hy
    · exact List.mem_append_left _ hy
  have pre : ∀ j, j < L.length → (metStep L e)[j]? = L[j]? := fun j hj => by
    unfold metStep
    split
    · rfl
    · exact List.getElem?_append_left hj
  have ine : e.1 ∈ metStep L e := by
    unfold metStep
    split
    · assumption
    · simp
  have go : ∀ M : List Nat, (∀ j, j < L.length → M[j]? = L[j]?) → (∀ y ∈ L, y ∈ M) → met w w.length 0 M = met w n (i + 1) (metRow M (rowD w x)) := fun M hM hs => by
    rw [hn, met_rows i 0 (n + 1) M (fun j _ hj => ⟨L[j], by rw [hM j (by omega), List.getElem?_eq_getElem], fun e' he' => hs _ (hr j _ (by omega) (List.getElem?_eq_getElem (by omega)) e' he')⟩)]
    have h0 : M[i]? = some x := by rw [hM i hi, hx]
    simp only [met, Nat.zero_add, h0]; rfl
  have hdrop : (rowD w x).drop d = e :: (rowD w x).drop (d + 1) := by
    obtain ⟨h1, h2⟩ := List.getElem?_eq_some_iff.mp he
    rw [← h2, List.drop_eq_getElem_cons h1]
  rw [go _ pre sub, go L (fun _ _ => rfl) (fun _ h => h)]
  congr 1
  rw [metRow_skip (xs := L) hd, metRow_skip (xs := metStep L e) (d := d) (fun j e' h1 h2 => sub _ (hd j e' h1 h2)), hdrop]
  show metRow (metStep (metStep L e) e) _ = metRow (metStep L e) _
  congr 1
  have : metStep (metStep L e) e = metStep L e := by
    generalize metStep L e = M at ine
    unfold metStep
    rw [if_pos ine]
  exact this
/-- all ends known: all rooms are met, in their order -/
theorem met_full {w : Wb} {L : List Nat} (hl : L.length ≤ w.length) (h : ∀ x ∈ L, ∀ e ∈ rowD w x, e.1 ∈ L) : met w w.length 0 L = L := by
  obtain ⟨n, hn⟩ : ∃ n, w.length = n + L.length := ⟨w.length - L.length, by omega⟩
  rw [hn, met_rows L.length 0 n L fun j _ hj => ⟨L[j], List.getElem?_eq_getElem (by omega), fun e he => h _ (List.getElem_mem _) e he⟩]
  exact met_done (by omega)
end SW
namespace SW
open PySem L2

/-! a known web in the store; ways by known ties -/
def kEnd (w : Wb) (L : List Nat) (T : List End) (x d : Nat) : D := if isKn w T x d = true then eD (L.idxOf (endR w x d).1, (endR w x d).2) else .non
def kRow (w : Wb) (L : List Nat) (T : List End) (x : Nat) : List D := (List.range (rowD w x).length).map (kEnd w L T x)
theorem kRow_len {w : Wb} {L : List Nat} {T : List End} {x : Nat} : (kRow w L T x).length = (rowD w x).length := by simp [kRow]
theorem kRow_at {w : Wb} {L : List Nat} {T : List End} {x d : Nat} (hd : d < (rowD w x).length) : (kRow w L T x)[d]? = some (kEnd w L T x d) := by
  unfold kRow
  rw [List.getElem?_map, List.getElem?_range hd]; rfl
def Kw.fs (n le s : Nat) : List (Str × D) := [("walker", .loc n), ("ends", .loc le), ("spot", nD s)]
structure KwAt (S : Sto) (g n l le : Nat) (ps : List Nat) (W : Wk) (L : List Nat) (T : List End) (s : Nat) : Prop where
  ob : S[g]? = some (.ins "KnownWeb" (Kw.fs n le s))
  wk : WkAt S n l W
  en : S[le]? = some (.lst (ps.map D.loc))
  pl : ps.length = L.length
  rw : ∀ i p x : Nat, ps[i]? = some p → L[i]? = some x → S[p]? = some (.lst (kRow W.w L T x))
  pn : ps.Nodup
  od : n < g ∧ l < g ∧ g < le ∧ ∀ p ∈ ps, g < p ∧ p ≠ le
  sl : s < L.length
section
variable {S : Sto} {g n l le s : Nat} {ps : List Nat} {W : Wk} {L : List Nat} {T : List End} {Q : D → Sto → Prop}
theorem KwAt.plt (h : KwAt S g n l le ps W L T s) {p : Nat} (hp : p ∈ ps) : p < S.length := by
  obtain ⟨i, hi⟩ := List.getElem?_of_mem hp
  have hl : i < L.length := by rw [← h.pl]; exact (List.getElem?_eq_some_iff.mp hi).1
  exact sto_lt (h.rw i p _ hi (List.getElem?_eq_getElem hl))
theorem KwAt.of {S' : Sto} (h : KwAt S g n l le ps W L T s) (f : ∀ m, m < S.length → S'[m]? = S[m]?) : KwAt S' g n l le ps W L T s :=
  ⟨(f _ (sto_lt h.ob)).trans h.ob, h.wk.of (f _ (sto_lt h.wk.ob)) (f _ (sto_lt h.wk.ls)), (f _ (sto_lt h.en)).trans h.en, h.pl, fun i p x e1 e2 => (f _ (h.plt (List.mem_of_getElem? e1))).trans (h.rw i p x e1 e2), h.pn, h.od, h.sl⟩
/-- the walker did something -/
theorem KwAt.go {S' : Sto} {W' : Wk} (h : KwAt S g n l le ps W L T s) (h' : WkAt S' n l W') (e : W'.w = W.w) (f : FrV S S' n l) : KwAt S' g n l le ps W' L T s := by
  obtain ⟨o1, o2, o3, o4⟩ := h.od
  refine ⟨(f.at_ _ (sto_lt h.ob) (by omega) (by omega)).trans h.ob, h', (f.at_ _ (sto_lt h.en) (by omega) (by omega)).trans h.en, h.pl, fun i p x e1 e2 => ?_, h.pn, h.od, h.sl⟩
  have := o4 p (List.mem_of_getElem? e1)
  rw [e]
  exact (f.at_ _ (h.plt (List.mem_of_getElem? e1)) (by omega) (by omega)).trans (h.rw i p x e1 e2)
theorem KwAt.room (h : KwAt S g n l le ps W L T s) {i x : Nat} (hx : L[i]? = some x) : ∃ p, ps[i]? = some p ∧ S[p]? = some (.lst (kRow W.w L T x)) := by
  have hi : i < ps.length := by rw [h.pl]; exact (List.getElem?_eq_some_iff.mp hx).1
  exact ⟨ps[i], List.getElem?_eq_getElem hi, h.rw i _ x (List.getElem?_eq_getElem hi) hx⟩
end
theorem wp_d1' {fk fv : EvE} {τ : Tau} {S : Sto} {Q : D → Sto → Prop} {i : Nat} {d : D} (hk : fk τ (S ++ [.dK []]) = some (.int (i : Int), S ++ [.dK []])) (hv : ∀ T, fv τ T = some (d, T)) (q : Q (.loc S.length) (S ++ [.dK [(kN i, d)]])) : Wp (d1E fk fv τ S) Q := by
  have h : (S ++ [MO.dK []])[S.length]? = some (.dK []) := sto_new
  refine .of (a := .loc S.length) (S := S ++ [.dK [(kN i, d)]]) ?_ q
  unfold d1E
  rw [hk]
  simp only [Option.bind_some, hv, h, kOf, Option.map_some]
  have : (S ++ [MO.dK []]).set S.length (.dK [(kN i, d)]) = S ++ [.dK [(kN i, d)]] := by simp
  show some (D.loc S.length, (S ++ [MO.dK []]).set S.length (.dK [(kN i, d)])) = _
  rw [this]
section
variable {w : Wb} {a : Nat} {L : List Nat} {T : List End}
theorem getD_of {L : List Nat} {i x : Nat} (h : L[i]? = some x) : L.getD i 0 = x := by rw [List.getD_eq_getElem?_getD, h]; rfl
theorem idx_get {L : List Nat} {x : Nat} (h : x ∈ L) : L[L.idxOf x]? = some x := by
  have h1 := List.idxOf_lt_length_iff.mpr h
  rw [List.getElem?_eq_getElem h1, List.getElem_idxOf h1]
/-- ways found so far -/
structure WbP (w : Wb) (L : List Nat) (T : List End) (s a : Nat) (ws : Wys) : Prop where
  nd : ∀ (i j : Nat) (x y : Nat × List Nat), i < j → ws[i]? = some x → ws[j]? = some y → x.1 ≠ y.1
  hd : ws[0]? = some (s, [])
  ok : ∀ (i j : Nat) (p : List Nat), ws[i]? = some (j, p) → p.length ≤ i ∧ j < L.length ∧ ∃ es, spots w (L.getD s 0) p = some es ∧ lastR (L.getD s 0) es = L.getD j 0
  cl : ∀ (k j : Nat) (p : List Nat), k < a → ws[k]? = some (j, p) → ∀ d, d < (rowD w (L.getD j 0)).length → isKn w T (L.getD j 0) d = true → ∃ (i : Nat) (q : List Nat), ws[i]? = some (L.idxOf (endR w (L.getD j 0) d).1, q)
theorem WbP.few {s a : Nat} {ws : Wys} (h : WbP w L T s a ws) : ws.length ≤ L.length := by
  have := nodup_le (n := L.length) (xs := ws.map (·.1)) ?_ ?_
  · simpa using this
  · rw [List.nodup_iff_pairwise_ne, List.pairwise_iff_getElem]
    intro i j hi hj hij
    rw [List.getElem_map, List.getElem_map]
    simp at hi hj
    exact h.nd i j _ _ hij (List.getElem?_eq_getElem hi) (List.getElem?_eq_getElem hj)
  · intro x hx
    obtain ⟨y, hy, rfl⟩ := List.mem_map.mp hx
    obtain ⟨i, hi⟩ := List.getElem?_of_mem hy
    exact (h.ok i y.1 y.2 hi).2.1
theorem WbP.init {s : Nat} (hs : s < L.length) : WbP w L T s 0 [(s, [])] :=
  ⟨fun i j x y h e1 e2 => by have := (List.getElem?_eq_some_iff.mp e2).1; simp at this; omega, rfl, fun i j p e => by
    have := (List.getElem?_eq_some_iff.mp e).1
    simp at this
    subst this
    cases e
    exact ⟨Nat.le_refl _, hs, [], rfl, rfl⟩, fun k j p hk => by omega⟩
/-- all is found where nothing is left to do -/
theorem WbP.full {s : Nat} {ws : Wys} (h : WbP w L T s ws.length ws) (W : IsWeb w) (K : Kst w a L T) {goal : Nat} (hs : s < L.length) (hg : goal < L.length) : ∃ (i : Nat) (p : List Nat), ws[i]? = some (goal, p) := by
  have hgs : ∀ i, i < L.length → L.getD i 0 ∈ L ∧ L.idxOf (L.getD i 0) = i := fun i hi => by
    have e : L[i]? = some L[i] := List.getElem?_eq_getElem hi
    rw [getD_of e]
    exact ⟨List.getElem_mem hi, idx_at K.nd e⟩
  have step : ∀ x d, x ∈ L → d < (rowD w x).length → isKn w T x d = true → (∃ (i : Nat) (q : List Nat), ws[i]? = some (L.idxOf x, q)) → ∃ (i : Nat) (q : List Nat), ws[i]? = some (L.idxOf (endR w x d).1, q) := fun x d hx hd hk ⟨i, q, e⟩ => by
    have ex : L.getD (L.idxOf x) 0 = x := getD_of (idx_get hx)
    have := h.cl i (L.idxOf x) q (List.getElem?_eq_some_iff.mp e).1 e d (by rw [ex]; exact hd) (by rw [ex]; exact hk)
    rw [ex] at this
    exact this
  have := K.conn (hgs s hs).1 (hgs goal hg).1 (P := fun x => ∃ (i : Nat) (q : List Nat), ws[i]? = some (L.idxOf x, q)) (fun t ht => ?_) ⟨0, [], by rw [(hgs s hs).2]; exact h.hd⟩
  · rw [(hgs goal hg).2] at this
    exact this
  · obtain ⟨v1, v2, v3⟩ := K.vt t ht
    have hk : isKn w T t.1 t.2 = true := isKn_iff.mpr (.inl ht)
    obtain ⟨b1, b2, b3⟩ := endR_back W v2
    refine ⟨step _ _ v1 v2 hk, fun z => ?_⟩
    have := step _ _ v3 b2 (by rw [isKn_back W v2]; exact hk) z
    rw [b3] at this
    exact this
end
end SW
namespace SW
open PySem L2

end SW
namespace SW
open PySem L2

/-! the map with a stone: going to a known room, the room with the stone, the first open door -/
structure FrG (S S' : Sto) (g n l : Nat) : Prop where
  len : S.length ≤ S'.length
  at_ : ∀ m, m < S.length → m ≠ g → m ≠ n → m ≠ l → S'[m]? = S[m]?
theorem FrG.refl (S : Sto) (g n l : Nat) : FrG S S g n l := ⟨Nat.le_refl _, fun _ _ _ _ _ => rfl⟩
theorem FrG.trans {S S' S2 : Sto} {g n l : Nat} (a : FrG S S' g n l) (b : FrG S' S2 g n l) : FrG S S2 g n l := ⟨Nat.le_trans a.len b.len, fun m h h1 h2 h3 => (b.at_ m (by have := a.len; omega) h1 h2 h3).trans (a.at_ m h h1 h2 h3)⟩
theorem FrV.g {S S' : Sto} {g n l : Nat} (a : FrV S S' n l) : FrG S S' g n l := ⟨a.len, fun m h _ h2 h3 => a.at_ m h h2 h3⟩
theorem KwAt.spot {S : Sto} {g n l le s s' : Nat} {ps : List Nat} {V : Wk} {L : List Nat} {T : List End} (h : KwAt S g n l le ps V L T s) (hs : s' < L.length) :
    fstD ["KnownWeb"] "spot" (.loc g) (nD s') S = some (S.set g (.ins "KnownWeb" (Kw.fs n le s'))) ∧ KwAt (S.set g (.ins "KnownWeb" (Kw.fs n le s'))) g n l le ps V L T s' := by
  obtain ⟨o1, o2, o3, o4⟩ := h.od
  refine ⟨fst_at h.ob (by simp) (by simp [Kw.fs]), sto_set h.ob, h.wk.of (sto_ne (by omega)) (sto_ne (by omega)), by rw [sto_ne (by omega)]; exact h.en, h.pl, fun i p x e1 e2 => ?_, h.pn, h.od, hs⟩
  have := o4 p (List.mem_of_getElem? e1)
  rw [sto_ne (by omega)]
  exact h.rw i p x e1 e2
end SW
namespace SW
open PySem L2

/-! the map with a stone: a tie more -/
section
variable {w : Wb} {a : Nat} {L : List Nat} {T : List End} {i j x d : Nat}
theorem endR_iff (W : IsWeb w) (hd : d < (rowD w x).length) {z t : Nat} (ht : t < (rowD w z).length) : endR w z t = (x, d) ↔ (z, t) = endR w x d := by
  constructor
  · intro h
    have := (endR_back W ht).2.2
    rw [h] at this
    exact this.symm
  · intro h
    have := (endR_back W hd).2.2
    rw [← h] at this
    exact this
def tied (y c : Nat) (e : End) (R : List D) (z : Nat) : List D := if z = y then R.set c (eD e) else R
theorem tied_len {y c : Nat} {e : End} {R : List D} {z : Nat} : (tied y c e R z).length = R.length := by
  unfold tied; split <;> simp
theorem tied_at {y c : Nat} {e : End} {R : List D} {z t : Nat} (ht : t < R.length) : (tied y c e R z)[t]? = if (z, t) = (y, c) then some (eD e) else R[t]? := by
  unfold tied
  by_cases hz : z = y
  · rw [if_pos hz, List.getElem?_set]
    by_cases hc : c = t
    · rw [if_pos hc, if_pos (by omega), if_pos (by rw [hz, hc])]
    · rw [if_neg hc, if_neg (fun h => hc (by injection h with _ h; exact h.symm))]
  · rw [if_neg hz, if_neg (fun h => hz (by injection h))]
theorem kRow_add (W : IsWeb w) (hn : L.Nodup) (hx : L[i]? = some x) (hd : d < (rowD w x).length) (hj : L[j]? = some (endR w x d).1) (z : Nat) :
    kRow w L (T ++ [(x, d)]) z = tied (endR w x d).1 (endR w x d).2 (i, d) (tied x d (j, (endR w x d).2) (kRow w L T z) z) z := by
  obtain ⟨b1, b2, b3⟩ := endR_back W hd
  apply List.ext_getElem?
  intro t
  by_cases ht : t < (rowD w z).length
  · rw [kRow_at ht, tied_at (by rw [tied_len, kRow_len]; exact ht), tied_at (by rw [kRow_len]; exact ht), kRow_at ht]
    have ka := isKn_add (w := w) (T := T) (x := x) (d := d) (y := z) (c := t)
    rw [endR_iff W hd ht] at ka
    have ee : ((endR w x d).1, (endR w x d).2) = endR w x d := rfl
    rw [ee]
    unfold kEnd
    by_cases h1 : (z, t) = endR w x d
    · rw [if_pos h1, if_pos (ka.mpr (.inr (.inr h1)))]
      have e2 := (endR_iff W hd ht).mpr h1
      rw [e2, idx_at hn hx]
    · rw [if_neg h1]
      by_cases h2 : (z, t) = (x, d)
      · rw [if_pos h2, if_pos (ka.mpr (.inr (.inl h2)))]
        have e1 : z = x := by injection h2
        have e2 : t = d := by injection h2
        subst e1 e2
        rw [idx_at hn hj]
      · rw [if_neg h2]
        by_cases h3 : isKn w T z t = true
        · rw [if_pos h3, if_pos (ka.mpr (.inl h3))]
        · rw [if_neg h3, if_neg fun z => ?_]
          rcases ka.mp z with z | z | z
          · exact h3 z
          · exact h2 z
          · exact h1 z
  · rw [List.getElem?_eq_none (by rw [kRow_len]; omega), List.getElem?_eq_none (by rw [tied_len, tied_len, kRow_len]; omega)]
theorem Kst.add (W : IsWeb w) (K : Kst w a L T) (hx : L[i]? = some x) (hd : d < (rowD w x).length) (hk : isKn w T x d = false)
    (h1 : ∀ j y, j < i → L[j]? = some y → ∀ d, d < (rowD w y).length → isKn w T y d = true) (h2 : ∀ d', d' < d → isKn w T x d' = true) : Kst w a (metStep L (endR w x d)) (T ++ [(x, d)]) := by
  obtain ⟨b1, b2, b3⟩ := endR_back W hd
  have hxm := List.mem_of_getElem? hx
  have hnT : (x, d) ∉ T := fun z => by rw [isKn_iff.mpr (.inl z)] at hk; cases hk
  have sub : ∀ y ∈ L, y ∈ metStep L (endR w x d) := fun y hy => by
    unfold metStep
    split
    · exact hy
    · exact List.mem_append_left _ hy
  have yin : (endR w x d).1 ∈ metStep L (endR w x d) := by
    unfold metStep
    split
    · assumption
    · simp
  have cases_ : ∀ z ∈ metStep L (endR w x d), z ∈ L ∨ z = (endR w x d).1 := fun z hz => by
    unfold metStep at hz
    split at hz
    · exact .inl hz
    · rcases List.mem_append.mp hz with h | h
      · exact .inl h
      · exact .inr (List.mem_singleton.mp h)
  refine ⟨?_, fun z hz => ?_, ?_, fun t ht => ?_, ?_, fun z hz P hP => ?_, ?_⟩
  · have := K.hd
    unfold metStep
    split
    · exact this
    · rw [List.getElem?_append_left (List.getElem?_eq_some_iff.mp this).1]; exact this
  · rcases cases_ z hz with h | rfl
    · exact K.lt z h
    · exact b1
  · unfold metStep
    split
    · exact K.nd
    · rename_i hn
      rw [List.nodup_append]
      exact ⟨K.nd, by simp, fun p hp q hq e => by rw [List.mem_singleton.mp hq] at e; rw [e] at hp; exact hn hp⟩
  · rcases List.mem_append.mp ht with h | h
    · obtain ⟨v1, v2, v3⟩ := K.vt t h
      exact ⟨sub _ v1, v2, sub _ v3⟩
    · rw [List.mem_singleton.mp h]
      exact ⟨sub _ hxm, hd, yin⟩
  · rw [List.nodup_append]
    exact ⟨K.tn, by simp, fun p hp q hq e => by rw [List.mem_singleton.mp hq] at e; rw [e] at hp; exact hnT hp⟩
  · have old : ∀ z ∈ L, P a ↔ P z := fun z hz => K.cn z hz P fun t ht => hP t (List.mem_append_left _ ht)
    rcases cases_ z hz with h | rfl
    · exact old z h
    · rw [old x hxm]
      exact hP (x, d) (by simp)
  · rw [met_more K.few hx (endR_at hd) (fun j y hj hy e he => ?_) fun j e hj he => ?_]
    · exact K.od
    · obtain ⟨t, ht⟩ := List.getElem?_of_mem he
      have htl := (List.getElem?_eq_some_iff.mp ht).1
      have := (K.known W htl (h1 j y hj hy t htl)).2
      rw [endR_of ht] at this
      exact this
    · have htl := (List.getElem?_eq_some_iff.mp he).1
      have := (K.known W htl (h2 j hj)).2
      rw [endR_of he] at this
      exact this
end
theorem KwAt.tie {S S' : Sto} {g n l le s i j x d p q : Nat} {ps : List Nat} {V : Wk} {L : List Nat} {T : List End} (h : KwAt S g n l le ps V L T s) (hn : L.Nodup) (hx : L[i]? = some x) (hd : d < (rowD V.w x).length) (hj : L[j]? = some (endR V.w x d).1) (hp : ps[i]? = some p) (hq : ps[j]? = some q)
    (e1 : ∀ m, m ≠ p → m ≠ q → S'[m]? = S[m]?) (e2 : S'[p]? = some (.lst (kRow V.w L (T ++ [(x, d)]) x))) (e3 : S'[q]? = some (.lst (kRow V.w L (T ++ [(x, d)]) (endR V.w x d).1))) : KwAt S' g n l le ps V L (T ++ [(x, d)]) s := by
  obtain ⟨o1, o2, o3, o4⟩ := h.od
  have op := o4 p (List.mem_of_getElem? hp)
  have oq := o4 q (List.mem_of_getElem? hq)
  refine ⟨(e1 _ (by omega) (by omega)).trans h.ob, h.wk.of (e1 _ (by omega) (by omega)) (e1 _ (by omega) (by omega)), (e1 _ (fun z => op.2 z.symm) (fun z => oq.2 z.symm)).trans h.en, h.pl, fun k r z hr hz => ?_, h.pn, h.od, h.sl⟩
  have W := h.wk.web
  by_cases hpr : r = p
  · subst hpr
    have hkl := (List.getElem?_eq_some_iff.mp hr).1
    have : k = i := (List.getElem?_inj hkl h.pn).mp (by rw [hr, hp])
    subst this
    rw [hx] at hz; cases hz
    exact e2
  · by_cases hqr : r = q
    · subst hqr
      have hkl := (List.getElem?_eq_some_iff.mp hr).1
      have : k = j := (List.getElem?_inj hkl h.pn).mp (by rw [hr, hq])
      subst this
      rw [hj] at hz; cases hz
      exact e3
    · rw [e1 r hpr hqr, h.rw k r z hr hz, kRow_add W hn hx hd hj]
      have n1 : z ≠ x := fun e => by
        subst e
        have : k = i := (List.getElem?_inj (List.getElem?_eq_some_iff.mp hz).1 hn).mp (by rw [hz, hx])
        subst this
        rw [hp] at hr; exact hpr (Option.some.inj hr).symm
      have n2 : z ≠ (endR V.w x d).1 := fun e => by
        have : k = j := (List.getElem?_inj (List.getElem?_eq_some_iff.mp hz).1 hn).mp (by rw [hz, hj, e])
        subst this
        rw [hq] at hr; exact hqr (Option.some.inj hr).symm
      unfold tied
      rw [if_neg n1, if_neg n2]
end SW
namespace SW
open PySem L2

structure FrK (S S' : Sto) (g n l : Nat) : Prop where
  len : S.length ≤ S'.length
  at_ : ∀ m, m < g → m ≠ n → m ≠ l → S'[m]? = S[m]?
theorem FrK.refl (S : Sto) (g n l : Nat) : FrK S S g n l := ⟨Nat.le_refl _, fun _ _ _ _ => rfl⟩
theorem FrK.trans {S S' S2 : Sto} {g n l : Nat} (a : FrK S S' g n l) (b : FrK S' S2 g n l) : FrK S S2 g n l := ⟨Nat.le_trans a.len b.len, fun m h h1 h2 => (b.at_ m h h1 h2).trans (a.at_ m h h1 h2)⟩
theorem FrG.k {S S' : Sto} {g n l : Nat} (a : FrG S S' g n l) (hg : g < S.length) : FrK S S' g n l := ⟨a.len, fun m h h2 h3 => a.at_ m (by omega) (by omega) h2 h3⟩
end SW
namespace SW
open PySem L2

theorem Kst.full {w : Wb} {a : Nat} {L : List Nat} {T : List End} (W : IsWeb w) (K : Kst w a L T) (h : ∀ x ∈ L, ∀ d, d < (rowD w x).length → isKn w T x d = true) : L = metL w a := by
  rw [← K.od, met_full K.few fun x hx e he => ?_]
  obtain ⟨t, ht⟩ := List.getElem?_of_mem he
  have htl := (List.getElem?_eq_some_iff.mp ht).1
  have := (K.known W htl (h x hx t htl)).2
  rw [endR_of ht] at this
  exact this
end SW
namespace SW
open PySem L2

/-! same_web -/
def twL (w1 : Wb) (a : Nat) (w2 : Wb) (b : Nat) : List Nat := (List.range w1.length).map fun r => (metL w2 b).getD ((metL w1 a).idxOf r) 0
def sameO (w1 : Wb) (a : Nat) (w2 : Wb) (b : Nat) : D := if toldW w1 a = toldW w2 b then .tup ((twL w1 a w2 b).map nD) else .non
theorem told_len {w : Wb} {a : Nat} (W : IsWeb w) (ha : a < w.length) : (toldW w a).length = w.length := by
  unfold toldW
  rw [List.length_map]
  exact (met_perm W ha).len
def SmI (S0 : Sto) (w1 w2 : Wb) (a b m f1 f2 : Nat) (i : Nat) (τ : Tau) (S : Sto) : Prop := ∃ (c : Nat → Nat) (o5 o6 : Option D), τ = [some (wD w1), some (nD a), some (wD w2), some (nD b), some (.loc m), o5, o6] ∧ (∀ p x y : Nat, p < i → (metL w1 a)[p]? = some x → (metL w2 b)[p]? = some y → c x = y) ∧ S[m]? = some (uD w1.length c)
  ∧ S[f1]? = some (.lst ((metL w1 a).map nD)) ∧ S[f2]? = some (.lst ((metL w2 b).map nD)) ∧ S0.length ≤ S.length ∧ ∀ n, n < S0.length → S[n]? = S0[n]?
theorem same_web_ok {S : Sto} {w1 w2 : Wb} {a b : Nat} {Q : D → Sto → Prop} (W1 : IsWeb w1) (W2 : IsWeb w2) (ha : a < w1.length) (hb : b < w2.length)
    (q : ∀ S' : Sto, S.length ≤ S'.length → (∀ n, n < S.length → S'[n]? = S[n]?) → Q (sameO w1 a w2 b) S') : Wp (g_same_web [wD w1, nD a, wD w2, nD b] S) Q := by
  unfold g_same_web
  refine (wp_fnD (by rfl)).mpr ?_
  unfold b_same_web
  have hf1 := W1.few
  have hf2 := W2.few
  (simp! only [])
  refine told_from_ok W1 ha fun S1 l1 f1 => ?_
  refine told_from_ok W2 hb fun S2 l2 f2 => ?_
  rw [wq_neWW]
  refine ⟨_, rfl, ?_⟩
  have F2 : ∀ n, n < S.length → S2[n]? = S[n]? := fun n hn => by rw [f2 n (by omega), f1 n hn]
  unfold sameO at q
  by_cases ht : toldW w1 a = toldW w2 b
  · rw [if_pos ht] at q
    rw [if_neg (by simp [ht])]
    have P1 := met_perm W1 ha
    have P2 := met_perm W2 hb
    have hlen : (metL w1 a).length = (metL w2 b).length := by
      rw [P1.len, P2.len, ← told_len W1 ha, ← told_len W2 hb, ht]
    have h1 : (S2 ++ [MO.lst [D.int 0]])[S2.length]? = some (.lst [D.int 0]) := sto_new
    (simp! only [len_w, wq_rep1 h1 (show w1.length < 1000000 by omega)])
    have h3 : (S2 ++ [MO.lst [D.int 0]] ++ [MO.lst (List.replicate w1.length (D.int 0))])[(S2 ++ [MO.lst [D.int 0]]).length]? = some (uD w1.length fun _ => 0) := by
      rw [sto_new]
      unfold uD
      have : (fun r => nD ((fun _ : Nat => 0) r)) = fun _ : Nat => D.int 0 := rfl
      rw [this, List.map_const', List.length_range]
    have f3 : ∀ n, n < S2.length → (S2 ++ [MO.lst [D.int 0]] ++ [MO.lst (List.replicate w1.length (D.int 0))])[n]? = S2[n]? := fun n hn => by rw [sto_app (by simp; omega), sto_app hn]
    have l3 : (S2 ++ [MO.lst [D.int 0]] ++ [MO.lst (List.replicate w1.length (D.int 0))]).length = S2.length + 2 := by simp
    have hm : (S2 ++ [MO.lst [D.int 0]]).length = S2.length + 1 := by simp
    generalize (S2 ++ [MO.lst [D.int 0]]).length = m at h3 hm ⊢
    generalize S2 ++ [MO.lst [D.int 0]] ++ [MO.lst (List.replicate w1.length (D.int 0))] = S3 at h3 f3 l3 ⊢
    refine rooms_met_ok W1.back.closed ha hf1 fun S4 _ x4 l4 f4 => ?_
    refine rooms_met_ok W2.back.closed hb hf2 fun S5 _ x5 l5 f5 => ?_
    have x4' : S5[S3.length]? = some (.lst ((metL w1 a).map nD)) := (f5 _ (by omega)).trans x4
    refine lo_zip _ _ ((metL w1 a).map nD) ((metL w2 b).map nD) (by rw [List.length_map, List.length_map]; exact hlen) (SmI S w1 w2 a b m S3.length S4.length) ⟨fun _ => 0, _, _, rfl, fun p x y hp => by omega, by rw [f5 _ (by omega), f4 _ (by omega)]; exact h3, x4', x5, by omega, fun n hn => by rw [f5 _ (by omega), f4 _ (by omega), f3 _ (by omega), F2 n hn]⟩ (fun i τ S' ⟨_, _, _, _, _, _, h1, h2, _⟩ => ⟨h1, h2⟩) ?_ ?_
    · rintro i u v τ S6 hu hv ⟨c, o5, o6, rfl, hcx, hc, g1, g2, l6, f6⟩
      rw [List.getElem?_map] at hu hv
      obtain ⟨x, hx, rfl⟩ := Option.map_eq_some_iff.mp hu
      obtain ⟨y, hy, rfl⟩ := Option.map_eq_some_iff.mp hv
      have hxl := P1.lt x (List.mem_of_getElem? hx)
      have hc' := hc
      unfold uD at hc'
      refine ⟨_, rfl, ?_⟩
      (simp! only [])
      refine ⟨_, stD_lst (v := nD y) hc' (i := x) (by simpa using hxl), ?_⟩
      refine ⟨fun r => if r = x then y else c r, _, _, rfl, fun p x' y' hp h1 h2 => (show (if x' = x then y else c x') = y' from ?_), ?_, by rw [sto_ne (by omega)]; exact g1, by rw [sto_ne (by omega)]; exact g2, by simpa using l6, fun n hn => by rw [sto_ne (by omega)]; exact f6 n hn⟩
      · by_cases z : x' = x
        · subst z
          rw [if_pos rfl]
          have := P1.inj hx h1
          subst this
          rw [hy] at h2; exact Option.some.inj h2
        · rw [if_neg z]
          refine hcx p x' y' ?_ h1 h2
          have : p ≠ i := fun e => by subst e; rw [hx] at h1; cases h1; exact z rfl
          omega
      · rw [sto_set hc', mapR_set]; rfl
    · rintro τ S6 ⟨c, o5, o6, rfl, hcx, hc, g1, g2, l6, f6⟩
      rw [List.length_map] at hcx
      have hc' := hc
      unfold uD at hc'
      (simp! only [wq_tupleL hc'])
      have : (List.range w1.length).map (fun r => nD (c r)) = (twL w1 a w2 b).map nD := by
        unfold twL
        rw [List.map_map]
        refine List.map_congr_left fun r hr => ?_
        obtain ⟨p, hp⟩ := P1.surj (List.mem_range.mp hr)
        have hpl := (List.getElem?_eq_some_iff.mp hp).1
        obtain ⟨y, hy⟩ : ∃ y, (metL w2 b)[p]? = some y := ⟨_, List.getElem?_eq_getElem (by omega)⟩
        show nD (c r) = nD ((metL w2 b).getD ((metL w1 a).idxOf r) 0)
        rw [idx_at P1.nd hp, getD_of hy, hcx p r y hpl hp hy]
      rw [this]
      exact q S6 l6 f6
  · rw [if_neg ht] at q
    rw [if_pos (by simp [ht])]
    (simp! only [])
    exact q S2 (by omega) F2
/-! what is seen with a stone, and what parts -/
section
variable {w1 w2 : Wb} {a b : Nat}
end
end SW
namespace SW
open PySem L2

end SW
namespace SW
open PySem L2

section
variable {w1 w2 : Wb} {a b : Nat} {p : List Nat} {S : Sto}
end
end SW
namespace SW
open PySem L2
end SW
namespace SW
open PySem L2
end SW
namespace SW
open PySem L2
end SW
namespace SW
open PySem L2
end SW
namespace SW
open PySem L2
end SW
namespace SW
open PySem L2
end SW
namespace SW
open PySem L2
end SW
namespace SW
open PySem L2
end SW
namespace SW
open PySem L2
end SW
namespace SW
open PySem L2
end SW
namespace SW
open PySem L2
end SW
namespace SW
open PySem L2
def b_l_turn_v3 : EvS := (seqS (stS 3 (aE lstD nilA))
  (seqS (forS (rgI1 (vE 1)) (.nm 4) (exS (mE insertM (vE 3) (consA (aE g_l_take (consA (vE 0) (consA (b2E addD (vE 4) (cE (.int 1))) nilA))) (consA (vE 4) nilA)))))
  (seqS (ifS (notT (tB (vE 2))) (rtS (aE tnD (consA (vE 3) nilA))) nxS)
  (seqS (stS 5 (rgL (r1R (vE 1))))
  (seqS (forS (rgI3 (cE (.int 0)) (b2E subD (vE 1) (cE (.int 1))) (cE (.int 2))) (.nm 4) (seqS (parS 6 7 (consA (b2E sbD (vE 3) (vE 4)) (consA (b2E sbD (vE 3) (b2E addD (vE 4) (cE (.int 1)))) nilA)))
  (seqS (asS (vE 7) (subG (vE 5) (vE 6)))
  (asS (vE 6) (subG (vE 5) (vE 7))))))
  (rtS (aE tnD (consA (vE 5) nilA))))))))
def g_l_turn_v3 : Fn := fnD 3 8 b_l_turn_v3
def b_l_covered_v5 : EvS := (seqS (forS (rgI1 (cE (.int 3))) (.nm 3) (seqS (stS 4 (lcE (sqI (aE g_l_ends (consA (vE 1) nilA))) (.nm 6) yesT (aE g_l_turn_v3 (consA (vE 0) (consA (vE 2) (consA (b2E eqD (b2E sbD (vE 6) (cE (.int 0))) (b2E sbD (vE 6) (cE (.int 1)))) nilA)))) [6]))
  (seqS (stS 5 (aE g_l_sheeted (consA (vE 1) (consA (vE 4) (consA (vE 2) nilA)))))
  (ifS (tB (b2E eqD (aE lenD (consA (aE g_l_reached (consA (vE 5) (consA (cE (.int 0)) nilA))) nilA)) (aE lenD (consA (vE 5) nilA)))) (rtS (vE 5)) nxS))))
  (rtS (vE 1)))
def g_l_covered_v5 : Fn := fnD 3 7 b_l_covered_v5
def b_l_any_web_v4 : EvS := (seqS (stS 1 (aE g_l_take (consA (vE 0) (consA (cE (.int 8)) nilA))))
  (seqS (ifS (tB (b2E eqD (vE 1) (cE (.int 0)))) (rtS (aE g_l_web (consA (vE 0) (consA (b2E addD (cE (.int 8)) (aE g_l_take (consA (vE 0) (consA (cE (.int 17)) nilA)))) (consA (b2E addD (cE (.int 3)) (aE g_l_take (consA (vE 0) (consA (cE (.int 4)) nilA)))) nilA))))) nxS)
  (seqS (ifS (tB (b2E ltD (vE 1) (cE (.int 4)))) (rtS (aE g_l_web (consA (vE 0) (consA (b2E addD (cE (.int 1)) (aE g_l_take (consA (vE 0) (consA (cE (.int 7)) nilA)))) (consA (b2E addD (cE (.int 2)) (aE g_l_take (consA (vE 0) (consA (cE (.int 3)) nilA)))) nilA))))) nxS)
  (seqS (ifS (tB (b2E eqD (vE 1) (cE (.int 4)))) (rtS (aE g_l_ring (consA (b2E addD (cE (.int 1)) (aE g_l_take (consA (vE 0) (consA (cE (.int 12)) nilA)))) nilA))) nxS)
  (seqS (stS 2 (aE g_l_web (consA (vE 0) (consA (b2E addD (cE (.int 1)) (aE g_l_take (consA (vE 0) (consA (cE (.int 4)) nilA)))) (consA (b2E addD (cE (.int 2)) (aE g_l_take (consA (vE 0) (consA (cE (.int 2)) nilA)))) nilA)))))
  (seqS (stS 3 (b2E addD (cE (.int 2)) (aE g_l_take (consA (vE 0) (consA (b2E sbD (aE lstD (consA (cE (.int 5)) (consA (cE (.int 5)) (consA (cE (.int 5)) (consA (cE (.int 3)) nilA))))) (b2E subD (aE lenD (consA (vE 2) nilA)) (cE (.int 1)))) nilA)))))
  (rtS (aE g_l_covered_v5 (consA (vE 0) (consA (vE 2) (consA (vE 3) nilA)))))))))))
def g_l_any_web_v4 : Fn := fnD 1 4 b_l_any_web_v4
end SW
namespace SW
open PySem L2
def b_l_renamed_v3 : EvS := (seqS (stS 2 (aE g_l_turn_v3 (consA (vE 0) (consA (aE lenD (consA (vE 1) nilA)) (consA (cE (.bl false)) nilA)))))
  (seqS (stS 3 (b2E mulD (aE lstD (consA (cE .non) nilA)) (aE lenD (consA (vE 1) nilA))))
  (seqS (forS (rgI1 (aE lenD (consA (vE 1) nilA))) (.nm 4) (asS (aE tupleD (consA (lcE (sqI (b2E sbD (vE 1) (vE 4))) (.tp [(.nm 5), (.nm 6)]) yesT (aE tupD (consA (b2E sbD (vE 2) (vE 5)) (consA (vE 6) nilA))) [5, 6]) nilA)) (subG (vE 3) (b2E sbD (vE 2) (vE 4)))))
  (rtS (aE tupD (consA (aE tupleD (consA (vE 3) nilA)) (consA (vE 2) nilA)))))))
def g_l_renamed_v3 : Fn := fnD 2 7 b_l_renamed_v3
end SW
namespace SW
open PySem L2
def b_l_twin : EvS := (seqS (ifS (tB (b2E neD (aE lenD (consA (vE 0) nilA)) (aE lenD (consA (vE 2) nilA)))) (rtS (cE .non)) nxS)
  (seqS (stS 4 (d1E (vE 1) (vE 3)))
  (seqS (stS 5 (aE lstD (consA (vE 1) nilA)))
  (seqS (stS 6 (cE (.int 0)))
  (seqS (whS (tB (b2E ltD (vE 6) (aE lenD (consA (vE 5) nilA)))) (seqS (parS 7 8 (consA (b2E sbD (vE 0) (b2E sbD (vE 5) (vE 6))) (consA (b2E sbD (vE 2) (b2E sbD (vE 4) (b2E sbD (vE 5) (vE 6)))) nilA)))
  (seqS (stS 6 (b2E addD (vE 6) (cE (.int 1))))
  (seqS (ifS (orT' (tB (b2E neD (aE lenD (consA (vE 7) nilA)) (aE lenD (consA (vE 8) nilA)))) (tB (b2E neD (lcE (sqI (vE 7)) (.nm 9) yesT (b2E sbD (vE 9) (cE (.int 1))) [9]) (lcE (sqI (vE 8)) (.nm 9) yesT (b2E sbD (vE 9) (cE (.int 1))) [9])))) (rtS (cE .non)) nxS)
  (forS (ziI (vE 7) (vE 8)) (.tp [(.nm 9), (.nm 10)]) (seqS (ifS (tB (b2E notInD (b2E sbD (vE 9) (cE (.int 0))) (vE 4))) (seqS (asS (b2E sbD (vE 10) (cE (.int 0))) (subG (vE 4) (b2E sbD (vE 9) (cE (.int 0)))))
  (exS (mE appendM (vE 5) (consA (b2E sbD (vE 9) (cE (.int 0))) nilA)))) nxS)
  (ifS (tB (b2E neD (b2E sbD (vE 4) (b2E sbD (vE 9) (cE (.int 0)))) (b2E sbD (vE 10) (cE (.int 0))))) (rtS (cE .non)) nxS)))))))
  (seqS (ifS (tB (b2E ltD (u1E lenSetD (u1E listValsD (vE 4))) (aE lenD (consA (vE 4) nilA)))) (rtS (cE .non)) nxS)
  (rtS (aE tnD (consA (lcE (rgI1 (aE lenD (consA (vE 0) nilA))) (.nm 11) yesT (b2E sbD (vE 4) (vE 11)) [11]) nilA)))))))))
def g_l_twin : Fn := fnD 4 12 b_l_twin
def b_law_v85 : EvS := (seqS (stS 1 (aE g_l_folded (consA (vE 0) (consA (cE (.int 12)) nilA))))
  (seqS (forS (rgI1 (aE max2D (consA (cE (.int 3)) (consA (aE lenD (consA (vE 1) nilA)) nilA)))) (.nm 2) (seqS (stS 3 (aE g_l_box (consA (vE 1) (consA (vE 2) nilA))))
  (seqS (stS 4 (aE g_l_any_web_v4 (consA (vE 3) nilA)))
  (seqS (asS (aE g_l_renamed_v3 (consA (vE 3) (consA (vE 4) nilA))) (patG (.tp [(.nm 9), (.nm 10)])))
  (seqS (stS 5 (aE g_l_take (consA (vE 3) (consA (aE lenD (consA (vE 4) nilA)) nilA))))
  (seqS (stS 6 (aE lstD (consA (aE tupD (consA (vE 4) (consA (vE 5) (consA (vE 9) (consA (b2E sbD (vE 10) (vE 5)) nilA))))) (consA (aE tupD (consA (vE 4) (consA (vE 5) (consA (vE 9) (consA (aE g_l_take (consA (vE 3) (consA (aE lenD (consA (vE 4) nilA)) nilA))) nilA))))) nilA))))
  (seqS (stS 6 (b2E addD (vE 6) (aE lstD (consA (aE tupD (consA (vE 4) (consA (vE 5) (consA (vE 4) (consA (aE g_l_take (consA (vE 3) (consA (aE lenD (consA (vE 4) nilA)) nilA))) nilA))))) (consA (aE tupD (consA (vE 4) (consA (vE 5) (consA (vE 4) (consA (vE 5) nilA))))) nilA)))))
  (seqS (stS 7 (aE g_l_rejoined (consA (vE 3) (consA (vE 4) nilA))))
  (seqS (ifS (tB (aE g_l_is_web (consA (vE 7) nilA))) (exS (mE appendM (vE 6) (consA (aE tupD (consA (vE 9) (consA (b2E sbD (vE 10) (vE 5)) (consA (vE 7) (consA (vE 5) nilA))))) nilA))) nxS)
  (seqS (stS 8 (aE g_l_any_web_v4 (consA (vE 3) nilA)))
  (seqS (exS (mE appendM (vE 6) (consA (aE tupD (consA (vE 8) (consA (aE g_l_take (consA (vE 3) (consA (aE lenD (consA (vE 8) nilA)) nilA))) (consA (vE 4) (consA (vE 5) nilA))))) nilA)))
  (forS (sqI (vE 6)) (.tp [(.nm 11), (.nm 12), (.nm 13), (.nm 14)]) (seqS (stS 15 (aE g_l_twin (consA (vE 11) (consA (vE 12) (consA (vE 13) (consA (vE 14) nilA))))))
  (seqS (ifS (notT (tB (aE (g_l_alike 8) (consA (aE g_same_web (consA (vE 11) (consA (vE 12) (consA (vE 13) (consA (vE 14) nilA))))) (consA (vE 15) nilA))))) (rtS (cE (.bl false))) nxS)
  (seqS (stS 16 (cE .non))
  (seqS (ifS (tB (b2E isNotD (vE 15) (cE .non))) (stS 16 (aE tupleD (consA (lcE (rgI1 (aE lenD (consA (vE 13) nilA))) (.nm 17) yesT (mT (vE 15) (consA (vE 17) nilA)) [17]) nilA))) nxS)
  (ifS (notT (tB (aE (g_l_alike 8) (consA (aE g_same_web (consA (vE 13) (consA (vE 14) (consA (vE 11) (consA (vE 12) nilA))))) (consA (vE 16) nilA))))) (rtS (cE (.bl false))) nxS)))))))))))))))))
  (rtS (cE (.bl true)))))
def g_law_v85 : Fn := fnD 1 18 b_law_v85
end SW
namespace SW
open PySem L2

end SW
namespace SW
open PySem L2

/-- as it was -/
structure AsW (V V' : Wk) : Prop where
  w : V'.w = V.w
  r : V'.r = V.r
  hand : V'.hand = V.hand
  ly : V'.ly = V.ly
theorem AsW.refl (V : Wk) : AsW V V := ⟨rfl, rfl, rfl, rfl⟩
theorem AsW.trans {A B C : Wk} (a : AsW A B) (b : AsW B C) : AsW A C := ⟨b.w.trans a.w, b.r.trans a.r, b.hand.trans a.hand, b.ly.trans a.ly⟩
section
variable {S : Sto} {n l : Nat} {V : Wk}
end
end SW
namespace SW
open PySem L2

theorem Ren.spots {w w' : Wb} {ν : Nat → Nat} (R : Ren w w' ν) (hc : Closed w) : ∀ (ds : List Nat) (r : Nat) (es : List End), r < w.length → SW.spots w r ds = some es → SW.spots w' (ν r) ds = some (mapE ν es)
  | [], r, es, hr, h => by
    simp only [SW.spots] at h
    cases h
    rfl
  | d :: ds, r, es, hr, h => by
    rw [spots_cons] at h ⊢
    obtain ⟨e, he, h⟩ := Option.bind_eq_some_iff.mp h
    obtain ⟨es', h2, rfl⟩ := Option.map_eq_some_iff.mp h
    have hl := hc _ _ _ _ (rowD_at.mp he)
    rw [R.row r hr]
    unfold mapE
    rw [List.getElem?_map, he]
    have := R.spots hc ds e.1 es' hl h2
    simp only [Option.map_some, Option.bind_some, this]
    rfl
end SW
namespace SW
open PySem L2

/-! k87: the rooms met, a dict -/
def kvF (ν : Nat → Nat) (ks : List Nat) : List (Key × D) := ks.map fun x => (kN x, nD (ν x))
theorem lk_kvF {ν : Nat → Nat} {x : Nat} : ∀ ks : List Nat, lk (kvF ν ks) (kN x) = if x ∈ ks then some (nD (ν x)) else none
  | [] => rfl
  | y :: ks => by
    show lk ((kN y, nD (ν y)) :: kvF ν ks) (kN x) = _
    rw [lk_cons, lk_kvF ks]
    by_cases h : y = x
    · subst h; simp
    · have : kN y ≠ kN x := fun e => h (kN_inj e)
      simp only [this, if_false, List.mem_cons, Ne.symm h, false_or]
theorem pt_kvF {ν : Nat → Nat} {x : Nat} {ks : List Nat} (h : x ∉ ks) : ptK (kvF ν ks) (kN x) (nD (ν x)) = kvF ν (ks ++ [x]) := by
  unfold ptK
  rw [lk_any, lk_kvF, if_neg h]
  simp [kvF]
theorem ints_kvF {ν : Nat → Nat} : ∀ ks : List Nat, intsAll ((kvF ν ks).map (·.2)) = some (ks.map fun x => ((ν x : Nat) : Int))
  | [] => rfl
  | x :: ks => by
    have := ints_kvF (ν := ν) ks
    show intsAll (D.int ((ν x : Nat) : Int) :: (kvF ν ks).map (·.2)) = _
    simp only [intsAll, this]
    rfl
theorem len_kvF {S : Sto} {n : Nat} {ν : Nat → Nat} {ks : List Nat} {Q : D → Sto → Prop} (h : S[n]? = some (.dK (kvF ν ks))) (q : Q (.int (ks.length : Int)) S) : Wp (lenD [.loc n] S) Q := by
  have e : lenD [.loc n] S = some (.int (ks.length : Int), S) := by
    simp only [lenD, h]
    simp [kvF]
  rw [e]
  exact wp_some.mpr q
end SW
namespace SW
open PySem L2

/-! the drawn webs again, turns being tuples whose object is known; printed by mk520.py -/
theorem wq_tnL {n : Nat} {ds : List D} {S : Sto} {Q : D → Sto → Prop} (h : S[n]? = some (.lst ds)) : Wp (tnD [.loc n] S) Q ↔ Q (.tn ds) S := by
  have e : tnD [.loc n] S = some (.tn ds, S) := by simp only [tnD, h]
  rw [e]; exact wp_some
theorem wq_sbN {ds : List D} {i : Int} {S : Sto} {Q : D → Sto → Prop} : Wp (sbD (.tn ds) (.int i) S) Q ↔ ∃ d, atI ds i = some d ∧ Q d S := by
  have e : sbD (.tn ds) (.int i) S = (atI ds i).map fun d => (d, S) := by
    show (ixD (.tn ds) (.int i) S).orElse _ = _
    simp only [ixD]
    cases atI ds i <;> rfl
  rw [e]
  cases h : atI ds i with
  | none => simp [wp_none]
  | some d => simp [wp_some]
theorem turn_okN {S : Sto} {b z many : Nat} {own : Bool} {Q : D → Sto → Prop} (hb : Bx S b z) (hz : z < 900000) (hm : 0 < many) (hm2 : many ≤ 24)
    (q : ∀ (S' : Sto) (L : List Nat), TurnOk many own L → Bx S' b (z + many) → Fr S S' b → Q (.tn (L.map nD)) S') : Wp (g_l_turn_v3 [.loc b, .int many, .bl own] S) Q := by
  unfold g_l_turn_v3
  refine (wp_fnD (by rfl)).mpr ?_
  unfold b_l_turn_v3
  have hbl := hb.lt
  (simp! only [])
  refine ⟨by simp [big62]; omega, ?_⟩
  rw [Int.toNat_natCast]
  refine lo_rng 0 many (T1 S b many own z) ⟨[], _, _, _, _, rfl, ⟨by simp, by simp, rfl⟩, sto_new, hb.of (sto_app hbl), by simp, Fr.app _ _ _⟩ ?_ ?_
  · rintro i τ S1 hi ⟨xs, o4, o5, o6, o7, rfl, P, hx, hb1, hl, fr⟩
    have e0 : ((0 : Int) + (i : Int)) = (i : Int) := by omega
    rw [e0]
    have e1 : ((i : Int) + 1) = ((i + 1 : Nat) : Int) := by omega
    (simp! only [isLst_loc hx, e1])
    refine take_ok hb1 (by omega) (by omega) (by omega) fun v S2 hv hb2 hl2 hf2 => ?_
    have hx2 : S2[S.length]? = some (.lst (xs.map nD)) := (hf2 _ (by omega)).trans hx
    have hPl := P.len
    (simp! only [wq_insert hx2 (show v < 1000000 by omega), List.length_map])
    refine ⟨by omega, xs.take v ++ [i] ++ xs.drop v, _, _, _, _, rfl, P.ins, ?_, hb2.of (sto_ne (by omega)), by simp; omega, ?_⟩
    · rw [sto_set hx2, List.map_append, List.map_append, List.map_take, List.map_drop]; rfl
    · exact ⟨by simp; omega, fun n h1 h2 => by rw [sto_ne (by omega), hf2 n h2]; exact fr.at_ n h1 h2⟩
  · rintro τ S1 ⟨xs, o4, o5, o6, o7, rfl, P, hx, hb1, hl, fr⟩
    (simp! only [])
    cases own with
    | false =>
      rw [if_pos (by decide)]
      (simp! only [wq_tnL hx])
      exact q S1 xs P.turn hb1 fr
    | true =>
      rw [if_neg (by decide)]
      (simp! only [wp_rgL, nD])
      refine ⟨by simp [rgOk, big62]; omega, ?_⟩
      rw [Int.sub_zero, Int.toNat_natCast, rng_nat, hl]
      have hx2 : (S1 ++ [MO.lst ((List.range many).map nD)])[S.length]? = some (.lst (xs.map nD)) := by rw [sto_app (by omega)]; exact hx
      have hL2 : (S1 ++ [MO.lst ((List.range many).map nD)])[S.length + 1]? = some (.lst ((List.range many).map nD)) := by rw [← hl]; exact sto_new
      refine wp_rgI3 ?_
      (simp! only [])
      have hsz : (Builtin.Range.rangeSize 0 ((many : Int) - 1) 2).toNat = many / 2 := by
        unfold Builtin.Range.rangeSize
        rw [if_pos (by omega)]
        split <;> omega
      have hsz0 : 0 ≤ Builtin.Range.rangeSize 0 ((many : Int) - 1) 2 := by
        unfold Builtin.Range.rangeSize
        rw [if_pos (by omega)]
        split <;> omega
      refine ⟨⟨by omega, by decide, small_2 (by omega), hsz0⟩, ?_⟩
      rw [hsz]
      refine lo_fixed _ (T2 S b many true z xs) ⟨List.range many, _, _, _, rfl, Flipped.zero P, hx2, hL2, hb1.of (sto_app hb1.lt), by simp; omega, fr.trans (Fr.app _ _ _)⟩ ?_ ?_
      · rintro i d τ S2 hd ⟨L, o4, o6, o7, rfl, F, hx, hL, hb2, hl, fr⟩
        rw [rngC_get] at hd
        split at hd
        · rename_i hi
          cases hd
          have hPl := P.len
          have e0 : ((0 : Int) + (i : Int) * 2) = ((2 * i : Nat) : Int) := by omega
          have e1 : (((2 * i : Nat) : Int) + 1) = ((2 * i + 1 : Nat) : Int) := by omega
          rw [e0]
          have ha : xs[2 * i]? = some xs[2 * i] := List.getElem?_eq_getElem (by omega)
          have hb : xs[2 * i + 1]? = some xs[2 * i + 1] := List.getElem?_eq_getElem (by omega)
          generalize xs[2 * i] = a at ha
          generalize xs[2 * i + 1] = c at hb
          have la := P.lt a (List.mem_of_getElem? ha)
          have lb := P.lt c (List.mem_of_getElem? hb)
          have hFl := F.1
          have ata : atI (xs.map nD) ((2 * i : Nat) : Int) = some (nD a) := atI_of (by rw [List.getElem?_map, ha]; rfl)
          have atb : atI (xs.map nD) ((2 * i + 1 : Nat) : Int) = some (nD c) := atI_of (by rw [List.getElem?_map, hb]; rfl)
          refine ⟨_, pb_nm, ?_⟩
          (simp! only [wq_sbL hx, e1, ata, atb])
          refine ⟨nD a, nD c, ⟨rfl, rfl⟩, _, stD_lst (v := nD c) hL (i := a) (by simp; omega), ?_⟩
          have hL3 : (S2.set (S.length + 1) (.lst ((L.map nD).set a (nD c))))[S.length + 1]? = some (.lst ((L.set a c).map nD)) := by rw [sto_set hL, List.map_set]
          refine ⟨_, stD_lst (v := nD a) hL3 (i := c) (by simp; omega), ?_⟩
          refine ⟨(L.set a c).set c a, _, _, _, rfl, F.succ P ha hb, ?_, ?_, ?_, by simpa using hl, ?_⟩
          · rw [sto_ne (by omega), sto_ne (by omega)]; exact hx
          · rw [sto_set hL3]; simp only [List.map_set]
          · exact hb2.of (by rw [sto_ne (by omega), sto_ne (by omega)])
          · exact ⟨by simp; omega, fun n h1 h2 => by rw [sto_ne (by omega), sto_ne (by omega)]; exact fr.at_ n h1 h2⟩
        · cases hd
      · rintro τ S2 ⟨L, o4, o6, o7, rfl, F, hx, hL, hb2, hl, fr⟩
        rw [rngC_len] at F
        (simp! only [wq_tnL hL])
        exact q S2 L (Flipped.turn P F) hb2 fr
theorem sheeted_okN {S : Sto} {w : Wb} {σ : List (List Nat)} {many tl : Nat} {Q : D → Sto → Prop} (hw0 : 0 < w.length) (hw : w.length ≤ 24) (hd : ∀ (r : Nat) (x : List End), w[r]? = some x → x.length ≤ 6)
    (hm2 : many ≤ 24) (hN : many * w.length ≤ 24) (ht : S[tl]? = some (.lst (σ.map fun L => D.tn (L.map nD)))) (H : Sheets w (endsN w w.length) σ many)
    (q : ∀ (S' : Sto) (w' : Wb), Back w' → w'.length = many * w.length → (∀ (r : Nat) (x : List End), w'[r]? = some x → x.length ≤ 6) → (∀ n, n < S.length → S'[n]? = S[n]?) → S.length ≤ S'.length → Q (wD w') S') : Wp (g_l_sheeted [wD w, .loc tl, .int many] S) Q := by
  unfold g_l_sheeted
  refine (wp_fnD (by rfl)).mpr ?_
  unfold b_l_sheeted
  have htl' := sto_lt ht
  (simp! only [len_w])
  have eN : ((many : Int) * (w.length : Nat)) = ((many * w.length : Nat) : Int) := by simp
  rw [eN]
  refine ⟨by omega, by simp [big62]; omega, ?_⟩
  rw [Int.toNat_natCast]
  refine lc_rng 0 (many * w.length) (by omega) (MkI S w (many * w.length)) ⟨rfl, by simp, fun x hx => by omega, fun _ _ => rfl⟩ ?_ ?_
  · rintro x acc S1 hx ⟨rfl, hl, hr, hf⟩
    have e0 : ((0 : Int) + (x : Int)) = (x : Int) := by omega
    have e1 : ((x : Int) % (w.length : Nat)) = ((x % w.length : Nat) : Int) := by simp
    have hxm : x % w.length < w.length := Nat.mod_lt _ hw0
    have hrow : w[x % w.length]? = some w[x % w.length] := List.getElem?_eq_getElem hxm
    generalize w[x % w.length] = row at hrow
    have hrl := hd _ _ hrow
    have hnew : (S1 ++ [MO.lst [D.non]])[S1.length]? = some (.lst [D.non]) := sto_new
    have l1 : (S1 ++ [MO.lst [D.non]]).length = S1.length + 1 := by simp
    rw [e0]
    (simp! only [e1, len_w, wq_row hrow, len_row, wq_rep1 hnew (show row.length < 1000000 by omega)])
    refine ⟨by omega, ?_, by simp; omega, fun y hy => ?_, fun n hn => by rw [sto_app (by omega), sto_app (by omega)]; exact hf n hn⟩
    · rw [List.range_succ, List.map_append, l1, hl]; rfl
    · by_cases z : y = x
      · subst z
        have : S.length + 2 * y + 1 = (S1 ++ [MO.lst [D.non]]).length := by omega
        rw [this, sto_new]
        unfold M0
        rw [rowL_of hrow, List.map_replicate]; rfl
      · rw [sto_app (by omega), sto_app (by omega)]; exact hr y (by omega)
  · rintro acc S1 ⟨rfl, hl, hr, hf⟩
    (simp! only [])
    rw [hl]
    refine ends_ok hw hd fun S2 es E he hl2 hf2 => ?_
    have hes := E.is
    rw [← hes] at H
    have l1 : (S1 ++ [MO.lst ((List.range (many * w.length)).map fun x => D.loc (S.length + 2 * x + 1))]).length = S.length + 2 * (many * w.length) + 1 := by simp; omega
    rw [l1] at he hl2 hf2
    rw [l1]
    (simp! only [srcE_loc he])
    have I0 : ShI S S2 w es σ many (M0 w) := by
      refine ⟨⟨?_, fun x hx => ?_⟩, he, hl2, fun n hn => ?_⟩
      · rw [hf2 _ (by omega), ← hl, sto_new]
      · rw [hf2 _ (by omega), sto_app (by omega)]; exact hr x hx
      · rw [hf2 _ (by omega), sto_app (by omega)]; exact hf n hn
    refine lo_en _ _ (Sh1 S w es σ tl many) ⟨M0 w, _, _, _, _, _, _, _, _, rfl, MI.zero, I0⟩ (fun t τ S' ⟨_, _, _, _, _, _, _, _, _, _, _, h⟩ => h.es) ?_ ?_
    · rintro t d τ S3 hdt ⟨M, o4, o5, o6, o7, o8, o9, o10, o11, rfl, I, J⟩
      rw [List.getElem?_map] at hdt
      obtain ⟨⟨one, other⟩, h1, rfl⟩ := Option.map_eq_some_iff.mp hdt
      have htl : t < es.length := (List.getElem?_eq_some_iff.mp h1).1
      have h2 : σ[t]? = some (σ[t]'(by rw [H.len]; exact htl)) := List.getElem?_eq_getElem _
      generalize (σ[t]'(by rw [H.len]; exact htl)) = L at h2
      obtain ⟨a1, a2, a3, a4, a5⟩ := H.at_ h1
      have T := H.turn t one other L h1 h2
      have atT : atI (σ.map fun L => D.tn (L.map nD)) (t : Int) = some (.tn (L.map nD)) := atI_of (by rw [List.getElem?_map, h2]; rfl)
      unfold tD
      (simp! only [])
      refine ⟨by simp [big62]; omega, ?_⟩
      rw [Int.toNat_natCast]
      refine lo_rng 0 many (Sh2 S w es σ tl many t one other) ⟨M, _, _, _, _, _, rfl, I, J⟩ ?_ ?_
      · rintro k τ S4 hk ⟨M, o5, o6, o9, o10, o11, rfl, I, J⟩
        have e0 : ((0 : Int) + (k : Int)) = (k : Int) := by omega
        rw [e0]
        have h3 : L[k]? = some (L[k]'(by rw [T.len]; exact hk)) := List.getElem?_eq_getElem _
        generalize (L[k]'(by rw [T.len]; exact hk)) = s at h3
        have hs := T.lt k s h3
        have atk : atI (L.map nD) (k : Int) = some (nD s) := atI_of (by rw [List.getElem?_map, h3]; rfl)
        obtain ⟨l1, l2, I'⟩ := I.step H h1 h2 h3 hk
        have ht4 : S4[tl]? = some (.lst (σ.map fun L => D.tn (L.map nD))) := (J.fr _ htl').trans ht
        have hx : one.1 + k * w.length < many * w.length := lt_mn a4 hk
        have hy : other.1 + s * w.length < many * w.length := lt_mn a5 hs
        (simp! only [wq_e0, wq_e1, len_w, wq_mulN (show w.length < 1000000 by omega), wq_addN, wq_sbL ht4, wq_sbN, atT, atk, nD, J.rows.get hx])
        have ea : ((one.1 : Int) + ((k * w.length : Nat) : Int)) = ((one.1 + k * w.length : Nat) : Int) := by simp
        have eb : ((other.1 : Int) + ((s * w.length : Nat) : Int)) = ((other.1 + s * w.length : Nat) : Int) := by simp
        rw [ea, eb]
        have g1 := J.rows.at_ _ hx
        have m1 := J.rows.put (d := one.2) (e := (other.1 + s * w.length, other.2)) hx
        rw [J.rows.get hx]
        refine ⟨_, stD_lst g1 (i := one.2) (by simpa using l1), ?_⟩
        have ed1 : D.tup [D.int ((other.1 + s * w.length : Nat) : Int), D.int (other.2 : Int)] = eD (other.1 + s * w.length, other.2) := rfl
        have ed2 : D.tup [D.int ((one.1 + k * w.length : Nat) : Int), D.int (one.2 : Int)] = eD (one.1 + k * w.length, one.2) := rfl
        rw [ed1, ed2, m1.get hy]
        have g2 := m1.at_ _ hy
        refine ⟨_, stD_lst g2 (i := other.2) (by simpa using l2), ?_⟩
        have m2 := m1.put (d := other.2) (e := (one.1 + k * w.length, one.2)) hy
        refine ⟨_, _, _, _, _, _, rfl, I', ⟨m2, ?_, by have := J.len; simpa using this, fun n hn => ?_⟩⟩
        · rw [sto_ne (by omega), sto_ne (by omega)]; exact J.es
        · rw [sto_ne (by omega), sto_ne (by omega)]; exact J.fr n hn
      · rintro τ S4 ⟨M, o5, o6, o9, o10, o11, rfl, I, J⟩
        (simp! only [])
        exact ⟨M, _, _, _, _, _, _, _, _, rfl, I.next H, J⟩
    · rintro τ S3 ⟨M, o4, o5, o6, o7, o8, o9, o10, o11, rfl, I, J⟩
      rw [List.length_map] at I
      have Jl := J.len
      have hrw : ∀ x, x < many * w.length → (M x).map oD = ((M x).filterMap id).map eD := fun x hx => by
        have := I.row H hx
        generalize (M x).filterMap id = r at this
        rw [this, List.map_map]; rfl
      (simp! only [src_loc J.rows.top])
      refine lc_live _ _ (by simp; omega) (Sh3 S3 (rowsM M (many * w.length))) ⟨rfl, rfl⟩ (fun i acc S' h => by rw [h.2]; exact J.rows.top) ?_ ?_
      · rintro x d acc S4 hdx ⟨rfl, rfl⟩
        rw [List.getElem?_map] at hdx
        obtain ⟨y, hy, rfl⟩ := Option.map_eq_some_iff.mp hdx
        obtain ⟨hx, hy⟩ := List.getElem?_eq_some_iff.mp hy
        rw [List.getElem_range] at hy
        subst hy
        rw [List.length_range] at hx
        have g := J.rows.at_ x hx
        rw [hrw x hx] at g
        (simp! only [wq_tupleL g])
        refine ⟨?_, rfl⟩
        have : (rowsM M (many * w.length))[x]? = some ((M x).filterMap id) := by unfold rowsM; rw [List.getElem?_map, List.getElem?_range hx]; rfl
        rw [List.take_add_one, this, List.map_append]; rfl
      · rintro acc S4 ⟨rfl, rfl⟩
        have hl4 : (rowsM M (many * w.length)).length = many * w.length := by unfold rowsM; simp
        rw [List.length_map, List.length_range, List.take_of_length_le (Nat.le_of_eq hl4)]
        have hn : (S4 ++ [MO.lst ((rowsM M (many * w.length)).map rD)])[S4.length]? = some (.lst ((rowsM M (many * w.length)).map rD)) := sto_new
        (simp! only [wq_tupleL hn])
        refine q _ _ (I.back H) hl4 (fun r x hx => ?_) (fun n hn' => by rw [sto_app (by omega)]; exact J.fr n hn') (by simp; omega)
        have hrl : r < many * w.length := by rw [← hl4]; exact (List.getElem?_eq_some_iff.mp hx).1
        unfold rowsM at hx
        rw [List.getElem?_map, List.getElem?_range hrl] at hx
        cases hx
        have e1 := congrArg List.length (I.row H hrl)
        rw [List.length_map, I.len r hrl] at e1
        have hrm : r % w.length < w.length := Nat.mod_lt _ hw0
        have hrow : w[r % w.length]? = some w[r % w.length] := List.getElem?_eq_getElem hrm
        rw [rowL_of hrow] at e1
        have := hd _ _ hrow
        simp only at e1 ⊢
        omega
def CvIN (S1 : Sto) (b many z : Nat) (es : List (End × End)) (i : Nat) (acc : List D) (S : Sto) : Prop := ∃ σ : List (List Nat), acc = σ.map (fun L => D.tn (L.map nD)) ∧ σ.length = i ∧ (∀ (t : Nat) (one other : End) (L : List Nat), es[t]? = some (one, other) → σ[t]? = some L → TurnOk many (decide (one = other)) L) ∧ Bx S b (z + i * many) ∧ Fr S1 S b
theorem covered_okN {S : Sto} {b z many : Nat} {w : Wb} {Q : D → Sto → Prop} (hb : Bx S b z) (hz : z < 800000) (hw : IsWeb w) (hm : 0 < many) (hN : many * w.length ≤ 24)
    (q : ∀ (S' : Sto) (w' : Wb), IsWeb w' → Bx S' b (z + 20000) → Fr S S' b → Q (wD w') S') : Wp (g_l_covered_v5 [.loc b, wD w, .int many] S) Q := by
  unfold g_l_covered_v5
  refine (wp_fnD (by rfl)).mpr ?_
  unfold b_l_covered_v5
  have hbl := hb.lt
  have hm2 : many ≤ 24 := Nat.le_trans (Nat.le_mul_of_pos_right many hw.pos) hN
  have hmN : 0 < many * w.length := Nat.mul_pos hm hw.pos
  (simp! only [])
  refine ⟨by simp [big62], ?_⟩
  have e3 : Int.toNat 3 = 3 := rfl
  rw [e3]
  refine lo_rng 0 3 (Cv1 S b many z w) ⟨_, _, _, _, rfl, by simpa using hb, Fr.refl _ _⟩ ?_ ?_
  · rintro i τ S1 hi ⟨o3, o4, o5, o6, rfl, hb1, fr1⟩
    (simp! only [])
    have l1 := fr1.len
    refine ends_ok hw.few hw.doors fun S2 es E he hl2 hf2 => ?_
    have hfew := E.few
    have hb2 : Bx S2 b (z + i * 3456) := hb1.of (hf2 _ (by omega))
    refine ⟨_, src_loc he, ?_⟩
    refine lc_live _ _ (by simp; omega) (CvIN S2 b many (z + i * 3456) es) ⟨[], rfl, rfl, fun t one other L _ h => by simp at h, by simpa using hb2, Fr.refl _ _⟩ (fun k acc S' ⟨σ, _, _, _, _, f⟩ => f.get (by omega) he) ?_ ?_
    · rintro k d acc S3 hd ⟨σ, rfl, hσ, hT, hb3, fr3⟩
      rw [List.getElem?_map] at hd
      obtain ⟨⟨one, other⟩, h1, rfl⟩ := Option.map_eq_some_iff.mp hd
      have hk : k < es.length := (List.getElem?_eq_some_iff.mp h1).1
      have hkm : k * many ≤ 143 * 24 := Nat.mul_le_mul (by omega) hm2
      (simp! only [wq_t0, wq_t1, wq_eqE])
      refine turn_okN hb3 (by omega) hm hm2 fun S4 L T hb4 fr4 => ?_
      refine ⟨σ ++ [L], by rw [List.map_append]; rfl, by simp [hσ], fun t one' other' L' e1 e2 => ?_, hb4.le (by rw [Nat.succ_mul]; omega), fr3.trans fr4⟩
      rw [List.getElem?_append] at e2
      split at e2
      · exact hT t one' other' L' e1 e2
      · rename_i hlt
        have ht : t - σ.length = 0 := by
          have := (List.getElem?_eq_some_iff.mp e2).1
          simp at this
          omega
        rw [ht] at e2
        have : t = k := by omega
        subst this
        rw [h1] at e1
        cases e1; cases e2
        exact T
    · rintro acc S3 ⟨σ, rfl, hσ, hT, hb3, fr3⟩
      rw [List.length_map] at hσ hb3
      have hkm : es.length * many ≤ 144 * 24 := Nat.mul_le_mul hfew hm2
      have ht : (S3 ++ [MO.lst (σ.map fun L => D.tn (L.map nD))])[S3.length]? = some (.lst (σ.map fun L => D.tn (L.map nD))) := sto_new
      have hes := E.is
      have H : Sheets w (endsN w w.length) σ many := by rw [← hes]; exact ⟨hw.back, E, hσ, hT⟩
      (simp! only [])
      refine sheeted_okN hw.pos hw.few hw.doors hm2 hN ht H fun S4 w' B hl' hd' hf4 l4 => ?_
      have l3 := fr3.len
      have hb4 : Bx S4 b (z + (i + 1) * 3456) := (hb3.le (by rw [Nat.succ_mul]; omega)).of (by rw [hf4 _ (by simp; omega), sto_app (by omega)])
      have fr4 : Fr S S4 b := ⟨by simp at l4; omega, fun n h1 h2 => by rw [hf4 _ (by simp; omega), sto_app (by omega), fr3.at_ n (by omega) h2, hf2 n (by omega)]; exact fr1.at_ n h1 h2⟩
      (simp! only [])
      have hr := @reached_ok S4 w' 0
      refine reached_ok (a := 0) B.closed (by omega) (by omega) fun S5 xs R hx hl5 hf5 => ?_
      have hb5 : Bx S5 b (z + (i + 1) * 3456) := hb4.of (hf5 _ hb4.lt)
      have fr5 : Fr S S5 b := ⟨by have := fr4.len; omega, fun n h1 h2 => by rw [hf5 n (by have := fr4.len; omega)]; exact fr4.at_ n h1 h2⟩
      (simp! only [len_loc hx, len_w, List.length_map, wp_eqI])
      by_cases hq : xs.length = w'.length
      · rw [if_pos (by omega)]
        refine q S5 w' ⟨B, by omega, by omega, hd', fun r hr => (R.rch r (nodup_full R.nd R.lt hq hr)).con⟩ (hb5.le ?_) fr5
        have : (i + 1) * 3456 ≤ 3 * 3456 := Nat.mul_le_mul_right _ (by omega)
        omega
      · rw [if_neg (by omega)]
        exact ⟨_, _, _, _, rfl, hb5, fr5⟩
  · rintro τ S1 ⟨o3, o4, o5, o6, rfl, hb1, fr1⟩
    (simp! only [])
    exact q S1 w hw (hb1.le (by omega)) fr1
theorem any_web_okN {S : Sto} {b z : Nat} {Q : D → Sto → Prop} (hb : Bx S b z) (hz : z < 600000)
    (q : ∀ (S' : Sto) (w : Wb), IsWeb w → Bx S' b (z + 21000) → Fr S S' b → Q (wD w) S') : Wp (g_l_any_web_v4 [.loc b] S) Q := by
  unfold g_l_any_web_v4
  refine (wp_fnD (by rfl)).mpr ?_
  unfold b_l_any_web_v4
  have n8 : (8 : Int) = ((8 : Nat) : Int) := rfl
  have n17 : (17 : Int) = ((17 : Nat) : Int) := rfl
  have n4 : (4 : Int) = ((4 : Nat) : Int) := rfl
  have n7 : (7 : Int) = ((7 : Nat) : Int) := rfl
  have n3 : (3 : Int) = ((3 : Nat) : Int) := rfl
  have n12 : (12 : Int) = ((12 : Nat) : Int) := rfl
  have n2 : (2 : Int) = ((2 : Nat) : Int) := rfl
  (simp! only [])
  rw [n8]
  refine take_ok hb (by omega) (by omega) (by omega) fun v1 S1 hv1 hb1 hl1 hf1 => ?_
  have fr1 : Fr S S1 b := ⟨by omega, fun n _ h => hf1 n h⟩
  (simp! only [wp_eqI])
  by_cases h0 : v1 = 0
  · rw [if_pos (by omega)]
    rw [n17]
    refine take_ok hb1 (by omega) (by omega) (by omega) fun v2 S2 hv2 hb2 hl2 hf2 => ?_
    (simp! only [])
    rw [n4]
    refine take_ok hb2 (by omega) (by omega) (by omega) fun v3 S3 hv3 hb3 hl3 hf3 => ?_
    have e1 : ((8 : Nat) : Int) + (v2 : Int) = ((8 + v2 : Nat) : Int) := by omega
    have e2 : (3 : Int) + (v3 : Int) = ((3 + v3 : Nat) : Int) := by omega
    (simp! only [])
    rw [e1, e2]
    refine web_ok hb3 (by omega) (by omega) (by omega) (by omega) (by omega) fun S4 w W hlw hb4 fr4 => ?_
    exact q S4 w W (hb4.le (by omega)) ((fr1.trans ⟨by omega, fun n _ h => (hf3 n h).trans (hf2 n h)⟩).trans fr4)
  · rw [if_neg (by omega)]
    (simp! only [])
    by_cases h1 : v1 < 4
    · rw [if_pos (by omega)]
      rw [n7]
      refine take_ok hb1 (by omega) (by omega) (by omega) fun v2 S2 hv2 hb2 hl2 hf2 => ?_
      (simp! only [])
      rw [n3]
      refine take_ok hb2 (by omega) (by omega) (by omega) fun v3 S3 hv3 hb3 hl3 hf3 => ?_
      have e1 : (1 : Int) + (v2 : Int) = ((1 + v2 : Nat) : Int) := by omega
      have e2 : (2 : Int) + (v3 : Int) = ((2 + v3 : Nat) : Int) := by omega
      (simp! only [])
      rw [e1, e2]
      refine web_ok hb3 (by omega) (by omega) (by omega) (by omega) (by omega) fun S4 w W hlw hb4 fr4 => ?_
      exact q S4 w W (hb4.le (by omega)) ((fr1.trans ⟨by omega, fun n _ h => (hf3 n h).trans (hf2 n h)⟩).trans fr4)
    · rw [if_neg (by omega)]
      (simp! only [wp_eqI])
      by_cases h2 : v1 = 4
      · rw [if_pos (by omega)]
        rw [n12]
        refine take_ok hb1 (by omega) (by omega) (by omega) fun v2 S2 hv2 hb2 hl2 hf2 => ?_
        have e1 : (1 : Int) + (v2 : Int) = ((1 + v2 : Nat) : Int) := by omega
        (simp! only [])
        rw [e1]
        refine ring_ok (by omega) (by omega) fun S3 hf3 => ?_
        have hb3 : Bx S3 b (z + 1 + 1) := hb2.of (hf3 _ hb2.lt)
        exact q S3 _ (ring_web (by omega) (by omega)) (hb3.le (by omega)) (fr1.trans ⟨by have := sto_more hf3; omega, fun n h h' => (hf3 n (by omega)).trans (hf2 n h')⟩)
      · rw [if_neg (by omega)]
        rw [n4]
        (simp! only [])
        refine take_ok hb1 (by omega) (by omega) (by omega) fun v2 S2 hv2 hb2 hl2 hf2 => ?_
        (simp! only [])
        rw [n2]
        refine take_ok hb2 (by omega) (by omega) (by omega) fun v3 S3 hv3 hb3 hl3 hf3 => ?_
        have e1 : (1 : Int) + (v2 : Int) = ((1 + v2 : Nat) : Int) := by omega
        have e2 : ((2 : Nat) : Int) + (v3 : Int) = ((2 + v3 : Nat) : Int) := by omega
        (simp! only [])
        rw [e1, e2]
        refine web_ok hb3 (by omega) (by omega) (by omega) (by omega) (by omega) fun S4 w W hlw hb4 fr4 => ?_
        have fr4' := (fr1.trans ⟨by omega, fun n _ h => (hf3 n h).trans (hf2 n h)⟩ : Fr S S3 b).trans fr4
        have hnew : (S4 ++ [MO.lst [D.int 5, D.int 5, D.int 5, D.int 3]])[S4.length]? = some (.lst [D.int 5, D.int 5, D.int 5, D.int 3]) := sto_new
        (simp! only [len_w, wq_sbL hnew])
        have pick : ∃ c : Nat, atI [D.int 5, D.int 5, D.int 5, D.int 3] ((w.length : Nat) - 1 : Int) = some (.int (c : Int)) ∧ 0 < c ∧ c ≤ 5 ∧ (1 + c) * w.length ≤ 24 := by
          rw [hlw]
          rcases (show v2 = 0 ∨ v2 = 1 ∨ v2 = 2 ∨ v2 = 3 by omega) with rfl | rfl | rfl | rfl
          · exact ⟨5, rfl, by omega, by omega, by omega⟩
          · exact ⟨5, rfl, by omega, by omega, by omega⟩
          · exact ⟨5, rfl, by omega, by omega, by omega⟩
          · exact ⟨3, rfl, by omega, by omega, by omega⟩
        obtain ⟨c, hc, c0, c5, hcN⟩ := pick
        refine ⟨_, hc, ?_⟩
        have hb5 : Bx (S4 ++ [MO.lst [D.int 5, D.int 5, D.int 5, D.int 3]]) b (z + 1 + 1 + 1 + 400) := hb4.of (sto_app hb4.lt)
        refine take_ok hb5 (by omega) c0 (by omega) fun v4 S5 hv4 hb6 hl5 hf5 => ?_
        have e3 : ((2 : Nat) : Int) + (v4 : Int) = ((2 + v4 : Nat) : Int) := by omega
        (simp! only [])
        rw [e3]
        have hmul : (2 + v4) * w.length ≤ 24 := Nat.le_trans (Nat.mul_le_mul_right _ (by omega)) hcN
        refine covered_okN hb6 (by omega) W (by omega) hmul fun S6 w' W' hb7 fr7 => ?_
        refine q S6 w' W' (hb7.le (by omega)) ((fr4'.trans ⟨by simp at hl5; omega, fun n h h' => ?_⟩).trans fr7)
        rw [hf5 n h', sto_app h]
end SW
namespace SW
open PySem L2

/-! tuples whose object is known: t.index, renumbered; printed by mk521.py -/
theorem wn_get {S : Sto} {ns : List Nat} {i x : Nat} {Q : D → Sto → Prop} (hi : ns[i]? = some x) : Wp (sbD (.tn (ns.map nD)) (.int (i : Int)) S) Q ↔ Q (.int (x : Int)) S := by
  have ha : atI (ns.map nD) (i : Int) = some (nD x) := atI_of (by rw [List.getElem?_map, hi]; rfl)
  rw [wq_sbN, ha]; simp [nD]
theorem idx_cast (i : Nat) : ∀ ns : List Nat, (ns.map fun n : Nat => (n : Int)).idxOf (i : Int) = ns.idxOf i
  | [] => rfl
  | n :: ns => by
    rw [List.map_cons, List.idxOf_cons, List.idxOf_cons, idx_cast i ns]
    by_cases h : n = i
    · subst h; simp
    · have h2 : ¬ ((n : Int) = (i : Int)) := by omega
      have e1 : ((n : Int) == (i : Int)) = false := by simpa using h2
      have e2 : (n == i) = false := by simpa using h
      rw [e1, e2]
theorem wp_mT {fo : EvE} {fa : EvA} {τ : Tau} {S : Sto} {Q : D → Sto → Prop} (h : Wp (fo τ S) fun d S1 => ∃ ns : List Nat, d = .tn (ns.map nD) ∧ Wp (fa τ S1) fun as S2 => ∃ i : Nat, as = [.int (i : Int)] ∧ i ∈ ns ∧ Q (.int ((ns.idxOf i : Nat) : Int)) S2) : Wp (mT fo fa τ S) Q := by
  obtain ⟨d, S1, e1, ns, rfl, as, S2, e2, i, rfl, hi, q⟩ := h
  have : mT fo fa τ S = some (.int ((ns.idxOf i : Nat) : Int), S2) := by
    unfold mT
    rw [e1]
    simp only [Option.bind_some, e2, ints_map]
    rw [if_pos (List.mem_map.mpr ⟨i, hi, rfl⟩), idx_cast]
  rw [this]
  exact wp_some.mpr q
end SW
namespace SW
open PySem L2

/-! k06: other numbers, plainly -/
section
variable {w w' w2 : Wb} {ν μ : Nat → Nat} {ns ms : List Nat}
theorem mapE_mapE {row : List End} : mapE μ (mapE ν row) = mapE (fun x => μ (ν x)) row := by
  unfold mapE
  rw [List.map_map]; rfl
theorem Ren.trans (R1 : Ren w w' ν) (R2 : Ren w' w2 μ) : Ren w w2 (fun x => μ (ν x)) := by
  have hl := R1.len
  refine ⟨R2.len.trans hl, fun r hr => ?_, fun r s hr hs e => ?_, fun r hr => ?_⟩
  · have := R2.lt (ν r) (by rw [hl]; exact R1.lt r hr)
    rw [hl] at this; exact this
  · exact R1.inj r s hr hs (R2.inj (ν r) (ν s) (by rw [hl]; exact R1.lt r hr) (by rw [hl]; exact R1.lt s hs) e)
  · rw [R2.row (ν r) (by rw [hl]; exact R1.lt r hr), R1.row r hr, mapE_mapE]
theorem Ren.congr (R : Ren w w' ν) (hc : Closed w) (h : ∀ r, r < w.length → ν r = μ r) : Ren w w' μ := by
  refine ⟨R.len, fun r hr => by rw [← h r hr]; exact R.lt r hr, fun r s hr hs e => R.inj r s hr hs (by rw [h r hr, h s hs]; exact e), fun r hr => ?_⟩
  rw [← h r hr, R.row r hr]
  unfold mapE
  refine List.map_congr_left fun e he => ?_
  rw [h e.1 (rowD_lt hc he)]
theorem Ren.self : Ren w w (fun x => x) := by
  refine ⟨rfl, fun r hr => hr, fun r s _ _ e => e, fun r hr => ?_⟩
  unfold mapE
  simp
theorem nu_idx (hp : PermOk w.length ns) {r : Nat} (hr : r < w.length) : ns.idxOf (nu ns r) = r := idx_at hp.nd (nu_at hp hr)
/-! the law's own filling -/
def M06 (w : Wb) (ns : List Nat) : Mat := fun x => List.replicate (rowL w (ns.idxOf x)) none
structure MR06 (w : Wb) (ns : List Nat) (es : List (End × End)) (t : Nat) (M : Mat) : Prop where
  len : ∀ x, x < w.length → (M x).length = rowL w (ns.idxOf x)
  ok : ∀ (x d : Nat) (e : End), (M x)[d]? = some (some e) → aT (renW w ns) x d = some e
  done : ∀ (t' : Nat) (one other : End), t' < t → es[t']? = some (one, other) → Set_ M (nu ns one.1) one.2 ∧ Set_ M (nu ns other.1) other.2
theorem MR06.zero {es : List (End × End)} : MR06 w ns es 0 (M06 w ns) := by
  refine ⟨fun x hx => by simp [M06], fun x d e h => ?_, fun t' one other h => by omega⟩
  unfold M06 at h
  rw [List.getElem?_replicate] at h
  split at h <;> cases h
theorem aT_len {r d : Nat} {e : End} (h : aT w r d = some e) : r < w.length ∧ d < rowL w r := by
  obtain ⟨x, h1, h2⟩ := aT_some.mp h
  refine ⟨(List.getElem?_eq_some_iff.mp h1).1, ?_⟩
  rw [rowL_of h1]
  exact (List.getElem?_eq_some_iff.mp h2).1
theorem MR06.step {es : List (End × End)} {t : Nat} {M : Mat} {one other : End} (hb : Back w) (E : EsOk w es) (hp : PermOk w.length ns) (I : MR06 w ns es t M) (h1 : es[t]? = some (one, other)) :
    one.2 < (M (nu ns one.1)).length ∧ other.2 < (putM M (nu ns one.1) one.2 (nu ns other.1, other.2) (nu ns other.1)).length ∧ MR06 w ns es (t + 1) (putM (putM M (nu ns one.1) one.2 (nu ns other.1, other.2)) (nu ns other.1) other.2 (nu ns one.1, one.2)) := by
  obtain ⟨a1, a3⟩ := (E.mem one other).mp (List.mem_of_getElem? h1)
  have a2 := hb _ _ other.1 other.2 a1
  obtain ⟨l1, d1⟩ := aT_len a1
  obtain ⟨l2, d2⟩ := aT_len a2
  have R := renW_ren hp
  have b1 := R.at_ a1
  have b2 := R.at_ a2
  have g1 : one.2 < (M (nu ns one.1)).length := by rw [I.len _ (nu_lt hp l1), nu_idx hp l1]; exact d1
  have g2 : other.2 < (putM M (nu ns one.1) one.2 (nu ns other.1, other.2) (nu ns other.1)).length := by rw [put_len, I.len _ (nu_lt hp l2), nu_idx hp l2]; exact d2
  refine ⟨g1, g2, fun x hx => by rw [put_len, put_len]; exact I.len x hx, fun x d e he => ?_, fun t' one' other' ht e1 => ?_⟩
  · rcases put_get he with ⟨rfl, rfl, rfl⟩ | he
    · exact b2
    · rcases put_get he with ⟨rfl, rfl, rfl⟩ | he
      · exact b1
      · exact I.ok x d e he
  · by_cases z : t' = t
    · subst z
      rw [h1] at e1; cases e1
      exact ⟨put_keep (put_new g1), put_new g2⟩
    · obtain ⟨c1, c2⟩ := I.done t' one' other' (by omega) e1
      exact ⟨put_keep (put_keep c1), put_keep (put_keep c2)⟩
theorem MR06.full {es : List (End × End)} {M : Mat} (hb : Back w) (E : EsOk w es) (hp : PermOk w.length ns) (I : MR06 w ns es es.length M) {x d : Nat} (hx : x < w.length) (hd : d < (M x).length) : Set_ M x d := by
  obtain ⟨r, hr, rfl, e2⟩ := nu_surj hp hx
  rw [I.len _ hx, e2] at hd
  have hrow : w[r]? = some w[r] := List.getElem?_eq_getElem hr
  generalize w[r] = row at hrow
  rw [rowL_of hrow] at hd
  have hq : row[d]? = some row[d] := List.getElem?_eq_getElem hd
  generalize row[d] = q at hq
  have ha : aT w r d = some q := aT_some.mpr ⟨row, hrow, hq⟩
  rcases leE_total (r, d) q with hle | hle
  · obtain ⟨t, ht⟩ := List.getElem?_of_mem ((E.mem (r, d) q).mpr ⟨ha, hle⟩)
    exact (I.done t _ _ (List.getElem?_eq_some_iff.mp ht).1 ht).1
  · have h2 := hb _ _ q.1 q.2 ha
    obtain ⟨t, ht⟩ := List.getElem?_of_mem ((E.mem q (r, d)).mpr ⟨h2, hle⟩)
    exact (I.done t _ _ (List.getElem?_eq_some_iff.mp ht).1 ht).2
theorem MR06.row {es : List (End × End)} {M : Mat} (hb : Back w) (E : EsOk w es) (hp : PermOk w.length ns) (I : MR06 w ns es es.length M) {x : Nat} (hx : x < w.length) : M x = (rowD (renW w ns) x).map some := by
  have R := renW_ren hp
  have h1 := all_some (M x) fun d hd => I.full hb E hp hx hd
  generalize (M x).filterMap id = r at h1
  rw [h1]
  congr 1
  obtain ⟨y, hy, rfl, e2⟩ := nu_surj hp hx
  have hl : r.length = (rowD w y).length := by
    have := I.len _ hx
    rw [h1, List.length_map, e2, rowL_of (row_at hy)] at this
    exact this
  have hl2 : (rowD (renW w ns) (nu ns y)).length = (rowD w y).length := by rw [R.row y hy]; simp [mapE]
  apply List.ext_getElem?
  intro d
  by_cases hd : d < r.length
  · have e : r[d]? = some r[d] := List.getElem?_eq_getElem hd
    generalize r[d] = q at e
    have := I.ok (nu ns y) d q (by rw [h1, List.getElem?_map, e]; rfl)
    rw [e, rowD_at.mpr this]
  · rw [List.getElem?_eq_none_iff.mpr (by omega), List.getElem?_eq_none_iff.mpr (by omega)]
end
end SW
namespace SW
open PySem L2

def LrIN (S0 : Sto) (b z m : Nat) (w : Wb) (ns : List Nat) (i : Nat) (τ : Tau) (S : Sto) : Prop := ∃ (M : List D) (o4 o5 o6 : Option D), τ = [some (.loc b), some (wD w), some (.tn (ns.map nD)), some (.loc m), o4, o5, o6] ∧ M.length = w.length ∧ (∀ r, r < i → M[nu ns r]? = some (rD (mapE (nu ns) (rowD w r)))) ∧ S[m]? = some (.lst M) ∧ Bx S b z ∧ Fr S0 S b
theorem l_renamed_okN {S : Sto} {b z : Nat} {w : Wb} {Q : D → Sto → Prop} (hb : Bx S b z) (hz : z < 800000) (W : IsWeb w)
    (q : ∀ (S' : Sto) (ns : List Nat), PermOk w.length ns → Bx S' b (z + 24) → Fr S S' b → Q (.tup [wD (renW w ns), .tn (ns.map nD)]) S') : Wp (g_l_renamed_v3 [.loc b, wD w] S) Q := by
  unfold g_l_renamed_v3
  refine (wp_fnD (by rfl)).mpr ?_
  unfold b_l_renamed_v3
  have hfew := W.few
  have hc := W.back.closed
  (simp! only [len_w])
  refine turn_okN hb (by omega) W.pos hfew fun S1 ns T hb1 fr1 => ?_
  have hp := T.perm
  have hl1 := fr1.len
  have hbl := hb.lt
  have h1 : (S1 ++ [MO.lst [D.non]])[S1.length]? = some (.lst [D.non]) := sto_new
  have l1 : (S1 ++ [MO.lst [D.non]]).length = S1.length + 1 := by simp
  (simp! only [len_w, wq_rep1 h1 (show w.length < 1000000 by omega)])
  refine ⟨by simp [big62]; omega, ?_⟩
  rw [Int.toNat_natCast, l1]
  have hb2 : Bx (S1 ++ [MO.lst [D.non]] ++ [MO.lst (List.replicate w.length D.non)]) b (z + 24) := (hb1.of (by rw [sto_app (by omega), sto_app (by omega)])).le (by omega)
  have fr2 : Fr S (S1 ++ [MO.lst [D.non]] ++ [MO.lst (List.replicate w.length D.non)]) b := fr1.trans ((Fr.app _ _ _).trans (Fr.app _ _ _))
  refine lo_rng 0 w.length (LrIN S b (z + 24) (S1.length + 1) w ns) ⟨List.replicate w.length .non, _, _, _, rfl, by simp, fun r hr => by omega, by rw [← l1]; exact sto_new, hb2, fr2⟩ ?_ ?_
  · rintro i τ S2 hi ⟨M, o4, o5, o6, rfl, hl, hM, hm, hb3, fr3⟩
    have e0 : ((0 : Int) + (i : Int)) = (i : Int) := by omega
    rw [e0]
    have hrow : w[i]? = some w[i] := List.getElem?_eq_getElem hi
    generalize w[i] = row at hrow
    have hrow6 := W.doors i row hrow
    have hsr : ∀ T : Sto, srcOf (rD row) T = some (.fixed (row.map eD)) := fun _ => rfl
    have hml := sto_lt hm
    (simp! only [wq_row hrow, hsr])
    refine lc_fixed _ (by simp; omega) (RnJ S2 ns row) ⟨rfl, rfl⟩ ?_ ?_
    · rintro j y acc S3 hy ⟨rfl, rfl⟩
      rw [List.getElem?_map] at hy
      obtain ⟨e, he, rfl⟩ := Option.map_eq_some_iff.mp hy
      have hne := nu_at hp (hc i j e.1 e.2 (aT_some.mpr ⟨row, hrow, he⟩))
      have hg := atI_of (ds := ns.map nD) (i := e.1) (d := nD (nu ns e.1)) (by rw [List.getElem?_map, hne]; rfl)
      unfold eD
      (simp! only [wq_sbN, hg])
      refine ⟨?_, rfl⟩
      rw [List.take_add_one, he]
      unfold mapE
      rw [List.map_append, List.map_append]; rfl
    · rintro acc S3 ⟨rfl, rfl⟩
      rw [List.length_map, List.take_length]
      have hnew : (S3 ++ [MO.lst ((mapE (nu ns) row).map eD)])[S3.length]? = some (.lst ((mapE (nu ns) row).map eD)) := sto_new
      have hm2 : (S3 ++ [MO.lst ((mapE (nu ns) row).map eD)])[S1.length + 1]? = some (.lst M) := by rw [sto_app (by omega)]; exact hm
      have hni := nu_at hp hi
      have hlt := nu_lt hp hi
      have hg := atI_of (ds := ns.map nD) (i := i) (d := nD (nu ns i)) (by rw [List.getElem?_map, hni]; rfl)
      (simp! only [wq_sbN, wq_tupleL hnew, hg])
      refine ⟨_, stD_lst (v := D.tup ((mapE (nu ns) row).map eD)) hm2 (i := nu ns i) (by omega), ?_⟩
      refine ⟨M.set (nu ns i) (rD (mapE (nu ns) row)), _, _, _, rfl, by simpa using hl, fun r hr => ?_, by rw [sto_set hm2]; rfl, hb3.of ?_, (fr3.trans (Fr.app _ _ _)).new (by omega)⟩
      · by_cases z : r = i
        · subst z
          rw [List.getElem?_set_self (by omega), rowD_of hrow]
        · have : nu ns i ≠ nu ns r := fun e => z (nu_inj hp hi (by omega) e).symm
          rw [List.getElem?_set_ne this]
          exact hM r (by omega)
      · rw [sto_ne (by omega), sto_app hb3.lt]
  · rintro τ S2 ⟨M, o4, o5, o6, rfl, hl, hM, hm, hb3, fr3⟩
    (simp! only [wq_tupleL hm])
    rw [fill_end hp hl hM]
    exact q S2 ns hp hb3 fr3
end SW
namespace SW
open PySem L2

/-! k08: rooms that go along, grown pair by pair, plainly -/
section
variable {w w' w1 w2 : Wb} {ν μ F : Nat → Nat} {a b : Nat}
theorem Ren.inv (R : Ren w w' ν) (hc : Closed w) (h : ∀ r, r < w.length → μ (ν r) = r) : Ren w' w μ := by
  have hl := R.len
  refine ⟨hl.symm, fun p hp => ?_, fun p q hp hq e => ?_, fun p hp => ?_⟩
  · obtain ⟨r, hr, rfl⟩ := R.surj (by omega : p < w.length)
    rw [h r hr]; omega
  · obtain ⟨r, hr, rfl⟩ := R.surj (by omega : p < w.length)
    obtain ⟨s, hs, rfl⟩ := R.surj (by omega : q < w.length)
    rw [h r hr, h s hs] at e
    rw [e]
  · obtain ⟨r, hr, rfl⟩ := R.surj (by omega : p < w.length)
    rw [h r hr, R.row r hr, mapE_mapE]
    unfold mapE
    symm
    have : (rowD w r).map (fun e => (μ (ν e.1), e.2)) = (rowD w r).map id := List.map_congr_left fun e he => by
      rw [h e.1 (rowD_lt hc he)]; rfl
    rw [this, List.map_id]
/-- from a told web to the web -/
theorem told_back (W2 : IsWeb w2) (hb : b < w2.length) : Ren (toldW w2 b) w2 (fun p => (metL w2 b).getD p 0) := by
  have R := told_ren' W2 hb
  refine R.inv W2.back.closed fun r hr => ?_
  have P := met_perm W2 hb
  obtain ⟨p, hp⟩ := P.surj hr
  show (metL w2 b).getD ((metL w2 b).idxOf r) 0 = r
  rw [idx_at P.nd hp, getD_of hp]
theorem ren_of_told (W1 : IsWeb w1) (W2 : IsWeb w2) (ha : a < w1.length) (hb : b < w2.length) (h : toldW w1 a = toldW w2 b) : ∃ ν, Ren w1 w2 ν ∧ ν a = b := by
  have R1 := told_ren' W1 ha
  have R2 := told_back W2 hb
  rw [← h] at R2
  refine ⟨_, R1.trans R2, ?_⟩
  show (metL w2 b).getD ((metL w1 a).idxOf a) 0 = b
  have e : (metL w1 a).idxOf a = 0 := idx_at (met_perm W1 ha).nd met_head
  rw [e, getD_of met_head]
theorem told_of_ren (R : Ren w1 w2 F) (W1 : IsWeb w1) (ha : a < w1.length) (e : F a = b) : toldW w1 a = toldW w2 b ∧ twL w1 a w2 b = (List.range w1.length).map F := by
  have hc := W1.back.closed
  refine ⟨by rw [← e]; exact (R.told hc ha).symm, ?_⟩
  unfold twL
  refine List.map_congr_left fun r hr => ?_
  have hr := List.mem_range.mp hr
  have P := met_perm W1 ha
  obtain ⟨p, hp⟩ := P.surj hr
  rw [← e, (R.metL hc ha).1, idx_at P.nd hp]
  exact getD_of (by rw [List.getElem?_map, hp]; rfl)
/-- pairs grown so far: rooms L by F; of the k-th room d doors are looked at -/
structure Tw8 (w1 w2 : Wb) (a b : Nat) (L : List Nat) (F : Nat → Nat) (k d : Nat) : Prop where
  nd : L.Nodup
  hd : L[0]? = some a
  fa : F a = b
  lt : ∀ x ∈ L, x < w1.length
  flt : ∀ x ∈ L, F x < w2.length
  ok : ∀ (j x i : Nat) (e : End), L[j]? = some x → (j < k ∨ (j = k ∧ i < d)) → (rowD w1 x)[i]? = some e → e.1 ∈ L ∧ (rowD w2 (F x))[i]? = some (F e.1, e.2)
  rows : ∀ j x, L[j]? = some x → j < k → (rowD w1 x).length = (rowD w2 (F x)).length
  un : ∀ ν, Ren w1 w2 ν → ν a = b → ∀ x ∈ L, F x = ν x
theorem Tw8.init (ha : a < w1.length) (hb : b < w2.length) : Tw8 w1 w2 a b [a] (fun _ => b) 0 0 := by
  refine ⟨by simp, rfl, rfl, fun x hx => ?_, fun x hx => hb, fun j x i e hj hk => by omega, fun j x hj hk => by omega, fun ν R e x hx => ?_⟩
  · rw [List.mem_singleton.mp hx]; exact ha
  · rw [List.mem_singleton.mp hx, e]
section
variable {L : List Nat} {k d x : Nat}
/-- rows that can't go along -/
theorem Tw8.no_rows (h : Tw8 w1 w2 a b L F k d) (hx : x ∈ L) (hne : (rowD w1 x).length ≠ (rowD w2 (F x)).length ∨ (rowD w1 x).map Prod.snd ≠ (rowD w2 (F x)).map Prod.snd) : ∀ ν, Ren w1 w2 ν → ν a ≠ b := fun ν R e => by
  have e1 := h.un ν R e x hx
  have e2 := R.row x (h.lt x hx)
  rw [e1, e2] at hne
  rcases hne with z | z
  · exact z (by simp [mapE])
  · apply z
    unfold mapE
    rw [List.map_map]
    rfl
theorem Tw8.no_twin {e t : End} (h : Tw8 w1 w2 a b L F k d) (hx : x ∈ L) (he : (rowD w1 x)[d]? = some e) (ht : (rowD w2 (F x))[d]? = some t) (hm : e.1 ∈ L) (hne : F e.1 ≠ t.1) : ∀ ν, Ren w1 w2 ν → ν a ≠ b := fun ν R ea => by
  have e1 := h.un ν R ea x hx
  have e2 := R.row x (h.lt x hx)
  rw [e1, e2] at ht
  unfold mapE at ht
  rw [List.getElem?_map, he] at ht
  cases ht
  exact hne (h.un ν R ea e.1 hm)
/-- a room more -/
theorem Tw8.more {e t : End} (W1 : IsWeb w1) (W2 : IsWeb w2) (h : Tw8 w1 w2 a b L F k d) (hk0 : L[k]? = some x) (he : (rowD w1 x)[d]? = some e) (ht : (rowD w2 (F x))[d]? = some t) (hn : e.1 ∉ L) :
    Tw8 w1 w2 a b (L ++ [e.1]) (fun y => if y = e.1 then t.1 else F y) k d := by
  have hx := List.mem_of_getElem? hk0
  have hkl := (List.getElem?_eq_some_iff.mp hk0).1
  have hF : ∀ y ∈ L, (if y = e.1 then t.1 else F y) = F y := fun y hy => if_neg fun (z : y = e.1) => hn (z ▸ hy)
  have a0 : a ∈ L := List.mem_of_getElem? h.hd
  have hL0 : 0 < L.length := List.length_pos_of_mem a0
  have el : e.1 < w1.length := rowD_lt W1.back.closed (List.mem_of_getElem? he)
  have tl : t.1 < w2.length := rowD_lt W2.back.closed (List.mem_of_getElem? ht)
  have old : ∀ j y, (L ++ [e.1])[j]? = some y → j < L.length → L[j]? = some y := fun j y hj hl => by rwa [List.getElem?_append_left hl] at hj
  refine ⟨?_, by rw [List.getElem?_append_left hL0]; exact h.hd, by show (if a = e.1 then t.1 else F a) = b; rw [hF a a0]; exact h.fa, fun y hy => ?_, fun y hy => ?_, fun j y i f hj hk hf => ?_, fun j y hj hk => ?_, fun ν R ea y hy => ?_⟩
  · exact List.nodup_append.mpr ⟨h.nd, by simp, fun p hp q hq => by rw [List.mem_singleton.mp hq]; exact fun (z : p = e.1) => hn (z ▸ hp)⟩
  · rcases List.mem_append.mp hy with hy | hy
    · exact h.lt y hy
    · rw [List.mem_singleton.mp hy]; exact el
  · rcases List.mem_append.mp hy with hy | hy
    · show (if y = e.1 then t.1 else F y) < _
      rw [hF y hy]; exact h.flt y hy
    · show (if y = e.1 then t.1 else F y) < _
      rw [if_pos (List.mem_singleton.mp hy)]; exact tl
  · have hj' := old j y hj (by omega)
    obtain ⟨h1, h2⟩ := h.ok j y i f hj' hk hf
    refine ⟨List.mem_append_left _ h1, ?_⟩
    show (rowD w2 (if y = e.1 then t.1 else F y))[i]? = some ((if f.1 = e.1 then t.1 else F f.1), f.2)
    rw [hF y (List.mem_of_getElem? hj'), hF f.1 h1]
    exact h2
  · have hj' := old j y hj (by omega)
    show _ = (rowD w2 (if y = e.1 then t.1 else F y)).length
    rw [hF y (List.mem_of_getElem? hj')]
    exact h.rows j y hj' hk
  · rcases List.mem_append.mp hy with hy | hy
    · show (if y = e.1 then t.1 else F y) = _
      rw [hF y hy]; exact h.un ν R ea y hy
    · have hy := List.mem_singleton.mp hy
      subst hy
      show (if e.1 = e.1 then t.1 else F e.1) = _
      rw [if_pos rfl]
      have e1 := h.un ν R ea x hx
      have e2 := R.row x (h.lt x hx)
      rw [e1, e2] at ht
      unfold mapE at ht
      rw [List.getElem?_map, he] at ht
      cases ht
      rfl
/-- a door more -/
theorem Tw8.door {e t : End} (h : Tw8 w1 w2 a b L F k d) (hk0 : L[k]? = some x) (he : (rowD w1 x)[d]? = some e) (ht : (rowD w2 (F x))[d]? = some t) (hm : e.1 ∈ L) (h1 : F e.1 = t.1) (h2 : e.2 = t.2) : Tw8 w1 w2 a b L F k (d + 1) := by
  refine ⟨h.nd, h.hd, h.fa, h.lt, h.flt, fun j y i f hj hk hf => ?_, h.rows, h.un⟩
  by_cases c : j < k ∨ (j = k ∧ i < d)
  · exact h.ok j y i f hj c hf
  · have hjk : j = k := by omega
    have hid : i = d := by omega
    subst hjk hid
    rw [hk0] at hj
    cases hj
    rw [he] at hf
    cases hf
    exact ⟨hm, by rw [ht, h1, h2]⟩
/-- a room done -/
theorem Tw8.room (h : Tw8 w1 w2 a b L F k d) (hk0 : L[k]? = some x) (hd : (rowD w1 x).length ≤ d) (hl : (rowD w1 x).length = (rowD w2 (F x)).length) : Tw8 w1 w2 a b L F (k + 1) 0 := by
  refine ⟨h.nd, h.hd, h.fa, h.lt, h.flt, fun j y i f hj hk hf => ?_, fun j y hj hk => ?_, h.un⟩
  · by_cases c : j < k
    · exact h.ok j y i f hj (.inl c) hf
    · have hjk : j = k := by omega
      subst hjk
      rw [hk0] at hj
      cases hj
      have := (List.getElem?_eq_some_iff.mp hf).1
      exact h.ok j _ i f hk0 (.inr ⟨rfl, by omega⟩) hf
  · by_cases c : j < k
    · exact h.rows j y hj c
    · have hjk : j = k := by omega
      subst hjk
      rw [hk0] at hj
      cases hj
      exact hl
/-- all rooms are come to -/
theorem Tw8.all (W1 : IsWeb w1) (h : Tw8 w1 w2 a b L F L.length 0) : ∀ r, r < w1.length → r ∈ L := by
  have a0 : a ∈ L := List.mem_of_getElem? h.hd
  have ha := h.lt a a0
  have closed : ∀ x ∈ L, ∀ s, Adj w1 x s → s ∈ L := fun x hx s hs => by
    obtain ⟨j, hj⟩ := List.getElem?_of_mem hx
    have hjl := (List.getElem?_eq_some_iff.mp hj).1
    obtain ⟨i, c, hi⟩ := hs
    exact (h.ok j x i (s, c) hj (.inl hjl) (rowD_at.mpr hi)).1
  intro r hr
  have R : Rch w1 a r := (W1.con a ha).rch.symm W1.back |>.trans (W1.con r hr).rch
  induction R with
  | refl => exact a0
  | step R1 ad ih =>
    obtain ⟨i, c, hi⟩ := ad
    exact closed _ (ih (aT_len hi).1) _ ⟨i, c, hi⟩
/-- without two that go to one room: the web renumbered -/
theorem Tw8.ren (W1 : IsWeb w1) (W2 : IsWeb w2) (hl : w1.length = w2.length) (h : Tw8 w1 w2 a b L F L.length 0) (hi : ∀ x ∈ L, ∀ y ∈ L, F x = F y → x = y) : Ren w1 w2 F := by
  have hall := h.all W1
  refine ⟨hl.symm, fun r hr => by rw [hl]; exact h.flt r (hall r hr), fun r s hr hs e => hi r (hall r hr) s (hall s hs) e, fun r hr => ?_⟩
  obtain ⟨j, hj⟩ := List.getElem?_of_mem (hall r hr)
  have hjl := (List.getElem?_eq_some_iff.mp hj).1
  have hln := h.rows j r hj hjl
  apply List.ext_getElem?
  intro i
  by_cases c : i < (rowD w1 r).length
  · have e : (rowD w1 r)[i]? = some (rowD w1 r)[i] := List.getElem?_eq_getElem c
    generalize (rowD w1 r)[i] = q at e
    rw [(h.ok j r i q hj (.inl hjl) e).2]
    unfold mapE
    rw [List.getElem?_map, e]; rfl
  · rw [List.getElem?_eq_none_iff.mpr (by omega), List.getElem?_eq_none_iff.mpr (by unfold mapE; rw [List.length_map]; omega)]
end
end
end SW
namespace SW
open PySem L2

/-! k08: the law's own growing of pairs -/
theorem wq_dkF {S : Sto} {n x : Nat} {F : Nat → Nat} {L : List Nat} {Q : D → Sto → Prop} (h : S[n]? = some (.dK (kvF F L))) (hx : x ∈ L) : Wp (sbD (.loc n) (.int (x : Int)) S) Q ↔ Q (.int ((F x : Nat) : Int)) S := by
  rw [wq_dgK h, lk_kvF, if_pos hx]
  exact ⟨fun ⟨d, e, k⟩ => by cases e; exact k, fun k => ⟨_, rfl, k⟩⟩
theorem lenSet_any {S : Sto} {n : Nat} {ν : Nat → Nat} {ks : List Nat} {Q : D → Sto → Prop} (h : S[n]? = some (.lst ((kvF ν ks).map (·.2)))) (hl : ks.length < 64) : Wp (lenSetD (.loc n) S) Q ↔ Q (.int ((dedL (ks.map fun x => ((ν x : Nat) : Int))).length : Int)) S := by
  have e : lenSetD (.loc n) S = some (.int ((dedL (ks.map fun x => ((ν x : Nat) : Int))).length : Int), S) := by
    unfold lenSetD
    simp only [h, ints_kvF]
    rw [if_pos (by rw [List.length_map]; exact hl)]
  rw [e]; exact wp_some
theorem nodup_sub8 {α : Type} [DecidableEq α] : ∀ (l D : List α), l.Nodup → (∀ x ∈ l, x ∈ D) → l.length ≤ D.length
  | [], _, _, _ => Nat.zero_le _
  | x :: l, D, hn, hs => by
    obtain ⟨h1, h2⟩ := List.nodup_cons.mp hn
    have hx : x ∈ D := hs x List.mem_cons_self
    have ih := nodup_sub8 l (D.erase x) h2 fun y hy => by
      have hne : y ≠ x := fun e => h1 (e ▸ hy)
      exact (List.mem_erase_of_ne hne).2 (hs y (List.mem_cons_of_mem _ hy))
    have e := List.length_erase_of_mem hx
    have hp : 0 < D.length := List.length_pos_of_mem hx
    rw [List.length_cons]
    omega
theorem ded_inj {ν : Nat → Nat} {ks : List Nat} (hnd : ks.Nodup) : ¬ (dedL (ks.map fun x => ((ν x : Nat) : Int))).length < ks.length ↔ ∀ x ∈ ks, ∀ y ∈ ks, ν x = ν y → x = y := by
  constructor
  · intro h x hx y hy e
    refine Classical.byContradiction fun ne => h ?_
    -- without y as many numbers are there
    have hsub : ∀ z ∈ dedL (ks.map fun x => ((ν x : Nat) : Int)), z ∈ (ks.erase y).map fun x => ((ν x : Nat) : Int) := fun z hz => by
      obtain ⟨u, hu, rfl⟩ := List.mem_map.mp (dedL_mem.mp hz)
      by_cases c : u = y
      · subst c
        exact List.mem_map.mpr ⟨x, (List.mem_erase_of_ne ne).mpr hx, by rw [e]⟩
      · exact List.mem_map.mpr ⟨u, (List.mem_erase_of_ne c).mpr hu, rfl⟩
    have := nodup_sub8 _ _ (dedL_nodup _) hsub
    rw [List.length_map, List.length_erase_of_mem hy] at this
    have := List.length_pos_of_mem hy
    omega
  · intro hinj
    have nd : (ks.map fun x => ((ν x : Nat) : Int)).Nodup := by
      rw [List.nodup_iff_pairwise_ne, List.pairwise_map]
      refine (List.nodup_iff_pairwise_ne.mp hnd).imp_of_mem fun {a b} ha hb hab e => hab (hinj a ha b hb (by omega))
    have pm : (dedL (ks.map fun x => ((ν x : Nat) : Int))).Perm (ks.map fun x => ((ν x : Nat) : Int)) := (List.perm_ext_iff_of_nodup (dedL_nodup _) nd).mpr fun j => dedL_mem
    rw [pm.length_eq, List.length_map]
    omega
def Bi8 : EvS := (seqS (ifS (tB (b2E notInD (b2E sbD (vE 9) (cE (.int 0))) (vE 4))) (seqS (asS (b2E sbD (vE 10) (cE (.int 0))) (subG (vE 4) (b2E sbD (vE 9) (cE (.int 0)))))
  (exS (mE appendM (vE 5) (consA (b2E sbD (vE 9) (cE (.int 0))) nilA)))) nxS)
  (ifS (tB (b2E neD (b2E sbD (vE 4) (b2E sbD (vE 9) (cE (.int 0)))) (b2E sbD (vE 10) (cE (.int 0))))) (rtS (cE .non)) nxS))
def Bw8 : EvS := (seqS (parS 7 8 (consA (b2E sbD (vE 0) (b2E sbD (vE 5) (vE 6))) (consA (b2E sbD (vE 2) (b2E sbD (vE 4) (b2E sbD (vE 5) (vE 6)))) nilA)))
  (seqS (stS 6 (b2E addD (vE 6) (cE (.int 1))))
  (seqS (ifS (orT' (tB (b2E neD (aE lenD (consA (vE 7) nilA)) (aE lenD (consA (vE 8) nilA)))) (tB (b2E neD (lcE (sqI (vE 7)) (.nm 9) yesT (b2E sbD (vE 9) (cE (.int 1))) [9]) (lcE (sqI (vE 8)) (.nm 9) yesT (b2E sbD (vE 9) (cE (.int 1))) [9])))) (rtS (cE .non)) nxS)
  (forS (ziI (vE 7) (vE 8)) (.tp [(.nm 9), (.nm 10)]) Bi8))))
/-- the pairs in the store: dict at S0.length, list at S0.length + 1 -/
structure Ts8 (S0 S : Sto) (F : Nat → Nat) (L : List Nat) : Prop where
  dict : S[S0.length]? = some (.dK (kvF F L))
  li : S[S0.length + 1]? = some (.lst (L.map nD))
  len : S0.length + 2 ≤ S.length
  fr : ∀ n, n < S0.length → S[n]? = S0[n]?
def Tt8 (S0 : Sto) (w1 : Wb) (a : Nat) (w2 : Wb) (b : Nat) (at_ : Nat) (o7 o8 o9 o10 o11 : Option D) : Tau := [some (wD w1), some (nD a), some (wD w2), some (nD b), some (.loc S0.length), some (.loc (S0.length + 1)), some (nD at_), o7, o8, o9, o10, o11]
def Ti8 (S0 : Sto) (w1 : Wb) (a : Nat) (w2 : Wb) (b k x : Nat) (o7 o8 o11 : Option D) (d : Nat) (τ : Tau) (S : Sto) : Prop := ∃ (L : List Nat) (F : Nat → Nat) (o9 o10 : Option D), τ = Tt8 S0 w1 a w2 b (k + 1) o7 o8 o9 o10 o11 ∧ Ts8 S0 S F L ∧ Tw8 w1 w2 a b L F k d ∧ L[k]? = some x ∧ (rowD w1 x).length = (rowD w2 (F x)).length ∧ (∀ (i : Nat) (e t : End), (rowD w1 x)[i]? = some e → (rowD w2 (F x))[i]? = some t → e.2 = t.2) ∧ (∀ T : List End, o8 = some (rD T) → T = rowD w2 (F x))
def Tw8I (S0 : Sto) (w1 : Wb) (a : Nat) (w2 : Wb) (b : Nat) (m : Nat) (τ : Tau) (S : Sto) : Prop := ∃ (L : List Nat) (F : Nat → Nat) (k : Nat) (o7 o8 o9 o10 o11 : Option D), τ = Tt8 S0 w1 a w2 b k o7 o8 o9 o10 o11 ∧ Ts8 S0 S F L ∧ Tw8 w1 w2 a b L F k 0 ∧ k ≤ L.length ∧ m + k = w1.length
def Sn8 (S0 : Sto) (row : List End) (i : Nat) (acc : List D) (S : Sto) : Prop := acc = ((row.take i).map fun e => nD e.2) ∧ S = S0
section
variable {S0 S : Sto} {w1 w2 : Wb} {a b : Nat}
theorem bi8_ok {k x d : Nat} {L : List Nat} {F : Nat → Nat} {e t : End} {o11 : Option D} {Q : Out → Sto → Prop} (W1 : IsWeb w1) (W2 : IsWeb w2) (hS : Ts8 S0 S F L) (h : Tw8 w1 w2 a b L F k d) (hk : L[k]? = some x) (hl : (rowD w1 x).length = (rowD w2 (F x)).length) (h2 : ∀ (i : Nat) (e t : End), (rowD w1 x)[i]? = some e → (rowD w2 (F x))[i]? = some t → e.2 = t.2)
    (he : (rowD w1 x)[d]? = some e) (ht : (rowD w2 (F x))[d]? = some t)
    (q : (∀ ν, Ren w1 w2 ν → ν a ≠ b) → ∀ S' : Sto, S0.length ≤ S'.length → (∀ n, n < S0.length → S'[n]? = S0[n]?) → Q (.rt .non) S') :
    Wp (Bi8 (Tt8 S0 w1 a w2 b (k + 1) (some (rD (rowD w1 x))) (some (rD (rowD w2 (F x)))) (some (eD e)) (some (eD t)) o11) S) (LoopQ (Ti8 S0 w1 a w2 b k x (some (rD (rowD w1 x))) (some (rD (rowD w2 (F x)))) o11 (d + 1)) Q) := by
  unfold Bi8 Tt8
  have hx := List.mem_of_getElem? hk
  have lS := hS.len
  have h24 := W1.few
  have hLl : L.length ≤ w1.length := nodup_le h.nd h.lt
  (simp! only [wq_e0, wq_notInK hS.dict])
  rw [lk_kvF]
  by_cases hm : e.1 ∈ L
  · rw [if_pos hm]
    (simp! only [wq_e0, Option.isSome_some, Bool.not_true, wq_dkF hS.dict hm])
    refine wq_neI.mpr ?_
    refine ⟨_, rfl, ?_⟩
    by_cases c : F e.1 = t.1
    · rw [if_neg (by simp [c])]
      (simp! only [])
      exact ⟨L, F, _, _, rfl, hS, h.door hk he ht hm c (h2 d e t he ht), hk, hl, h2, fun T hT => by
        have := Option.some.inj hT
        exact (rD_inj this).symm⟩
    · rw [if_pos (by simp; omega)]
      (simp! only [])
      exact q (h.no_twin hx he ht hm c) S (by omega) hS.fr
  · rw [if_neg hm]
    have h' := h.more W1 W2 hk he ht hm
    have hx' : (if x = e.1 then t.1 else F x) = F x := if_neg fun (z : x = e.1) => hm (z ▸ hx)
    (simp! only [wq_e0, Option.isSome_none, Bool.not_false])
    refine ⟨_, stD_K hS.dict (by simp [kvF]; omega), ?_⟩
    have hpt : ptK (kvF F L) (kN e.1) (D.int ((t.1 : Nat) : Int)) = kvF (fun y => if y = e.1 then t.1 else F y) (L ++ [e.1]) := by
      have h1 := pt_kvF (ν := fun y => if y = e.1 then t.1 else F y) hm
      have h2 : kvF (fun y => if y = e.1 then t.1 else F y) L = kvF F L := by
        unfold kvF
        refine List.map_congr_left fun y hy => ?_
        have : y ≠ e.1 := fun z => hm (z ▸ hy)
        show (kN y, nD (if y = e.1 then t.1 else F y)) = _
        rw [if_neg this]
      rw [h2] at h1
      rw [← h1]
      have e3 : (if e.1 = e.1 then t.1 else F e.1) = t.1 := if_pos rfl
      show ptK _ _ (D.int ((t.1 : Nat) : Int)) = ptK _ _ (nD (if e.1 = e.1 then t.1 else F e.1))
      rw [e3]
      rfl
    rw [hpt]
    have g1 : (S.set S0.length (.dK (kvF (fun y => if y = e.1 then t.1 else F y) (L ++ [e.1]))))[S0.length + 1]? = some (.lst (L.map nD)) := by rw [sto_ne (by omega)]; exact hS.li
    refine ⟨isLst_loc g1, ?_⟩
    (simp! only [wq_e0])
    refine (wq_append g1).mpr ⟨by rw [List.length_map]; omega, ?_⟩
    have hS' : Ts8 S0 ((S.set S0.length (.dK (kvF (fun y => if y = e.1 then t.1 else F y) (L ++ [e.1])))).set (S0.length + 1) (.lst (L.map nD ++ [.int (e.1 : Int)]))) (fun y => if y = e.1 then t.1 else F y) (L ++ [e.1]) := by
      refine ⟨by rw [sto_ne (by omega)]; exact sto_set hS.dict, by rw [sto_set g1, List.map_append]; rfl, by simp; omega, fun n hn => by rw [sto_ne (by omega), sto_ne (by omega)]; exact hS.fr n hn⟩
    generalize (S.set S0.length (.dK (kvF (fun y => if y = e.1 then t.1 else F y) (L ++ [e.1])))).set (S0.length + 1) (.lst (L.map nD ++ [.int (e.1 : Int)])) = S2 at hS' ⊢
    have hm' : e.1 ∈ L ++ [e.1] := by simp
    (simp! only [wq_e0, wq_dkF hS'.dict hm'])
    refine wq_neI.mpr ?_
    refine ⟨_, rfl, ?_⟩
    rw [if_neg (by simp)]
    (simp! only [])
    have hk' : (L ++ [e.1])[k]? = some x := by rw [List.getElem?_append_left (List.getElem?_eq_some_iff.mp hk).1]; exact hk
    have ht' : (rowD w2 (if x = e.1 then t.1 else F x))[d]? = some t := by rw [hx']; exact ht
    refine ⟨L ++ [e.1], _, _, _, rfl, hS', h'.door hk' he ht' hm' (if_pos rfl) (h2 d e t he ht), hk', ?_, ?_, ?_⟩
    · show _ = (rowD w2 (if x = e.1 then t.1 else F x)).length
      rw [hx']; exact hl
    · show ∀ (i : Nat) (e' t' : End), _ → (rowD w2 (if x = e.1 then t.1 else F x))[i]? = some t' → _
      rw [hx']; exact h2
    · intro T hT
      have := Option.some.inj hT
      show T = rowD w2 (if x = e.1 then t.1 else F x)
      rw [hx']
      exact (rD_inj this).symm
end
end SW
namespace SW
open PySem L2

/-! k08: the law's own growing of pairs, whole -/
section
variable {S0 S : Sto} {w1 w2 : Wb} {a b : Nat}
theorem bw8_ok {k m : Nat} {L : List Nat} {F : Nat → Nat} {o7 o8 o9 o10 o11 : Option D} {Q : Out → Sto → Prop} (W1 : IsWeb w1) (W2 : IsWeb w2) (hS : Ts8 S0 S F L) (h : Tw8 w1 w2 a b L F k 0) (hk : k < L.length) (hm : m + k = w1.length)
    (q : (∀ ν, Ren w1 w2 ν → ν a ≠ b) → ∀ S' : Sto, S0.length ≤ S'.length → (∀ n, n < S0.length → S'[n]? = S0[n]?) → Q (.rt .non) S') :
    Wp (Bw8 (Tt8 S0 w1 a w2 b k o7 o8 o9 o10 o11) S) (LoopQ (fun τ S => ∃ m', m' < m ∧ Tw8I S0 w1 a w2 b m' τ S) Q) := by
  unfold Bw8 Tt8
  have lS := hS.len
  have hx0 : L[k]? = some L[k] := List.getElem?_eq_getElem hk
  generalize L[k] = x at hx0
  have hx := List.mem_of_getElem? hx0
  have hLl : L.length ≤ w1.length := nodup_le h.nd h.lt
  have xl := h.lt x hx
  have fl := h.flt x hx
  have r1 := row_at xl
  have r2 := row_at fl
  have d1 := W1.doors _ _ r1
  have d2 := W2.doors _ _ r2
  have atx : atI (L.map nD) (k : Int) = some (nD x) := atI_of (by rw [List.getElem?_map, hx0]; rfl)
  have sbx : ∀ Q : D → Sto → Prop, Wp (sbD (.loc (S0.length + 1)) (.int (k : Int)) S) Q ↔ Q (.int (x : Int)) S := fun Q => by
    rw [wq_sbL hS.li, atx]
    exact ⟨fun ⟨d, e, k⟩ => by cases e; exact k, fun k => ⟨_, rfl, k⟩⟩
  have e1 : ((k : Int) + 1) = ((k + 1 : Nat) : Int) := by omega
  have enx : ∀ n : Nat, nD n = D.int (n : Int) := fun _ => rfl
  (simp! only [enx, sbx, wq_row r1, wq_dkF hS.dict hx, wq_row r2, e1, len_row])
  refine ⟨_, _, ⟨rfl, rfl⟩, ?_⟩
  (simp! only [enx, e1, len_row])
  refine wq_neI.mpr ?_
  refine ⟨_, rfl, ?_⟩
  by_cases hl : (rowD w1 x).length = (rowD w2 (F x)).length
  · rw [if_neg (by simp; omega)]
    have s1 : ∀ T : Sto, srcOf (rD (rowD w1 x)) T = some (.fixed ((rowD w1 x).map eD)) := fun _ => rfl
    have s2 : ∀ T : Sto, srcOf (rD (rowD w2 (F x))) T = some (.fixed ((rowD w2 (F x)).map eD)) := fun _ => rfl
    (simp! only [s1])
    refine lc_fixed _ (by rw [List.length_map]; omega) (Sn8 S (rowD w1 x)) ⟨rfl, rfl⟩ ?_ ?_
    · rintro i d acc S1 hd ⟨rfl, rfl⟩
      rw [List.getElem?_map] at hd
      obtain ⟨e, he, rfl⟩ := Option.map_eq_some_iff.mp hd
      refine ⟨_, pb_nm, ?_⟩
      (simp! only [wq_e1])
      refine ⟨?_, rfl⟩
      rw [List.take_add_one, he, List.map_append]; rfl
    · rintro acc S1 ⟨rfl, rfl⟩
      rw [List.length_map, List.take_length]
      have n1 : (S1 ++ [MO.lst ((rowD w1 x).map fun e => nD e.2)])[S1.length]? = some (.lst (((rowD w1 x).map Prod.snd).map nD)) := by rw [sto_new, List.map_map]; rfl
      have f1 : ∀ n, n < S1.length → (S1 ++ [MO.lst ((rowD w1 x).map fun e => nD e.2)])[n]? = S1[n]? := fun n hn => sto_app hn
      have l1 : (S1 ++ [MO.lst ((rowD w1 x).map fun e => nD e.2)]).length = S1.length + 1 := by simp
      generalize S1 ++ [MO.lst ((rowD w1 x).map fun e => nD e.2)] = S2 at n1 f1 l1 ⊢
      (simp! only [s2])
      refine lc_fixed _ (by rw [List.length_map]; omega) (Sn8 S2 (rowD w2 (F x))) ⟨rfl, rfl⟩ ?_ ?_
      · rintro i d acc S3 hd ⟨rfl, rfl⟩
        rw [List.getElem?_map] at hd
        obtain ⟨e, he, rfl⟩ := Option.map_eq_some_iff.mp hd
        refine ⟨_, pb_nm, ?_⟩
        (simp! only [wq_e1])
        refine ⟨?_, rfl⟩
        rw [List.take_add_one, he, List.map_append]; rfl
      · rintro acc S3 ⟨rfl, rfl⟩
        rw [List.length_map, List.take_length]
        have n2 : (S3 ++ [MO.lst ((rowD w2 (F x)).map fun e => nD e.2)])[S3.length]? = some (.lst (((rowD w2 (F x)).map Prod.snd).map nD)) := by rw [sto_new, List.map_map]; rfl
        have n1' : (S3 ++ [MO.lst ((rowD w2 (F x)).map fun e => nD e.2)])[S1.length]? = some (.lst (((rowD w1 x).map Prod.snd).map nD)) := by rw [sto_app (by omega)]; exact n1
        have f3 : ∀ n, n < S3.length → (S3 ++ [MO.lst ((rowD w2 (F x)).map fun e => nD e.2)])[n]? = S3[n]? := fun n hn => sto_app hn
        have l3 : (S3 ++ [MO.lst ((rowD w2 (F x)).map fun e => nD e.2)]).length = S3.length + 1 := by simp
        generalize S3 ++ [MO.lst ((rowD w2 (F x)).map fun e => nD e.2)] = S4 at n1' n2 f3 l3 ⊢
        have hS4 : Ts8 S0 S4 F L := ⟨by rw [f3 _ (by omega), f1 _ (by omega)]; exact hS.dict, by rw [f3 _ (by omega), f1 _ (by omega)]; exact hS.li, by omega, fun n hn => by rw [f3 _ (by omega), f1 _ (by omega)]; exact hS.fr n hn⟩
        refine (wq_neLN n1' n2).mpr ?_
        refine ⟨_, rfl, ?_⟩
        by_cases h2 : (rowD w1 x).map Prod.snd = (rowD w2 (F x)).map Prod.snd
        · rw [if_neg (by simp [h2])]
          have h22 : ∀ (i : Nat) (e t : End), (rowD w1 x)[i]? = some e → (rowD w2 (F x))[i]? = some t → e.2 = t.2 := fun i e t he ht => by
            have := congrArg (fun l => l[i]?) h2
            simp only [List.getElem?_map, he, ht, Option.map_some, Option.some.injEq] at this
            exact this
          have zsrc : ∀ T : Sto, srcZip (rD (rowD w1 x)) (rD (rowD w2 (F x))) T = some (.fixed (zipsT ((rowD w1 x).map eD) ((rowD w2 (F x)).map eD))) := fun _ => rfl
          (simp! only [zsrc])
          refine lo_fixed _ (Ti8 S0 w1 a w2 b k x (some (rD (rowD w1 x))) (some (rD (rowD w2 (F x)))) o11) ⟨L, F, _, _, rfl, hS4, h, hx0, hl, h22, fun T hT => (rD_inj (Option.some.inj hT)).symm⟩ ?_ ?_
          · rintro d z τ S5 hz ⟨L', F', o9, o10, rfl, hS5, h5, hk5, hl5, h25, h8⟩
            obtain ⟨u, v, hu, hv, rfl⟩ := zipsT_get _ _ _ _ hz
            rw [List.getElem?_map] at hu hv
            obtain ⟨e, he, rfl⟩ := Option.map_eq_some_iff.mp hu
            obtain ⟨t, ht, rfl⟩ := Option.map_eq_some_iff.mp hv
            have e8 : rowD w2 (F x) = rowD w2 (F' x) := h8 _ rfl
            rw [e8] at ht ⊢
            refine ⟨_, rfl, ?_⟩
            exact bi8_ok W1 W2 hS5 h5 hk5 hl5 h25 he ht q
          · rintro τ S5 ⟨L', F', o9, o10, rfl, hS5, h5, hk5, hl5, h25, h8⟩
            rw [zipsT_len, List.length_map, List.length_map] at h5
            refine ⟨m - 1, by omega, L', F', k + 1, _, _, _, _, _, rfl, hS5, h5.room hk5 (by omega) hl5, ?_, by omega⟩
            have := (List.getElem?_eq_some_iff.mp hk5).1
            omega
        · rw [if_pos (by simp [h2])]
          (simp! only [])
          exact q (h.no_rows hx (.inr h2)) S4 (by omega) hS4.fr
  · rw [if_pos (by simp; omega)]
    (simp! only [])
    exact q (h.no_rows hx (.inl hl)) S (by omega) hS.fr
def Tc8 (S0 : Sto) (F : Nat → Nat) (i : Nat) (acc : List D) (S : Sto) : Prop := acc = ((List.range i).map F).map nD ∧ S = S0
theorem twin_ok {S : Sto} {Q : D → Sto → Prop} (W1 : IsWeb w1) (W2 : IsWeb w2) (ha : a < w1.length) (hb : b < w2.length)
    (q1 : ∀ S' : Sto, (∀ ν, Ren w1 w2 ν → ν a ≠ b) → S.length ≤ S'.length → (∀ n, n < S.length → S'[n]? = S[n]?) → Q .non S')
    (q2 : ∀ (S' : Sto) (F : Nat → Nat), Ren w1 w2 F → F a = b → S.length ≤ S'.length → (∀ n, n < S.length → S'[n]? = S[n]?) → Q (.tn (((List.range w1.length).map F).map nD)) S') : Wp (g_l_twin [wD w1, nD a, wD w2, nD b] S) Q := by
  unfold g_l_twin
  refine (wp_fnD (by rfl)).mpr ?_
  have h24 := W1.few
  show Wp (seqS (ifS (tB (b2E neD (aE lenD (consA (vE 0) nilA)) (aE lenD (consA (vE 2) nilA)))) (rtS (cE .non)) nxS)
  (seqS (stS 4 (d1E (vE 1) (vE 3)))
  (seqS (stS 5 (aE lstD (consA (vE 1) nilA)))
  (seqS (stS 6 (cE (.int 0)))
  (seqS (whS (tB (b2E ltD (vE 6) (aE lenD (consA (vE 5) nilA)))) Bw8)
  (seqS (ifS (tB (b2E ltD (u1E lenSetD (u1E listValsD (vE 4))) (aE lenD (consA (vE 4) nilA)))) (rtS (cE .non)) nxS)
  (rtS (aE tnD (consA (lcE (rgI1 (aE lenD (consA (vE 0) nilA))) (.nm 11) yesT (b2E sbD (vE 4) (vE 11)) [11]) nilA)))))))) _ _) _
  (simp! only [len_w])
  refine wq_neI.mpr ?_
  refine ⟨_, rfl, ?_⟩
  by_cases hl : w1.length = w2.length
  · rw [if_neg (by simp; omega)]
    refine wp_d1' (i := a) (d := nD b) rfl (fun T => rfl) ?_
    have hd0 : (S ++ [MO.dK [(kN a, nD b)]])[S.length]? = some (.dK (kvF (fun _ => b) [a])) := sto_new
    have f0 : ∀ n, n < S.length → (S ++ [MO.dK [(kN a, nD b)]])[n]? = S[n]? := fun n hn => sto_app hn
    have l0 : (S ++ [MO.dK [(kN a, nD b)]]).length = S.length + 1 := by simp
    generalize S ++ [MO.dK [(kN a, nD b)]] = S1 at hd0 f0 l0 ⊢
    (simp! only [])
    rw [l0]
    have hS : Ts8 S (S1 ++ [MO.lst [nD a]]) (fun _ => b) [a] := by
      refine ⟨by rw [sto_app (by omega)]; exact hd0, by rw [← l0]; exact sto_new, by simp; omega, fun n hn => by rw [sto_app (by omega)]; exact f0 n hn⟩
    generalize S1 ++ [MO.lst [nD a]] = S2 at hS ⊢
    refine wp_while (Tw8I S w1 a w2 b) w1.length (by omega) ⟨[a], fun _ => b, 0, _, _, _, _, _, rfl, hS, Tw8.init ha hb, by simp, by omega⟩ ?_
    rintro m τ S3 ⟨L, F, k, o7, o8, o9, o10, o11, rfl, hS3, h3, hk, hm⟩
    unfold Tt8
    have enx : ∀ n : Nat, nD n = D.int (n : Int) := fun _ => rfl
    have hLl : L.length ≤ w1.length := nodup_le h3.nd h3.lt
    (simp! only [enx, len_loc hS3.li, List.length_map])
    by_cases c : k < L.length
    · rw [if_pos (by omega)]
      exact bw8_ok W1 W2 hS3 h3 c hm fun no S' l f => q1 S' no l f
    · rw [if_neg (by omega)]
      have hkL : k = L.length := by omega
      subst hkL
      have hall := h3.all W1
      have lS := hS3.len
      have vals : listValsD (.loc S.length) S3 = some (newD (.lst ((kvF F L).map (·.2))) S3) := by
        unfold listValsD
        simp only [hS3.dict]
      have wv : ∀ Q : D → Sto → Prop, Wp (listValsD (.loc S.length) S3) Q ↔ Q (.loc S3.length) (S3 ++ [.lst ((kvF F L).map (·.2))]) := fun Q => by
        rw [vals]; exact wp_some
      have hv : (S3 ++ [MO.lst ((kvF F L).map (·.2))])[S3.length]? = some (.lst ((kvF F L).map (·.2))) := sto_new
      have hd4 : (S3 ++ [MO.lst ((kvF F L).map (·.2))])[S.length]? = some (.dK (kvF F L)) := by rw [sto_app (by omega)]; exact hS3.dict
      have f4 : ∀ n, n < S.length → (S3 ++ [MO.lst ((kvF F L).map (·.2))])[n]? = S[n]? := fun n hn => by rw [sto_app (by omega)]; exact hS3.fr n hn
      have l4 : (S3 ++ [MO.lst ((kvF F L).map (·.2))]).length = S3.length + 1 := by simp
      (simp! only [wv])
      generalize S3 ++ [MO.lst ((kvF F L).map (·.2))] = S4 at hv hd4 f4 l4 ⊢
      refine (lenSet_any hv (by omega)).mpr ?_
      (simp! only [])
      refine len_kvF hd4 ?_
      (simp! only [])
      by_cases hi : (dedL (L.map fun x => ((F x : Nat) : Int))).length < L.length
      · rw [if_pos (by omega)]
        (simp! only [])
        refine q1 S4 (fun ν R e => ?_) (by omega) f4
        refine (ded_inj h3.nd).mpr (fun x hx y hy exy => ?_) hi
        rw [h3.un ν R e x hx, h3.un ν R e y hy] at exy
        exact R.inj x y (h3.lt x hx) (h3.lt y hy) exy
      · rw [if_neg (by omega)]
        have R := h3.ren W1 W2 hl ((ded_inj h3.nd).mp hi)
        (simp! only [len_w])
        refine ⟨by simp [big62]; omega, ?_⟩
        rw [Int.toNat_natCast]
        refine lc_rng 0 w1.length (by omega) (Tc8 S4 F) ⟨rfl, rfl⟩ ?_ ?_
        · rintro i acc S5 hi ⟨rfl, rfl⟩
          have e0 : ((0 : Int) + (i : Int)) = (i : Int) := by omega
          rw [e0]
          refine ⟨_, pb_nm, ?_⟩
          (simp! only [wq_dkF hd4 (hall i hi)])
          refine ⟨?_, rfl⟩
          rw [List.range_succ, List.map_append, List.map_append]; rfl
        · rintro acc S5 ⟨rfl, rfl⟩
          have hn : (S5 ++ [MO.lst (((List.range w1.length).map F).map nD)])[S5.length]? = some (.lst (((List.range w1.length).map F).map nD)) := sto_new
          (simp! only [wq_tnL hn])
          exact q2 _ F R h3.fa (by simp; omega) fun n hn => by rw [sto_app (by omega)]; exact f4 n hn
  · rw [if_pos (by simp; omega)]
    (simp! only [])
    exact q1 S (fun ν R _ => hl R.len.symm) (Nat.le_refl _) fun _ _ => rfl
end
end SW
namespace SW
open PySem L2

/-! k08: each case -/
theorem webP_web {v : Wb} (h : WebP v) (hf : v.length ≤ 24) (hd : ∀ (r : Nat) (x : List End), v[r]? = some x → x.length ≤ 6) : IsWeb v := by
  obtain ⟨h0, h1, h2⟩ := h
  have hc := told_closed h1
  have R := met_rc hc h0 hf
  refine ⟨fun r i y j e => ?_, h0, hf, hd, fun r hr => ?_⟩
  · obtain ⟨x, e1, e2⟩ := aT_some.mp e
    have := h1 r (List.getElem?_eq_some_iff.mp e1).1 i (y, j) (rowD_at.mpr e)
    exact rowD_at.mp this
  · exact (R.rch r (nodup_full R.nd R.lt h2 hr)).con
section
variable {S : Sto} {Q : D → Sto → Prop}
theorem isi_nb8 {i : List D} : Wp (isiD [.tn i, .ty "bool"] S) Q ↔ Q (.bl false) S := by
  have e : isiD [.tn i, .ty "bool"] S = some (.bl false, S) := rfl
  rw [e]; exact wp_some
theorem isi_nl8 {i : List D} : Wp (isiD [.tn i, .ty "list"] S) Q ↔ Q (.bl false) S := by
  have e : isiD [.tn i, .ty "list"] S = some (.bl false, S) := rfl
  rw [e]; exact wp_some
theorem isi_nt8 {i : List D} : Wp (isiD [.tn i, .ty "tuple"] S) Q ↔ Q (.bl true) S := by
  have e : isiD [.tn i, .ty "tuple"] S = some (.bl true, S) := rfl
  rw [e]; exact wp_some
theorem isi_nlt8 {i : List D} : Wp (isiD [.tn i, .tup [.ty "list", .ty "tuple"]] S) Q ↔ Q (.bl true) S := by
  have e : isiD [.tn i, .tup [.ty "list", .ty "tuple"]] S = some (.bl true, S) := rfl
  rw [e]; exact wp_some
theorem len_tn8 {ds : List D} : Wp (lenD [.tn ds] S) Q ↔ Q (.int (ds.length : Int)) S := by
  have e : lenD [.tn ds] S = some (.int (ds.length : Int), S) := rfl
  rw [e]; exact wp_some
theorem srcZ_tn {as bs : List D} : srcZip (.tup as) (.tn bs) S = some (.fixed (zipsT as bs)) := rfl
theorem alikeN_ok {n : Nat} {ds : List D} (hl : ds.length ≤ 1000) (hp : ∀ d ∈ ds, pl n d = true) (q : ∀ S' : Sto, S.length ≤ S'.length → (∀ m, m < S.length → S'[m]? = S[m]?) → Q (.bl true) S') : Wp (g_l_alike (n + 2) [.tup ds, .tn ds] S) Q := by
  show Wp (fnD 2 4 (b_l_alike (g_l_alike (n + 1))) [.tup ds, .tn ds] S) Q
  refine (wp_fnD (by rfl)).mpr ?_
  unfold b_l_alike
  (simp! only [isNonD, isi_nb8, isi_nt8, isi_nl8, isi_nlt8, isi_tb, isi_tt, isi_tl, isi_tlt, wp_neB, wp_eqI, len_tn8, srcZ_tn])
  rw [if_neg (by decide), if_neg (by decide), zips_self]
  refine lc_fixed _ (by simp; omega) (AlI S) ⟨rfl, Nat.le_refl _, fun _ _ => rfl⟩ ?_ ?_
  · rintro i x acc S1 hx ⟨rfl, hl1, hf1⟩
    rw [List.getElem?_map] at hx
    obtain ⟨y, hy, rfl⟩ := Option.map_eq_some_iff.mp hx
    (simp! only [])
    refine alike_ok n y S1 _ (hp y (List.mem_of_getElem? hy)) fun S2 hl2 hf2 => ⟨?_, by omega, fun m hm => by rw [hf2 m (by omega)]; exact hf1 m hm⟩
    exact List.replicate_succ'.symm
  · rintro acc S1 ⟨rfl, hl1, hf1⟩
    rw [wq_allL sto_new (bls_rep _)]
    have : (List.replicate (ds.map fun d => D.tup [d, d]).length true).all id = true := by simp
    rw [this]
    exact q _ (by simp; omega) fun m hm => by rw [sto_app (by omega)]; exact hf1 m hm
end
def E08 : EvS := (seqS (stS 15 (aE g_l_twin (consA (vE 11) (consA (vE 12) (consA (vE 13) (consA (vE 14) nilA))))))
  (seqS (ifS (notT (tB (aE (g_l_alike 8) (consA (aE g_same_web (consA (vE 11) (consA (vE 12) (consA (vE 13) (consA (vE 14) nilA))))) (consA (vE 15) nilA))))) (rtS (cE (.bl false))) nxS)
  (seqS (stS 16 (cE .non))
  (seqS (ifS (tB (b2E isNotD (vE 15) (cE .non))) (stS 16 (aE tupleD (consA (lcE (rgI1 (aE lenD (consA (vE 13) nilA))) (.nm 17) yesT (mT (vE 15) (consA (vE 17) nilA)) [17]) nilA))) nxS)
  (ifS (notT (tB (aE (g_l_alike 8) (consA (aE g_same_web (consA (vE 13) (consA (vE 14) (consA (vE 11) (consA (vE 12) nilA))))) (consA (vE 16) nilA))))) (rtS (cE (.bl false))) nxS)))))
def Bk8 (S0 : Sto) (f : Nat → Nat) (i : Nat) (acc : List D) (S : Sto) : Prop := acc = ((List.range i).map f).map nD ∧ S = S0
section
variable {S : Sto} {w1 w2 : Wb} {a b : Nat}
theorem e08_ok {o0 o1 o2 o3 o4 o5 o6 o7 o8 o9 o10 o15 o16 o17 : Option D} {Q : Out → Sto → Prop} (W1 : IsWeb w1) (W2 : IsWeb w2) (ha : a < w1.length) (hb : b < w2.length)
    (q : ∀ (S' : Sto) (o15 o16 : Option D), S.length ≤ S'.length → (∀ n, n < S.length → S'[n]? = S[n]?) → Q (.nx [o0, o1, o2, o3, o4, o5, o6, o7, o8, o9, o10, some (wD w1), some (nD a), some (wD w2), some (nD b), o15, o16, o17]) S') :
    Wp (E08 [o0, o1, o2, o3, o4, o5, o6, o7, o8, o9, o10, some (wD w1), some (nD a), some (wD w2), some (nD b), o15, o16, o17] S) Q := by
  unfold E08
  have f1 := W1.few
  have f2 := W2.few
  have plns : ∀ ls : List Nat, ∀ n, ∀ d ∈ ls.map nD, pl n d = true := fun ls n d hd => by
    obtain ⟨x, _, rfl⟩ := List.mem_map.mp hd
    cases n <;> rfl
  (simp! only [])
  refine twin_ok W1 W2 ha hb (fun S1 no l1 g1 => ?_) fun S1 F R e l1 g1 => ?_
  · have ne : ¬ toldW w1 a = toldW w2 b := fun h => by
      obtain ⟨ν, R, e⟩ := ren_of_told W1 W2 ha hb h
      exact no ν R e
    have s1 : sameO w1 a w2 b = .non := by unfold sameO; rw [if_neg ne]
    have s2 : sameO w2 b w1 a = .non := by unfold sameO; rw [if_neg fun h => ne h.symm]
    (simp! only [])
    refine same_web_ok W1 W2 ha hb fun S2 l2 g2 => ?_
    rw [s1]
    refine alike_ok 7 .non S2 _ rfl fun S3 l3 g3 => ?_
    refine ⟨true, rfl, ?_⟩
    rw [if_neg (by decide)]
    have en : isNonD D.non = true := rfl
    (simp! only [en, Bool.not_true])
    refine same_web_ok W2 W1 hb ha fun S4 l4 g4 => ?_
    rw [s2]
    refine alike_ok 7 .non S4 _ rfl fun S5 l5 g5 => ?_
    refine ⟨true, rfl, ?_⟩
    rw [if_neg (by decide)]
    exact q S5 _ _ (by omega) fun n hn => by rw [g5 n (by omega), g4 n (by omega), g3 n (by omega), g2 n (by omega)]; exact g1 n hn
  · obtain ⟨ht, htw⟩ := told_of_ren R W1 ha e
    have hl := R.len
    have s1 : sameO w1 a w2 b = .tup (((List.range w1.length).map F).map nD) := by unfold sameO; rw [if_pos ht, htw]
    (simp! only [])
    refine same_web_ok W1 W2 ha hb fun S2 l2 g2 => ?_
    rw [s1]
    refine alikeN_ok (n := 6) (by simp; omega) (plns _ _) fun S3 l3 g3 => ?_
    refine ⟨true, rfl, ?_⟩
    rw [if_neg (by decide)]
    have en : ∀ ds : List D, isNonD (D.tn ds) = false := fun _ => rfl
    have idF : ∀ r, r < w1.length → ((List.range w1.length).map F).idxOf (F r) = r := fun r hr => by
      refine idx_at ?_ (by rw [List.getElem?_map, List.getElem?_range hr]; rfl)
      rw [List.nodup_iff_pairwise_ne, List.pairwise_map]
      refine List.Pairwise.imp_of_mem ?_ (List.nodup_iff_pairwise_ne.mp List.nodup_range)
      intro x y hx hy hne exy
      exact hne (R.inj x y (List.mem_range.mp hx) (List.mem_range.mp hy) exy)
    have R2 := R.inv (μ := fun x => ((List.range w1.length).map F).idxOf x) W1.back.closed idF
    have e2 : (fun x => ((List.range w1.length).map F).idxOf x) b = a := by
      show ((List.range w1.length).map F).idxOf b = a
      rw [← e]; exact idF a ha
    obtain ⟨ht2, htw2⟩ := told_of_ren R2 W2 hb e2
    have s2 : sameO w2 b w1 a = .tup (((List.range w2.length).map fun x => ((List.range w1.length).map F).idxOf x).map nD) := by unfold sameO; rw [if_pos ht2, htw2]
    (simp! only [en, Bool.not_false, len_w])
    refine ⟨by simp [big62]; omega, ?_⟩
    rw [Int.toNat_natCast]
    refine lc_rng 0 w2.length (by omega) (Bk8 S3 fun x => ((List.range w1.length).map F).idxOf x) ⟨rfl, rfl⟩ ?_ ?_
    · rintro x acc S4 hx ⟨rfl, rfl⟩
      have e0 : ((0 : Int) + (x : Int)) = (x : Int) := by omega
      rw [e0]
      refine ⟨_, pb_nm, ?_⟩
      (simp! only [])
      refine wp_mT ?_
      (simp! only [])
      have hm : x ∈ (List.range w1.length).map F := by
        obtain ⟨r, hr, er⟩ := R.surj (by omega : x < w1.length)
        exact List.mem_map.mpr ⟨r, List.mem_range.mpr hr, er⟩
      refine ⟨_, rfl, x, rfl, hm, ?_, rfl⟩
      rw [List.range_succ (n := x), List.map_append, List.map_append]; rfl
    · rintro acc S4 ⟨rfl, rfl⟩
      have hn : (S4 ++ [MO.lst (((List.range w2.length).map fun x => ((List.range w1.length).map F).idxOf x).map nD)])[S4.length]? = some (.lst (((List.range w2.length).map fun x => ((List.range w1.length).map F).idxOf x).map nD)) := sto_new
      have g5 : ∀ n, n < S4.length → (S4 ++ [MO.lst (((List.range w2.length).map fun x => ((List.range w1.length).map F).idxOf x).map nD)])[n]? = S4[n]? := fun n hn => sto_app hn
      have l5 : (S4 ++ [MO.lst (((List.range w2.length).map fun x => ((List.range w1.length).map F).idxOf x).map nD)]).length = S4.length + 1 := by simp
      generalize S4 ++ [MO.lst (((List.range w2.length).map fun x => ((List.range w1.length).map F).idxOf x).map nD)] = S5 at hn g5 l5 ⊢
      (simp! only [wq_tupleL hn])
      refine same_web_ok W2 W1 hb ha fun S6 l6 g6 => ?_
      rw [s2]
      refine alike_ok 7 _ S6 _ ?_ fun S7 l7 g7 => ?_
      · rw [pl, Bool.and_eq_true, decide_eq_true_eq, List.all_eq_true]
        exact ⟨by simp; omega, plns _ _⟩
      · refine ⟨true, rfl, ?_⟩
        rw [if_neg (by decide)]
        exact q S7 _ _ (by omega) fun n hn => by rw [g7 n (by omega), g6 n (by omega), g5 n (by omega), g3 n (by omega), g2 n (by omega)]; exact g1 n hn
end
end SW
namespace SW
open PySem L2

/-! k08: the law -/
abbrev Case8 := Wb × Nat × Wb × Nat
def cD8 (c : Case8) : D := .tup [wD c.1, nD c.2.1, wD c.2.2.1, nD c.2.2.2]
def Ok8 (c : Case8) : Prop := IsWeb c.1 ∧ IsWeb c.2.2.1 ∧ c.2.1 < c.1.length ∧ c.2.2.2 < c.2.2.1.length
def Ev8 : EvS := forS (sqI (vE 6)) (.tp [(.nm 11), (.nm 12), (.nm 13), (.nm 14)]) E08
def Ei8 (S0 : Sto) (τ0 : List (Option D)) (i : Nat) (τ : Tau) (S : Sto) : Prop := ∃ o11 o12 o13 o14 o15 o16 o17 : Option D, τ = τ0 ++ [o11, o12, o13, o14, o15, o16, o17] ∧ S0.length ≤ S.length ∧ ∀ n, n < S0.length → S[n]? = S0[n]?
theorem ev8_ok {S : Sto} {l : Nat} {cs : List Case8} {o0 o1 o2 o3 o4 o5 o7 o8 o9 o10 o11 o12 o13 o14 o15 o16 o17 : Option D} {Q : Out → Sto → Prop} (hl : S[l]? = some (.lst (cs.map cD8))) (hok : ∀ c ∈ cs, Ok8 c)
    (q : ∀ (S' : Sto) (o11 o12 o13 o14 o15 o16 o17 : Option D), S.length ≤ S'.length → (∀ n, n < S.length → S'[n]? = S[n]?) → Q (.nx [o0, o1, o2, o3, o4, o5, some (.loc l), o7, o8, o9, o10, o11, o12, o13, o14, o15, o16, o17]) S') :
    Wp (Ev8 [o0, o1, o2, o3, o4, o5, some (.loc l), o7, o8, o9, o10, o11, o12, o13, o14, o15, o16, o17] S) Q := by
  unfold Ev8
  rw [wp_forS]
  (dsimp! only [])
  refine ⟨_, src_loc hl, ?_⟩
  refine lo_live _ _ (Ei8 S [o0, o1, o2, o3, o4, o5, some (.loc l), o7, o8, o9, o10]) ⟨_, _, _, _, _, _, _, rfl, Nat.le_refl _, fun _ _ => rfl⟩ (fun i τ S' ⟨_, _, _, _, _, _, _, _, _, f⟩ => (f _ (sto_lt hl)).trans hl) ?_ ?_
  · rintro i d τ S1 hd ⟨o11, o12, o13, o14, o15, o16, o17, rfl, l1, f1⟩
    rw [List.getElem?_map] at hd
    obtain ⟨c, hc, rfl⟩ := Option.map_eq_some_iff.mp hd
    obtain ⟨W1, W2, ha, hb⟩ := hok c (List.mem_of_getElem? hc)
    refine ⟨_, rfl, ?_⟩
    refine e08_ok W1 W2 ha hb fun S2 o15 o16 l2 f2 => ?_
    exact ⟨_, _, _, _, _, _, _, rfl, by omega, fun n hn => (f2 n (by omega)).trans (f1 n hn)⟩
  · rintro τ S1 ⟨o11, o12, o13, o14, o15, o16, o17, rfl, l1, f1⟩
    exact q S1 _ _ _ _ _ _ _ l1 f1
theorem wq_addLL {S : Sto} {m n : Nat} {as bs : List D} {Q : D → Sto → Prop} (h1 : S[m]? = some (.lst as)) (h2 : S[n]? = some (.lst bs)) (hl : as.length + bs.length ≤ 10000000) : Wp (addD (.loc m) (.loc n) S) Q ↔ Q (.loc S.length) (S ++ [.lst (as ++ bs)]) := by
  have e : addD (.loc m) (.loc n) S = some (newD (.lst (as ++ bs)) S) := by
    unfold addD
    simp only [h1, h2]
    rw [if_pos hl]
  rw [e]; exact wp_some
def Pr8 : EvS := (seqS (stS 8 (aE g_l_any_web_v4 (consA (vE 3) nilA)))
  (seqS (exS (mE appendM (vE 6) (consA (aE tupD (consA (vE 8) (consA (aE g_l_take (consA (vE 3) (consA (aE lenD (consA (vE 8) nilA)) nilA))) (consA (vE 4) (consA (vE 5) nilA))))) nilA)))
  Ev8))
def Pc8 : EvS := (seqS (stS 6 (aE lstD (consA (aE tupD (consA (vE 4) (consA (vE 5) (consA (vE 9) (consA (b2E sbD (vE 10) (vE 5)) nilA))))) (consA (aE tupD (consA (vE 4) (consA (vE 5) (consA (vE 9) (consA (aE g_l_take (consA (vE 3) (consA (aE lenD (consA (vE 4) nilA)) nilA))) nilA))))) nilA))))
  (seqS (stS 6 (b2E addD (vE 6) (aE lstD (consA (aE tupD (consA (vE 4) (consA (vE 5) (consA (vE 4) (consA (aE g_l_take (consA (vE 3) (consA (aE lenD (consA (vE 4) nilA)) nilA))) nilA))))) (consA (aE tupD (consA (vE 4) (consA (vE 5) (consA (vE 4) (consA (vE 5) nilA))))) nilA)))))
  (seqS (stS 7 (aE g_l_rejoined (consA (vE 3) (consA (vE 4) nilA))))
  (seqS (ifS (tB (aE g_l_is_web (consA (vE 7) nilA))) (exS (mE appendM (vE 6) (consA (aE tupD (consA (vE 9) (consA (b2E sbD (vE 10) (vE 5)) (consA (vE 7) (consA (vE 5) nilA))))) nilA))) nxS)
  Pr8))))
theorem pc8_ok {S : Sto} {w : Wb} {ns : List Nat} {b z a : Nat} {o0 o1 o2 o6 o7 o8 o11 o12 o13 o14 o15 o16 o17 : Option D} {Q : Out → Sto → Prop} (W : IsWeb w) (hp : PermOk w.length ns) (ha : a < w.length) (hb : Bx S b z) (hz : z < 200000)
    (q : ∀ (S' : Sto) (τ' : Tau), τ'.length = 18 → τ'[0]? = some o0 → τ'[1]? = some o1 → (∀ n, n < S.length → n ≠ b → S'[n]? = S[n]?) → Q (.nx τ') S') :
    Wp (Pc8 [o0, o1, o2, some (.loc b), some (wD w), some (nD a), o6, o7, o8, some (wD (renW w ns)), some (.tn (ns.map nD)), o11, o12, o13, o14, o15, o16, o17] S) Q := by
  unfold Pc8
  have hfew := W.few
  have hpos := W.pos
  have R := renW_ren hp
  have W1 := R.web W
  have hl1 := R.len
  have hbl := hb.lt
  have na := nu_lt hp ha
  have wg := fun {S : Sto} {Q : D → Sto → Prop} => wn_get (S := S) (Q := Q) (nu_at hp ha)
  have enx : ∀ n : Nat, nD n = D.int (n : Int) := fun _ => rfl
  (simp! only [enx, wg, len_w])
  refine take_ok hb (by omega) hpos (by omega) fun u S1 hu hb1 l1 f1 => ?_
  (simp! only [])
  have c1 : (S1 ++ [MO.lst [.tup [wD w, .int (a : Int), wD (renW w ns), .int (nu ns a : Int)], .tup [wD w, .int (a : Int), wD (renW w ns), .int (u : Int)]]])[S1.length]? = some (.lst ([(w, a, renW w ns, nu ns a), (w, a, renW w ns, u)].map cD8)) := sto_new
  have f2 : ∀ n, n < S1.length → (S1 ++ [MO.lst [.tup [wD w, .int (a : Int), wD (renW w ns), .int (nu ns a : Int)], .tup [wD w, .int (a : Int), wD (renW w ns), .int (u : Int)]]])[n]? = S1[n]? := fun n hn => sto_app hn
  have l2 : (S1 ++ [MO.lst [.tup [wD w, .int (a : Int), wD (renW w ns), .int (nu ns a : Int)], .tup [wD w, .int (a : Int), wD (renW w ns), .int (u : Int)]]]).length = S1.length + 1 := by simp
  generalize S1 ++ [MO.lst [.tup [wD w, .int (a : Int), wD (renW w ns), .int (nu ns a : Int)], .tup [wD w, .int (a : Int), wD (renW w ns), .int (u : Int)]]] = S2 at c1 f2 l2 ⊢
  have hb2 : Bx S2 b (z + 1) := hb1.of (f2 b hb1.lt)
  (simp! only [enx, len_w])
  refine take_ok hb2 (by omega) hpos (by omega) fun v S3 hv hb3 l3 f3 => ?_
  (simp! only [])
  have c3 : S3[S1.length]? = some (.lst ([(w, a, renW w ns, nu ns a), (w, a, renW w ns, u)].map cD8)) := by
    rw [f3 _ (by have := hb1.lt; omega)]; exact c1
  have c3' : (S3 ++ [MO.lst [.tup [wD w, .int (a : Int), wD w, .int (v : Int)], .tup [wD w, .int (a : Int), wD w, .int (a : Int)]]])[S1.length]? = some (.lst ([(w, a, renW w ns, nu ns a), (w, a, renW w ns, u)].map cD8)) := by rw [sto_app (by omega)]; exact c3
  have c4 : (S3 ++ [MO.lst [.tup [wD w, .int (a : Int), wD w, .int (v : Int)], .tup [wD w, .int (a : Int), wD w, .int (a : Int)]]])[S3.length]? = some (.lst ([(w, a, w, v), (w, a, w, a)].map cD8)) := sto_new
  have f4 : ∀ n, n < S3.length → (S3 ++ [MO.lst [.tup [wD w, .int (a : Int), wD w, .int (v : Int)], .tup [wD w, .int (a : Int), wD w, .int (a : Int)]]])[n]? = S3[n]? := fun n hn => sto_app hn
  have l4 : (S3 ++ [MO.lst [.tup [wD w, .int (a : Int), wD w, .int (v : Int)], .tup [wD w, .int (a : Int), wD w, .int (a : Int)]]]).length = S3.length + 1 := by simp
  generalize S3 ++ [MO.lst [.tup [wD w, .int (a : Int), wD w, .int (v : Int)], .tup [wD w, .int (a : Int), wD w, .int (a : Int)]]] = S4 at c3' c4 f4 l4 ⊢
  refine (wq_addLL c3' c4 (by simp)).mpr ?_
  rw [← List.map_append]
  have ok4 : ∀ c ∈ ([(w, a, renW w ns, nu ns a), (w, a, renW w ns, u)] ++ [(w, a, w, v), (w, a, w, a)] : List Case8), Ok8 c := fun c hc => by
    simp only [List.cons_append, List.nil_append, List.mem_cons, List.not_mem_nil, or_false] at hc
    rcases hc with rfl | rfl | rfl | rfl
    · exact ⟨W, W1, ha, by show nu ns a < (renW w ns).length; omega⟩
    · exact ⟨W, W1, ha, by show u < (renW w ns).length; omega⟩
    · exact ⟨W, W, ha, hv⟩
    · exact ⟨W, W, ha, ha⟩
  have cl : ([(w, a, renW w ns, nu ns a), (w, a, renW w ns, u)] ++ [(w, a, w, v), (w, a, w, a)] : List Case8).length ≤ 10 := by simp
  generalize ([(w, a, renW w ns, nu ns a), (w, a, renW w ns, u)] ++ [(w, a, w, v), (w, a, w, a)] : List Case8) = cs at ok4 cl ⊢
  have c5 : (S4 ++ [MO.lst (cs.map cD8)])[S4.length]? = some (.lst (cs.map cD8)) := sto_new
  have f5 : ∀ n, n < S4.length → (S4 ++ [MO.lst (cs.map cD8)])[n]? = S4[n]? := fun n hn => sto_app hn
  have l5 : (S4 ++ [MO.lst (cs.map cD8)]).length = S4.length + 1 := by simp
  generalize S4 ++ [MO.lst (cs.map cD8)] = S5 at c5 f5 l5 ⊢
  have hb5 : Bx S5 b (z + 2) := hb3.of (by have := hb3.lt; rw [f5 b (by omega), f4 b (by omega)])
  have fr5 : ∀ n, n < S.length → n ≠ b → S5[n]? = S[n]? := fun n hn hne => by rw [f5 n (by omega), f4 n (by omega), f3 n hne, f2 n (by omega)]; exact f1 n hne
  (simp! only [])
  refine l_rejoined_ok hb5 (by omega) W fun S6 J SJ hb6 fr6 => ?_
  have lJ := SJ.1
  have c6 : S6[S4.length]? = some (.lst (cs.map cD8)) := fr6.get (by have := hb3.lt; omega) c5
  have l6 := fr6.len
  (simp! only [])
  refine l_is_web_ok (by omega) (fun r => ?_) fun S7 bw hbw l7 f7 => ?_
  · rw [SJ.2 r]
    by_cases hr : r < w.length
    · have := W.doors _ _ (row_at hr); omega
    · rw [rowD_none hr]; simp
  have c7 : S7[S4.length]? = some (.lst (cs.map cD8)) := by rw [f7 _ (sto_lt c6)]; exact c6
  have hb7 : Bx S7 b (z + 2 + 10) := hb6.of (f7 b hb6.lt)
  have fr7 : ∀ n, n < S.length → n ≠ b → S7[n]? = S[n]? := fun n hn hne => by rw [f7 n (by omega), fr6.at_ n (by omega) hne]; exact fr5 n hn hne
  -- the rest, with whatever list of cases
  have rest : ∀ (S8 : Sto) (cs : List Case8), (∀ c ∈ cs, Ok8 c) → cs.length ≤ 20 → S8[S4.length]? = some (.lst (cs.map cD8)) → Bx S8 b (z + 2 + 10) → S.length ≤ S8.length → (∀ n, n < S.length → n ≠ b → S8[n]? = S[n]?) →
      Wp (Pr8 [o0, o1, o2, some (.loc b), some (wD w), some (.int (a : Int)), some (.loc S4.length), some (wD J), o8, some (wD (renW w ns)), some (.tn (ns.map nD)), o11, o12, o13, o14, o15, o16, o17] S8) Q := by
    intro S8 cs ok8 cl8 c8 hb8 l8 fr8
    unfold Pr8
    have hs4b : S4.length ≠ b := by have := hb3.lt; omega
    (simp! only [])
    refine any_web_okN hb8 (by omega) fun S9 w2 W2 hb9 fr9 => ?_
    have c9 : S9[S4.length]? = some (.lst (cs.map cD8)) := fr9.get hs4b c8
    have hp2 := W2.pos
    have hf2 := W2.few
    (simp! only [len_w])
    refine ⟨isLst_loc c9, ?_⟩
    refine take_ok hb9 (by omega) hp2 (by omega) fun t S10 ht hb10 l10 f10 => ?_
    have c10 : S10[S4.length]? = some (.lst (cs.map cD8)) := (f10 _ hs4b).trans c9
    (simp! only [])
    refine (wq_append c10).mpr ⟨by rw [List.length_map]; omega, ?_⟩
    have c11 : (S10.set S4.length (.lst (cs.map cD8 ++ [.tup [wD w2, .int (t : Int), wD w, .int (a : Int)]])))[S4.length]? = some (.lst ((cs ++ [(w2, t, w, a)]).map cD8)) := by rw [sto_set c10, List.map_append]; rfl
    refine ev8_ok c11 (fun c hc => ?_) fun S12 o11 o12 o13 o14 o15 o16 o17 l12 f12 => ?_
    · rcases List.mem_append.mp hc with hc | hc
      · exact ok8 c hc
      · rw [List.mem_singleton.mp hc]
        exact ⟨W2, W, ht, ha⟩
    · refine q S12 _ rfl rfl rfl fun n hn hne => ?_
      have l9 := fr9.len
      rw [f12 n (by simp; omega), sto_ne (by omega), f10 n hne, fr9.at_ n (by omega) hne]; exact fr8 n hn hne
  refine ⟨bw, rfl, ?_⟩
  by_cases hw : bw = true
  · rw [if_pos hw]
    have WJ : IsWeb J := webP_web (hbw.mp hw) (by omega) fun r x hx => by
      have e1 := SJ.2 r
      rw [rowD_of hx] at e1
      rw [e1]
      by_cases hr : r < w.length
      · exact W.doors _ _ (row_at hr)
      · rw [rowD_none hr]; simp
    (simp! only [wg])
    refine ⟨isLst_loc c7, ?_⟩
    refine (wq_append c7).mpr ⟨by rw [List.length_map]; omega, ?_⟩
    have c8 : (S7.set S4.length (.lst (cs.map cD8 ++ [.tup [wD (renW w ns), .int (nu ns a : Int), wD J, .int (a : Int)]])))[S4.length]? = some (.lst ((cs ++ [(renW w ns, nu ns a, J, a)]).map cD8)) := by rw [sto_set c7, List.map_append]; rfl
    have hs4b : S4.length ≠ b := by have := hb3.lt; omega
    refine rest _ (cs ++ [(renW w ns, nu ns a, J, a)]) (fun c hc => ?_) (by simp; omega) c8 (hb7.of (sto_ne hs4b)) (by simp; omega) fun n hn hne => by rw [sto_ne (by omega)]; exact fr7 n hn hne
    rcases List.mem_append.mp hc with hc | hc
    · exact ok4 c hc
    · rw [List.mem_singleton.mp hc]
      exact ⟨W1, WJ, by show nu ns a < (renW w ns).length; omega, by show a < J.length; omega⟩
  · rw [if_neg hw]
    (simp! only [])
    exact rest _ cs ok4 (by omega) c7 hb7 (by omega) fr7
end SW
namespace SW
open PySem L2

/-! k08: the law -/
theorem len18 {τ : Tau} {a b : Option D} (h : τ.length = 18) (h0 : τ[0]? = some a) (h1 : τ[1]? = some b) : ∃ o2 o3 o4 o5 o6 o7 o8 o9 o10 o11 o12 o13 o14 o15 o16 o17 : Option D, τ = [a, b, o2, o3, o4, o5, o6, o7, o8, o9, o10, o11, o12, o13, o14, o15, o16, o17] := by
  match τ, h with
  | [x0, x1, x2, x3, x4, x5, x6, x7, x8, x9, x10, x11, x12, x13, x14, x15, x16, x17], _ =>
    simp at h0 h1
    subst h0 h1
    exact ⟨_, _, _, _, _, _, _, _, _, _, _, _, _, _, _, _, rfl⟩
def O08 (fl : Option D) (c : Nat) (cs : List Int) (k : Nat) (τ : Tau) (S : Sto) : Prop := ∃ o2 o3 o4 o5 o6 o7 o8 o9 o10 o11 o12 o13 o14 o15 o16 o17 : Option D, τ = [fl, some (.loc c), o2, o3, o4, o5, o6, o7, o8, o9, o10, o11, o12, o13, o14, o15, o16, o17] ∧ S[c]? = some (.lst (cs.map D.int))
theorem law_true (ns : List Int) (hns : ns.length ≤ 63) : ∃ S', g_law_v85 [.fl (ns.map D.int)] [] = some (.bl true, S') := by
  have main : Wp (g_law_v85 [.fl (ns.map D.int)] []) fun d _ => d = .bl true := by
    unfold g_law_v85
    refine (wp_fnD (by rfl)).mpr ?_
    show Wp (seqS (stS 1 (aE g_l_folded (consA (vE 0) (consA (cE (.int 12)) nilA))))
      (seqS (forS (rgI1 (aE max2D (consA (cE (.int 3)) (consA (aE lenD (consA (vE 1) nilA)) nilA)))) (.nm 2) (seqS (stS 3 (aE g_l_box (consA (vE 1) (consA (vE 2) nilA))))
      (seqS (stS 4 (aE g_l_any_web_v4 (consA (vE 3) nilA)))
      (seqS (asS (aE g_l_renamed_v3 (consA (vE 3) (consA (vE 4) nilA))) (patG (.tp [(.nm 9), (.nm 10)])))
      (seqS (stS 5 (aE g_l_take (consA (vE 3) (consA (aE lenD (consA (vE 4) nilA)) nilA)))) Pc8)))))
      (rtS (cE (.bl true)))) _ _) _
    have n12 : (12 : Int) = ((12 : Nat) : Int) := rfl
    (simp! only [])
    rw [n12]
    refine folded_ok (by omega) (by omega) hns fun c S1 cs hc hcl hcn hf1 => ?_
    have hcl2 : cs.length ≤ 12 := by rw [hcl]; omega
    (simp! only [len_loc hc, List.length_map])
    have hm : ∃ m : Nat, (if ((cs.length : Nat) : Int) > 3 then ((cs.length : Nat) : Int) else 3) = (m : Int) ∧ m ≤ 16 := by
      by_cases h : ((cs.length : Nat) : Int) > 3
      · exact ⟨cs.length, by rw [if_pos h], by omega⟩
      · exact ⟨3, by rw [if_neg h]; rfl, by omega⟩
    obtain ⟨m, hm, hm16⟩ := hm
    rw [hm]
    refine ⟨by simp [big62]; omega, ?_⟩
    rw [Int.toNat_natCast]
    refine lo_rng 0 m (O08 (some (.fl (ns.map D.int))) c cs) ⟨_, _, _, _, _, _, _, _, _, _, _, _, _, _, _, _, rfl, hc⟩ ?_ ?_
    · rintro k τ S2 hk ⟨o2, o3, o4, o5, o6, o7, o8, o9, o10, o11, o12, o13, o14, o15, o16, o17, rfl, hc⟩
      have e0 : ((0 : Int) + (k : Int)) = (k : Int) := by omega
      rw [e0]
      refine ⟨_, pb_nm, ?_⟩
      (simp! only [])
      refine box_ok hc (by omega) (by omega) fun n S3 hb3 hn3 l3 f3 => ?_
      have hc3 : S3[c]? = some (.lst (cs.map D.int)) := (f3 c (sto_lt hc)).trans hc
      have hcn : c ≠ n := by have := sto_lt hc; omega
      (simp! only [])
      refine any_web_okN hb3 (by omega) fun S4 w W hb4 fr4 => ?_
      have hc4 : S4[c]? = some (.lst (cs.map D.int)) := fr4.get hcn hc3
      have hfew := W.few
      have hpos := W.pos
      (simp! only [])
      refine l_renamed_okN hb4 (by omega) W fun S5 nu1 hp hb5 fr5 => ?_
      have hc5 := fr5.get hcn hc4
      (simp! only [len_w])
      refine take_ok hb5 (by omega) hpos (by omega) fun a S6 ha hb6 l6 f6 => ?_
      have hc6 : S6[c]? = some (.lst (cs.map D.int)) := (f6 c hcn).trans hc5
      refine pc8_ok W hp ha hb6 (by omega) fun S7 τ' h18 h0 h1 f7 => ?_
      obtain ⟨p2, p3, p4, p5, p6, p7, p8, p9, p10, p11, p12, p13, p14, p15, p16, p17, rfl⟩ := len18 h18 h0 h1
      exact ⟨_, _, _, _, _, _, _, _, _, _, _, _, _, _, _, _, rfl, by rw [f7 c (sto_lt hc6) hcn]; exact hc6⟩
    · rintro τ S2 ⟨o2, o3, o4, o5, o6, o7, o8, o9, o10, o11, o12, o13, o14, o15, o16, o17, rfl, hc⟩
      (simp! only [])
  obtain ⟨d, S', e, rfl⟩ := main
  exact ⟨S', e⟩
end SW
namespace SW
open PySem L2
section
variable {P : Program} {w : World} {K : PySem.W.Frag} {mg : Str → Option Value} {base : Heap}
def top (i : Nat) : Stmt := PySem.Challenge.pw_stonewalker_k08_same_webs.main.body.getD i (.Pass ⟨0, 0, 0, 0⟩)
/-! _law_folded -/
abbrev s_l_folded : Stmt := top 9
abbrev N_l_folded : List Str := ["_law_script", "_law_many", "_law_cells", "_law_k", "_law_cell"]
theorem sc_l_folded : FnScope N_l_folded ["_law_script", "_law_many"] (defScope s_l_folded) := ⟨rfl, rfl, rfl, by decide +kernel, rfl, by decide +kernel, by decide +kernel⟩
theorem ok_l_folded {f : Addr} {fd : FuncData} (B : Bi mg) (F : Fun K "_law_folded" "_law_folded" s_l_folded f fd)  : FnOk P w K mg base CX0 1 f fd ["_law_script", "_law_many"] (spE K g_l_folded) := by
  have h : ∃ b, FnOk P w K mg base CX0 1 f fd ["_law_script", "_law_many"] (spE K (fnD 2 5 b)) ∧ b = b_l_folded := ⟨_, fn_mk F sc_l_folded fun cdv A outer s H E hc =>
    (ess_cons (es_set (i := 2) sc_l_folded.nd rfl (by first | exact Or.inl rfl | exact Or.inr rfl) (ee_ct call_list_of opa_list rfl B.n_list (by decide +kernel) (ea_cons (ee_slice (ee_v 0 (pv 0)) eo_none (eo_some (ee_v 1 (pv 1)))) ea_nil)))
  (ess_cons (es_for PassesOwn.never rfl (ei_enum rfl B.n_enumerate (ee_slice (ee_v 0 (pv 0)) (eo_some (ee_v 1 (pv 1))) (eo_some ee_int))) (eg_tp rfl (egs_cons (eg_nm (pg_name (i := 3) sc_l_folded.nd rfl (by first | exact Or.inl rfl | exact Or.inr rfl))) (egs_cons (eg_nm (pg_name (i := 4) sc_l_folded.nd rfl (by first | exact Or.inl rfl | exact Or.inr rfl))) egs_nil))) (ess_one (es_asg (ee_op opr_add op2_add (ee_sub hc (ee_v 2 (pv 2)) (ee_op op_modN op2_mod (ee_v 3 (pv 3)) (ee_v 1 (pv 1)))) (ee_op opr_mul op2_mul (ee_v 4 (pv 4)) (ee_op opr_add op2_add (ee_v 3 (pv 3)) ee_int))) (eG_sub hc (ee_v 2 (pv 2)) (ee_op op_modN op2_mod (ee_v 3 (pv 3)) (ee_v 1 (pv 1)))))))
  (ess_one (es_ret (ee_v 2 (pv 2)))))), rfl⟩
  obtain ⟨_, h, rfl⟩ := h
  exact h
theorem cal_l_folded (B : Bi mg) (D : DefAt K mg "_law_folded" s_l_folded ["_law_script", "_law_many"])  : Cal P w K mg base 1 "_law_folded" g_l_folded :=
  let ⟨f, fd, F, hm, hb⟩ := D.ex
  ⟨f, fd, ["_law_script", "_law_many"], ok_l_folded B F , hm, F.kp, hb⟩
/-! _law_box -/
abbrev s_l_box : Stmt := top 7
abbrev N_l_box : List Str := ["_law_script", "_law_k", "_law_cell"]
theorem sc_l_box : FnScope N_l_box ["_law_script", "_law_k"] (defScope s_l_box) := ⟨rfl, rfl, rfl, by decide +kernel, rfl, by decide +kernel, by decide +kernel⟩
theorem ok_l_box {f : Addr} {fd : FuncData} (B : Bi mg) (F : Fun K "_law_box" "_law_box" s_l_box f fd)  : FnOk P w K mg base CX0 1 f fd ["_law_script", "_law_k"] (spE K g_l_box) := by
  have h : ∃ b, FnOk P w K mg base CX0 1 f fd ["_law_script", "_law_k"] (spE K (fnD 2 3 b)) ∧ b = b_l_box := ⟨_, fn_mk F sc_l_box fun cdv A outer s H E hc =>
    (ess_cons (es_set (i := 2) sc_l_box.nd rfl (by first | exact Or.inl rfl | exact Or.inr rfl) (ee_sub hc (ee_op opr_add op2_add (ee_v 0 (pv 0)) (ee_op opr_mul op2_mul (ee_lst (ea_cons ee_int ea_nil)) (ee_op opr_add op2_add (ee_v 1 (pv 1)) ee_int))) (ee_v 1 (pv 1))))
  (ess_one (es_ret (ee_lst (ea_cons (ee_op opr_mul op2_mul (ee_cb call_abs opa_abs rfl B.n_abs (by decide +kernel) (ea_cons (ee_v 2 (pv 2)) ea_nil)) (ee_ct call_int1 opa_int rfl B.n_int (by decide +kernel) (ea_cons (ee_cmp op_ge op2_ge (ee_cb call_abs opa_abs rfl B.n_abs (by decide +kernel) (ea_cons (ee_v 2 (pv 2)) ea_nil)) (ee_op op_pow op2_pow ee_int ee_int) (nomark _)) ea_nil))) (ea_cons (ee_op op_modN op2_mod (ee_op opr_mul op2_mul (ee_op opr_add op2_add (ee_op opr_add op2_add (ee_op op_modN op2_mod (ee_v 2 (pv 2)) ee_int) (ee_op opr_mul op2_mul ee_int (ee_v 1 (pv 1)))) ee_int) ee_int) ee_int) (ea_cons ee_int ea_nil))))))), rfl⟩
  obtain ⟨_, h, rfl⟩ := h
  exact h
theorem cal_l_box (B : Bi mg) (D : DefAt K mg "_law_box" s_l_box ["_law_script", "_law_k"])  : Cal P w K mg base 1 "_law_box" g_l_box :=
  let ⟨f, fd, F, hm, hb⟩ := D.ex
  ⟨f, fd, ["_law_script", "_law_k"], ok_l_box B F , hm, F.kp, hb⟩
/-! _law_take -/
abbrev s_l_take : Stmt := top 8
abbrev N_l_take : List Str := ["_law_box_here", "_law_many", "_law_once", "_law_found"]
theorem sc_l_take : FnScope N_l_take ["_law_box_here", "_law_many"] (defScope s_l_take) := ⟨rfl, rfl, rfl, by decide +kernel, rfl, by decide +kernel, by decide +kernel⟩
theorem ok_l_take {f : Addr} {fd : FuncData} (B : Bi mg) (F : Fun K "_law_take" "_law_take" s_l_take f fd)  : FnOk P w K mg base CX0 1 f fd ["_law_box_here", "_law_many"] (spE K g_l_take) := by
  have h : ∃ b, FnOk P w K mg base CX0 1 f fd ["_law_box_here", "_law_many"] (spE K (fnD 2 4 b)) ∧ b = b_l_take := ⟨_, fn_mk F sc_l_take fun cdv A outer s H E hc =>
    (ess_cons (es_if (et_cmp op_gt op2_gt (ee_sub hc (ee_v 0 (pv 0)) ee_int) ee_int (nomark _)) (ess_cons (es_asg (ee_cb call_divmod opa_divmod rfl B.n_divmod (by decide +kernel) (ea_cons (ee_sub hc (ee_v 0 (pv 0)) ee_int) (ea_cons (ee_v 1 (pv 1)) ea_nil))) (eG_tup (n := 2) rfl (eGs_cons (eG_sub hc (ee_v 0 (pv 0)) ee_int) (eGs_cons (eG_pat (eg_nm (pg_name (i := 3) sc_l_take.nd rfl (by first | exact Or.inl rfl | exact Or.inr rfl)))) eGs_nil)) (len_consG (len_consG len_nilG))))
  (ess_one (es_ret (ee_v 3 (pv 3))))) ess_nil)
  (ess_cons (es_asg (ee_op opr_add op2_add (ee_sub hc (ee_v 0 (pv 0)) ee_int) ee_int) (eG_sub hc (ee_v 0 (pv 0)) ee_int))
  (ess_cons (es_set (i := 2) sc_l_take.nd rfl (by first | exact Or.inl rfl | exact Or.inr rfl) (ee_op op_modN op2_mod (ee_op opr_mul op2_mul (ee_op opr_add op2_add (ee_sub hc (ee_v 0 (pv 0)) ee_int) (ee_op opr_mul op2_mul ee_int (ee_sub hc (ee_v 0 (pv 0)) ee_int))) (ee_op opr_add op2_add ee_int (ee_sub hc (ee_v 0 (pv 0)) ee_int))) ee_int))
  (ess_cons (es_asg (ee_op op_modN op2_mod (ee_op opr_add op2_add (ee_op opr_mul op2_mul (ee_v 2 (pv 2)) (ee_op opr_add op2_add (ee_op op_modN op2_mod (ee_v 2 (pv 2)) ee_int) ee_int)) (ee_sub hc (ee_v 0 (pv 0)) ee_int)) ee_int) (eG_sub hc (ee_v 0 (pv 0)) ee_int))
  (ess_one (es_ret (ee_op op_modN op2_mod (ee_op op_fdiv op2_fdiv (ee_op op_modN op2_mod (ee_op opr_mul op2_mul (ee_sub hc (ee_v 0 (pv 0)) ee_int) (ee_op opr_add op2_add (ee_op op_modN op2_mod (ee_sub hc (ee_v 0 (pv 0)) ee_int) ee_int) ee_int)) ee_int) ee_int) (ee_v 1 (pv 1))))))))), rfl⟩
  obtain ⟨_, h, rfl⟩ := h
  exact h
theorem cal_l_take (B : Bi mg) (D : DefAt K mg "_law_take" s_l_take ["_law_box_here", "_law_many"])  : Cal P w K mg base 1 "_law_take" g_l_take :=
  let ⟨f, fd, F, hm, hb⟩ := D.ex
  ⟨f, fd, ["_law_box_here", "_law_many"], ok_l_take B F , hm, F.kp, hb⟩
/-! _law_joined -/
abbrev s_l_joined : Stmt := top 10
abbrev N_l_joined : List Str := ["_law_halves", "_law_at", "_law_room", "_law_web_here", "_law_doors", "_law_door", "_law_half", "_law_tie", "_law_side"]
theorem sc_l_joined : FnScope N_l_joined ["_law_halves"] (defScope s_l_joined) := ⟨rfl, rfl, rfl, by decide +kernel, rfl, by decide +kernel, by decide +kernel⟩
theorem ok_l_joined {f : Addr} {fd : FuncData} (B : Bi mg) (F : Fun K "_law_joined" "_law_joined" s_l_joined f fd)  : FnOk P w K mg base CX0 1 f fd ["_law_halves"] (spE K g_l_joined) := by
  have h : ∃ b, FnOk P w K mg base CX0 1 f fd ["_law_halves"] (spE K (fnD 1 9 b)) ∧ b = b_l_joined := ⟨_, fn_mk F sc_l_joined fun cdv A outer s H E hc =>
    (ess_cons (es_set (i := 1) sc_l_joined.nd rfl (by first | exact Or.inl rfl | exact Or.inr rfl) ee_nT)
  (ess_cons (es_for PassesOwn.never rfl (ei_range1 rfl B.n_range (ee_cb opr_len opa_len rfl B.n_len (by decide +kernel) (ea_cons (ee_v 0 (pv 0)) ea_nil))) (eg_nm (pg_name (i := 2) sc_l_joined.nd rfl (by first | exact Or.inl rfl | exact Or.inr rfl))) (ess_one (es_for PassesOwn.never rfl (ei_enum rfl B.n_enumerate (ee_sub hc (ee_v 0 (pv 0)) (ee_v 2 (pv 2)))) (eg_tp rfl (egs_cons (eg_nm (pg_name (i := 5) sc_l_joined.nd rfl (by first | exact Or.inl rfl | exact Or.inr rfl))) (egs_cons (eg_nm (pg_name (i := 6) sc_l_joined.nd rfl (by first | exact Or.inl rfl | exact Or.inr rfl))) egs_nil))) (ess_one (es_asg (ee_tup (ea_cons (ee_v 2 (pv 2)) (ea_cons (ee_v 5 (pv 5)) ea_nil))) (eG_sub hc (ee_v 1 (pv 1)) (ee_v 6 (pv 6))))))))
  (ess_cons (es_set (i := 3) sc_l_joined.nd rfl (by first | exact Or.inl rfl | exact Or.inr rfl) (ee_lst ea_nil))
  (ess_cons (es_for PassesOwn.never rfl (ei_seq (ee_v 0 (pv 0))) (eg_nm (pg_name (i := 4) sc_l_joined.nd rfl (by first | exact Or.inl rfl | exact Or.inr rfl))) (ess_one (es_expr (ee_m (pe_bm PySem.F.plainAttrs_list PySem.F.slot_list_append PySem.F.type_list_append mt_append (ee_v 3 (pv 3)) (ea_cons (ee_ct call_tuple_of opa_tuple rfl B.n_tuple (by decide +kernel) (ea_cons (ee_lc (own := [("_law_tie", 7), ("_law_side", 8)]) rfl sc_l_joined.nd (ei_seq (ee_v 4 (pv 4))) (blkOk_by (N := N_l_joined) (sc := defScope s_l_joined) (by decide +kernel)) (by decide) (fun _ _ _ _ _ => (eg_tp rfl (egs_cons (eg_nm (pg_name (i := 7) sc_l_joined.nd rfl (by first | exact Or.inl rfl | exact Or.inr rfl))) (egs_cons (eg_nm (pg_name (i := 8) sc_l_joined.nd rfl (by first | exact Or.inl rfl | exact Or.inr rfl))) egs_nil)))) (fun _ _ _ _ _ => et_yes) (fun _ _ _ _ _ => (ee_sub hc.blk (ee_v 1 (pv 1)) (ee_tup (ea_cons (ee_v 7 (pv 7)) (ea_cons (ee_sub hc.blk (ee_lst (ea_cons ee_int (ea_cons ee_int (ea_cons ee_int ea_nil)))) (ee_v 8 (pv 8))) ea_nil)))))) ea_nil)) ea_nil)) opm_append))))
  (ess_one (es_ret (ee_ct call_tuple_of opa_tuple rfl B.n_tuple (by decide +kernel) (ea_cons (ee_v 3 (pv 3)) ea_nil)))))))), rfl⟩
  obtain ⟨_, h, rfl⟩ := h
  exact h
theorem cal_l_joined (B : Bi mg) (D : DefAt K mg "_law_joined" s_l_joined ["_law_halves"])  : Cal P w K mg base 1 "_law_joined" g_l_joined :=
  let ⟨f, fd, F, hm, hb⟩ := D.ex
  ⟨f, fd, ["_law_halves"], ok_l_joined B F , hm, F.kp, hb⟩
/-! _law_doors_put -/
abbrev s_l_doors_put : Stmt := top 11
abbrev N_l_doors_put : List Str := ["_law_box_here", "_law_pairs", "_law_many", "_law_halves", "_law_tie", "_law_sides", "_law_room", "_law_one", "_law_other", "_law_side"]
theorem sc_l_doors_put : FnScope N_l_doors_put ["_law_box_here", "_law_pairs", "_law_many"] (defScope s_l_doors_put) := ⟨rfl, rfl, rfl, by decide +kernel, rfl, by decide +kernel, by decide +kernel⟩
theorem ok_l_doors_put {f : Addr} {fd : FuncData} (B : Bi mg) (F : Fun K "_law_doors_put" "_law_doors_put" s_l_doors_put f fd) (c_l_take : Cal P w K mg base 1 "_law_take" g_l_take) (c_l_joined : Cal P w K mg base 1 "_law_joined" g_l_joined) : FnOk P w K mg base CX0 2 f fd ["_law_box_here", "_law_pairs", "_law_many"] (spE K g_l_doors_put) := by
  have h : ∃ b, FnOk P w K mg base CX0 2 f fd ["_law_box_here", "_law_pairs", "_law_many"] (spE K (fnD 3 10 b)) ∧ b = b_l_doors_put := ⟨_, fn_mk F sc_l_doors_put fun cdv A outer s H E hc =>
    (ess_cons (es_setLc (i := 3) (own := [("_law_room", 6)]) rfl sc_l_doors_put.nd rfl rfl (sw_true rfl rfl rfl (by decide +kernel)) (ei_range1 rfl B.n_range (ee_v 2 (pv 2))) (blkOk_by (N := N_l_doors_put) (sc := defScope s_l_doors_put) (by decide +kernel)) (by decide) (fun _ _ _ _ _ => (eg_nm (pg_name (i := 6) sc_l_doors_put.nd rfl (by first | exact Or.inl rfl | exact Or.inr rfl)))) (fun _ _ _ _ _ => et_yes) (fun _ _ _ _ _ => (ee_lst ea_nil)))
  (ess_cons (es_for PassesOwn.never rfl (ei_enum rfl B.n_enumerate (ee_v 1 (pv 1))) (eg_tp rfl (egs_cons (eg_nm (pg_name (i := 4) sc_l_doors_put.nd rfl (by first | exact Or.inl rfl | exact Or.inr rfl))) (egs_cons (eg_tp rfl (egs_cons (eg_nm (pg_name (i := 7) sc_l_doors_put.nd rfl (by first | exact Or.inl rfl | exact Or.inr rfl))) (egs_cons (eg_nm (pg_name (i := 8) sc_l_doors_put.nd rfl (by first | exact Or.inl rfl | exact Or.inr rfl))) egs_nil))) egs_nil))) (ess_cons (es_set (i := 5) sc_l_doors_put.nd rfl (by first | exact Or.inl rfl | exact Or.inr rfl) (ee_ite (et_cmp (op_eqD hc.room.units) op2_eq (ee_v 8 (pv 8)) (ee_v 2 (pv 2)) (nomark _)) (ee_lst (ea_cons (ee_tup (ea_cons (ee_v 7 (pv 7)) (ea_cons ee_int ea_nil))) ea_nil)) (ee_lst (ea_cons (ee_tup (ea_cons (ee_v 7 (pv 7)) (ea_cons ee_int ea_nil))) (ea_cons (ee_tup (ea_cons (ee_v 8 (pv 8)) (ea_cons ee_int ea_nil))) ea_nil)))))
  (ess_one (es_for PassesOwn.never rfl (ei_seq (ee_v 5 (pv 5))) (eg_tp rfl (egs_cons (eg_nm (pg_name (i := 6) sc_l_doors_put.nd rfl (by first | exact Or.inl rfl | exact Or.inr rfl))) (egs_cons (eg_nm (pg_name (i := 9) sc_l_doors_put.nd rfl (by first | exact Or.inl rfl | exact Or.inr rfl))) egs_nil))) (ess_one (es_expr (ee_m (pe_bm PySem.F.plainAttrs_list PySem.F.slot_list_insert PySem.F.type_list_insert mt_insert (ee_sub hc (ee_v 3 (pv 3)) (ee_v 6 (pv 6))) (ea_cons (ee_call c_l_take hc (by omega) rfl (ea_cons (ee_v 0 (pv 0)) (ea_cons (ee_op opr_add op2_add (ee_cb opr_len opa_len rfl B.n_len (by decide +kernel) (ea_cons (ee_sub hc (ee_v 3 (pv 3)) (ee_v 6 (pv 6))) ea_nil)) ee_int) ea_nil))) (ea_cons (ee_tup (ea_cons (ee_v 4 (pv 4)) (ea_cons (ee_v 9 (pv 9)) ea_nil))) ea_nil))) opm_insert)))))))
  (ess_one (es_ret (ee_call c_l_joined hc (by omega) rfl (ea_cons (ee_v 3 (pv 3)) ea_nil)))))), rfl⟩
  obtain ⟨_, h, rfl⟩ := h
  exact h
theorem cal_l_doors_put (B : Bi mg) (D : DefAt K mg "_law_doors_put" s_l_doors_put ["_law_box_here", "_law_pairs", "_law_many"]) (c_l_take : Cal P w K mg base 1 "_law_take" g_l_take) (c_l_joined : Cal P w K mg base 1 "_law_joined" g_l_joined) : Cal P w K mg base 2 "_law_doors_put" g_l_doors_put :=
  let ⟨f, fd, F, hm, hb⟩ := D.ex
  ⟨f, fd, ["_law_box_here", "_law_pairs", "_law_many"], ok_l_doors_put B F c_l_take c_l_joined, hm, F.kp, hb⟩
/-! _law_web -/
abbrev s_l_web : Stmt := top 12
abbrev N_l_web : List Str := ["_law_box_here", "_law_many", "_law_most", "_law_used", "_law_pairs", "_law_room", "_law_turn_here", "_law_free", "_law_end", "_law_pair", "_law_ends_here", "_law_one"]
theorem sc_l_web : FnScope N_l_web ["_law_box_here", "_law_many", "_law_most"] (defScope s_l_web) := ⟨rfl, rfl, rfl, by decide +kernel, rfl, by decide +kernel, by decide +kernel⟩
theorem ok_l_web {f : Addr} {fd : FuncData} (B : Bi mg) (F : Fun K "_law_web" "_law_web" s_l_web f fd) (c_l_take : Cal P w K mg base 1 "_law_take" g_l_take) (c_l_doors_put : Cal P w K mg base 2 "_law_doors_put" g_l_doors_put) : FnOk P w K mg base CX0 3 f fd ["_law_box_here", "_law_many", "_law_most"] (spE K g_l_web) := by
  have h : ∃ b, FnOk P w K mg base CX0 3 f fd ["_law_box_here", "_law_many", "_law_most"] (spE K (fnD 3 12 b)) ∧ b = b_l_web := ⟨_, fn_mk F sc_l_web fun cdv A outer s H E hc =>
    (ess_cons (es_set (i := 3) sc_l_web.nd rfl (by first | exact Or.inl rfl | exact Or.inr rfl) (ee_op opr_mul op2_mul (ee_lst (ea_cons ee_int ea_nil)) (ee_v 1 (pv 1))))
  (ess_cons (es_set (i := 4) sc_l_web.nd rfl (by first | exact Or.inl rfl | exact Or.inr rfl) (ee_lst ea_nil))
  (ess_cons (es_for PassesOwn.never rfl (ei_range2 rfl B.n_range ee_int (ee_v 1 (pv 1)) (fun h => pi_range2 rfl B.n_range h)) (eg_nm (pg_name (i := 5) sc_l_web.nd rfl (by first | exact Or.inl rfl | exact Or.inr rfl))) (ess_cons (es_setLc (i := 7) (own := [("_law_one", 11)]) rfl sc_l_web.nd rfl rfl (sw_true rfl rfl rfl (by decide +kernel)) (ei_range1 rfl B.n_range (ee_v 5 (pv 5))) (blkOk_by (N := N_l_web) (sc := defScope s_l_web) (by decide +kernel)) (by decide) (fun _ _ _ _ _ => (eg_nm (pg_name (i := 11) sc_l_web.nd rfl (by first | exact Or.inl rfl | exact Or.inr rfl)))) (fun _ _ _ _ _ => (et_one (et_cmp (opr_lt hc.blk) op2_lt (ee_sub hc.blk (ee_v 3 (pv 3)) (ee_v 11 (pv 11))) (ee_v 2 (pv 2)) (nomark _)))) (fun _ _ _ _ _ => (ee_v 11 (pv 11))))
  (ess_cons (es_expr (ee_m (pe_bm PySem.F.plainAttrs_list PySem.F.slot_list_append PySem.F.type_list_append mt_append (ee_v 4 (pv 4)) (ea_cons (ee_tup (ea_cons (ee_sub hc (ee_v 7 (pv 7)) (ee_call c_l_take hc (by omega) rfl (ea_cons (ee_v 0 (pv 0)) (ea_cons (ee_cb opr_len opa_len rfl B.n_len (by decide +kernel) (ea_cons (ee_v 7 (pv 7)) ea_nil)) ea_nil)))) (ea_cons (ee_v 5 (pv 5)) ea_nil))) ea_nil)) opm_append))
  (ess_one (es_for PassesOwn.never rfl (ei_seq (ee_sub hc (ee_v 4 (pv 4)) (ee_un un_neg op1_neg ee_int))) (eg_nm (pg_name (i := 8) sc_l_web.nd rfl (by first | exact Or.inl rfl | exact Or.inr rfl))) (ess_one (es_asg (ee_op opr_add op2_add (ee_sub hc (ee_v 3 (pv 3)) (ee_v 8 (pv 8))) ee_int) (eG_sub hc (ee_v 3 (pv 3)) (ee_v 8 (pv 8))))))))))
  (ess_cons (es_for PassesOwn.never rfl (ei_range1 rfl B.n_range (ee_call c_l_take hc (by omega) rfl (ea_cons (ee_v 0 (pv 0)) (ea_cons (ee_op opr_add op2_add (ee_v 1 (pv 1)) ee_int) ea_nil)))) (eg_nm (pg_name (i := 6) sc_l_web.nd rfl (by first | exact Or.inl rfl | exact Or.inr rfl))) (ess_cons (es_set (i := 9) sc_l_web.nd rfl (by first | exact Or.inl rfl | exact Or.inr rfl) (ee_tup (ea_cons (ee_call c_l_take hc (by omega) rfl (ea_cons (ee_v 0 (pv 0)) (ea_cons (ee_v 1 (pv 1)) ea_nil))) (ea_cons (ee_call c_l_take hc (by omega) rfl (ea_cons (ee_v 0 (pv 0)) (ea_cons (ee_op opr_add op2_add (ee_v 1 (pv 1)) ee_int) ea_nil))) ea_nil))))
  (ess_cons (es_set (i := 10) sc_l_web.nd rfl (by first | exact Or.inl rfl | exact Or.inr rfl) (ee_lc (own := [("_law_end", 8)]) rfl sc_l_web.nd (ei_seq (ee_v 9 (pv 9))) (blkOk_by (N := N_l_web) (sc := defScope s_l_web) (by decide +kernel)) (by decide) (fun _ _ _ _ _ => (eg_nm (pg_name (i := 8) sc_l_web.nd rfl (by first | exact Or.inl rfl | exact Or.inr rfl)))) (fun _ _ _ _ _ => (et_one (et_cmp (opr_lt hc.blk) op2_lt (ee_v 8 (pv 8)) (ee_v 1 (pv 1)) (nomark _)))) (fun _ _ _ _ _ => (ee_v 8 (pv 8)))))
  (ess_one (es_if (et_val (ee_cb (cr_all rfl) opa_all rfl B.n_all (by decide +kernel) (ea_cons (ee_lc (own := [("_law_end", 8)]) rfl sc_l_web.nd (ei_seq (ee_v 10 (pv 10))) (blkOk_by (N := N_l_web) (sc := defScope s_l_web) (by decide +kernel)) (by decide) (fun _ _ _ _ _ => (eg_nm (pg_name (i := 8) sc_l_web.nd rfl (by first | exact Or.inl rfl | exact Or.inr rfl)))) (fun _ _ _ _ _ => et_yes) (fun _ _ _ _ _ => (ee_cmp (opr_le hc.blk) op2_le (ee_op opr_add op2_add (ee_sub hc.blk (ee_v 3 (pv 3)) (ee_v 8 (pv 8))) (ee_m (pe_bm PySem.F.plainAttrs_list PySem.F.slot_list_count PySem.F.type_list_count mt_lcount (ee_v 10 (pv 10)) (ea_cons (ee_v 8 (pv 8)) ea_nil)) opm_count)) (ee_v 2 (pv 2)) (nomark _)))) ea_nil))) (ess_cons (es_expr (ee_m (pe_bm PySem.F.plainAttrs_list PySem.F.slot_list_append PySem.F.type_list_append mt_append (ee_v 4 (pv 4)) (ea_cons (ee_v 9 (pv 9)) ea_nil)) opm_append))
  (ess_one (es_for PassesOwn.never rfl (ei_seq (ee_v 10 (pv 10))) (eg_nm (pg_name (i := 8) sc_l_web.nd rfl (by first | exact Or.inl rfl | exact Or.inr rfl))) (ess_one (es_asg (ee_op opr_add op2_add (ee_sub hc (ee_v 3 (pv 3)) (ee_v 8 (pv 8))) ee_int) (eG_sub hc (ee_v 3 (pv 3)) (ee_v 8 (pv 8)))))))) ess_nil)))))
  (ess_one (es_ret (ee_call c_l_doors_put hc (by omega) rfl (ea_cons (ee_v 0 (pv 0)) (ea_cons (ee_v 4 (pv 4)) (ea_cons (ee_v 1 (pv 1)) ea_nil)))))))))), rfl⟩
  obtain ⟨_, h, rfl⟩ := h
  exact h
theorem cal_l_web (B : Bi mg) (D : DefAt K mg "_law_web" s_l_web ["_law_box_here", "_law_many", "_law_most"]) (c_l_take : Cal P w K mg base 1 "_law_take" g_l_take) (c_l_doors_put : Cal P w K mg base 2 "_law_doors_put" g_l_doors_put) : Cal P w K mg base 3 "_law_web" g_l_web :=
  let ⟨f, fd, F, hm, hb⟩ := D.ex
  ⟨f, fd, ["_law_box_here", "_law_many", "_law_most"], ok_l_web B F c_l_take c_l_doors_put, hm, F.kp, hb⟩
/-! _law_ring -/
abbrev s_l_ring : Stmt := top 13
abbrev N_l_ring : List Str := ["_law_many", "_law_room"]
theorem sc_l_ring : FnScope N_l_ring ["_law_many"] (defScope s_l_ring) := ⟨rfl, rfl, rfl, by decide +kernel, rfl, by decide +kernel, by decide +kernel⟩
theorem ok_l_ring {f : Addr} {fd : FuncData} (B : Bi mg) (F : Fun K "_law_ring" "_law_ring" s_l_ring f fd)  : FnOk P w K mg base CX0 1 f fd ["_law_many"] (spE K g_l_ring) := by
  have h : ∃ b, FnOk P w K mg base CX0 1 f fd ["_law_many"] (spE K (fnD 1 2 b)) ∧ b = b_l_ring := ⟨_, fn_mk F sc_l_ring fun cdv A outer s H E hc =>
    (ess_one (es_ret (ee_ct call_tuple_of opa_tuple rfl B.n_tuple (by decide +kernel) (ea_cons (ee_lc (own := [("_law_room", 1)]) rfl sc_l_ring.nd (ei_range1 rfl B.n_range (ee_v 0 (pv 0))) (blkOk_by (N := N_l_ring) (sc := defScope s_l_ring) (by decide +kernel)) (by decide) (fun _ _ _ _ _ => (eg_nm (pg_name (i := 1) sc_l_ring.nd rfl (by first | exact Or.inl rfl | exact Or.inr rfl)))) (fun _ _ _ _ _ => et_yes) (fun _ _ _ _ _ => (ee_tup (ea_cons (ee_tup (ea_cons (ee_op op_modN op2_mod (ee_op opr_add op2_add (ee_v 1 (pv 1)) ee_int) (ee_v 0 (pv 0))) (ea_cons ee_int ea_nil))) (ea_cons (ee_tup (ea_cons (ee_op op_modN op2_mod (ee_op op_sub op2_sub (ee_v 1 (pv 1)) ee_int) (ee_v 0 (pv 0))) (ea_cons ee_int ea_nil))) ea_nil))))) ea_nil)))), rfl⟩
  obtain ⟨_, h, rfl⟩ := h
  exact h
theorem cal_l_ring (B : Bi mg) (D : DefAt K mg "_law_ring" s_l_ring ["_law_many"])  : Cal P w K mg base 1 "_law_ring" g_l_ring :=
  let ⟨f, fd, F, hm, hb⟩ := D.ex
  ⟨f, fd, ["_law_many"], ok_l_ring B F , hm, F.kp, hb⟩
/-! _law_turn -/
abbrev s_l_turn : Stmt := top 17
abbrev N_l_turn : List Str := ["_law_box_here", "_law_many", "_law_own", "_law_order", "_law_k", "_law_turn_here", "_law_one", "_law_other"]
theorem sc_l_turn : FnScope N_l_turn ["_law_box_here", "_law_many", "_law_own"] (defScope s_l_turn) := ⟨rfl, rfl, rfl, by decide +kernel, rfl, by decide +kernel, by decide +kernel⟩
theorem ok_l_turn {f : Addr} {fd : FuncData} (B : Bi mg) (F : Fun K "_law_turn" "_law_turn" s_l_turn f fd) (c_l_take : Cal P w K mg base 1 "_law_take" g_l_take) : FnOk P w K mg base CX0 2 f fd ["_law_box_here", "_law_many", "_law_own"] (spE K g_l_turn_v3) := by
  have h : ∃ b, FnOk P w K mg base CX0 2 f fd ["_law_box_here", "_law_many", "_law_own"] (spE K (fnD 3 8 b)) ∧ b = b_l_turn_v3 := ⟨_, fn_mk F sc_l_turn fun cdv A outer s H E hc =>
    (ess_cons (es_set (i := 3) sc_l_turn.nd rfl (by first | exact Or.inl rfl | exact Or.inr rfl) (ee_lst ea_nil))
  (ess_cons (es_for PassesOwn.never rfl (ei_range1 rfl B.n_range (ee_v 1 (pv 1))) (eg_nm (pg_name (i := 4) sc_l_turn.nd rfl (by first | exact Or.inl rfl | exact Or.inr rfl))) (ess_one (es_expr (ee_m (pe_bm PySem.F.plainAttrs_list PySem.F.slot_list_insert PySem.F.type_list_insert mt_insert (ee_v 3 (pv 3)) (ea_cons (ee_call c_l_take hc (by omega) rfl (ea_cons (ee_v 0 (pv 0)) (ea_cons (ee_op opr_add op2_add (ee_v 4 (pv 4)) ee_int) ea_nil))) (ea_cons (ee_v 4 (pv 4)) ea_nil))) opm_insert))))
  (ess_cons (es_if (et_not (et_val (ee_v 2 (pv 2)))) (ess_one (es_ret (ee_ct cr_tupleF opa_tn rfl B.n_tuple (by decide +kernel) (ea_cons (ee_v 3 (pv 3)) ea_nil)))) ess_nil)
  (ess_cons (es_set (i := 5) sc_l_turn.nd rfl (by first | exact Or.inl rfl | exact Or.inr rfl) (ee_listRg rfl rfl B.n_list (er_range1 rfl B.n_range (ee_v 1 (pv 1)))))
  (ess_cons (es_for PassesOwn.never rfl (ei_range3 ee_int (ee_op op_sub op2_sub (ee_v 1 (pv 1)) ee_int) ee_int (fun h => pi_range3 rfl B.n_range h)) (eg_nm (pg_name (i := 4) sc_l_turn.nd rfl (by first | exact Or.inl rfl | exact Or.inr rfl))) (ess_cons (es_par (ps_par (i := 6) (j := 7) rfl sc_l_turn.nd rfl rfl (by decide) rfl rfl (ea_cons (ee_sub hc (ee_v 3 (pv 3)) (ee_v 4 (pv 4))) (ea_cons (ee_sub hc (ee_v 3 (pv 3)) (ee_op opr_add op2_add (ee_v 4 (pv 4)) ee_int)) ea_nil)) (by rfl)))
  (ess_cons (es_asg (ee_v 7 (pv 7)) (eG_sub hc (ee_v 5 (pv 5)) (ee_v 6 (pv 6))))
  (ess_one (es_asg (ee_v 6 (pv 6)) (eG_sub hc (ee_v 5 (pv 5)) (ee_v 7 (pv 7))))))))
  (ess_one (es_ret (ee_ct cr_tupleF opa_tn rfl B.n_tuple (by decide +kernel) (ea_cons (ee_v 5 (pv 5)) ea_nil))))))))), rfl⟩
  obtain ⟨_, h, rfl⟩ := h
  exact h
theorem cal_l_turn (B : Bi mg) (D : DefAt K mg "_law_turn" s_l_turn ["_law_box_here", "_law_many", "_law_own"]) (c_l_take : Cal P w K mg base 1 "_law_take" g_l_take) : Cal P w K mg base 2 "_law_turn" g_l_turn_v3 :=
  let ⟨f, fd, F, hm, hb⟩ := D.ex
  ⟨f, fd, ["_law_box_here", "_law_many", "_law_own"], ok_l_turn B F c_l_take, hm, F.kp, hb⟩
/-! _law_ends -/
abbrev s_l_ends : Stmt := top 14
abbrev N_l_ends : List Str := ["_law_web_here", "_law_found", "_law_room", "_law_door"]
theorem sc_l_ends : FnScope N_l_ends ["_law_web_here"] (defScope s_l_ends) := ⟨rfl, rfl, rfl, by decide +kernel, rfl, by decide +kernel, by decide +kernel⟩
theorem ok_l_ends {f : Addr} {fd : FuncData} (B : Bi mg) (F : Fun K "_law_ends" "_law_ends" s_l_ends f fd)  : FnOk P w K mg base CX0 1 f fd ["_law_web_here"] (spE K g_l_ends) := by
  have h : ∃ b, FnOk P w K mg base CX0 1 f fd ["_law_web_here"] (spE K (fnD 1 4 b)) ∧ b = b_l_ends := ⟨_, fn_mk F sc_l_ends fun cdv A outer s H E hc =>
    (ess_cons (es_set (i := 1) sc_l_ends.nd rfl (by first | exact Or.inl rfl | exact Or.inr rfl) (ee_lst ea_nil))
  (ess_cons (es_for PassesOwn.never rfl (ei_range1 rfl B.n_range (ee_cb opr_len opa_len rfl B.n_len (by decide +kernel) (ea_cons (ee_v 0 (pv 0)) ea_nil))) (eg_nm (pg_name (i := 2) sc_l_ends.nd rfl (by first | exact Or.inl rfl | exact Or.inr rfl))) (ess_one (es_for PassesOwn.never rfl (ei_range1 rfl B.n_range (ee_cb opr_len opa_len rfl B.n_len (by decide +kernel) (ea_cons (ee_sub hc (ee_v 0 (pv 0)) (ee_v 2 (pv 2))) ea_nil))) (eg_nm (pg_name (i := 3) sc_l_ends.nd rfl (by first | exact Or.inl rfl | exact Or.inr rfl))) (ess_one (es_if (et_cmp (opr_le hc) op2_le (ee_tup (ea_cons (ee_v 2 (pv 2)) (ea_cons (ee_v 3 (pv 3)) ea_nil))) (ee_sub hc (ee_sub hc (ee_v 0 (pv 0)) (ee_v 2 (pv 2))) (ee_v 3 (pv 3))) (nomark _)) (ess_one (es_expr (ee_m (pe_bm PySem.F.plainAttrs_list PySem.F.slot_list_append PySem.F.type_list_append mt_append (ee_v 1 (pv 1)) (ea_cons (ee_tup (ea_cons (ee_tup (ea_cons (ee_v 2 (pv 2)) (ea_cons (ee_v 3 (pv 3)) ea_nil))) (ea_cons (ee_sub hc (ee_sub hc (ee_v 0 (pv 0)) (ee_v 2 (pv 2))) (ee_v 3 (pv 3))) ea_nil))) ea_nil)) opm_append))) ess_nil)))))
  (ess_one (es_ret (ee_v 1 (pv 1)))))), rfl⟩
  obtain ⟨_, h, rfl⟩ := h
  exact h
theorem cal_l_ends (B : Bi mg) (D : DefAt K mg "_law_ends" s_l_ends ["_law_web_here"])  : Cal P w K mg base 1 "_law_ends" g_l_ends :=
  let ⟨f, fd, F, hm, hb⟩ := D.ex
  ⟨f, fd, ["_law_web_here"], ok_l_ends B F , hm, F.kp, hb⟩
/-! _law_sheeted -/
abbrev s_l_sheeted : Stmt := top 16
abbrev N_l_sheeted : List Str := ["_law_web_here", "_law_turns", "_law_many", "_law_made", "_law_t", "_law_k", "_law_n", "_law_one", "_law_other", "_law_spot", "_law_there", "_law_room"]
theorem sc_l_sheeted : FnScope N_l_sheeted ["_law_web_here", "_law_turns", "_law_many"] (defScope s_l_sheeted) := ⟨rfl, rfl, rfl, by decide +kernel, rfl, by decide +kernel, by decide +kernel⟩
theorem ok_l_sheeted {f : Addr} {fd : FuncData} (B : Bi mg) (F : Fun K "_law_sheeted" "_law_sheeted" s_l_sheeted f fd) (c_l_ends : Cal P w K mg base 1 "_law_ends" g_l_ends) : FnOk P w K mg base CX0 2 f fd ["_law_web_here", "_law_turns", "_law_many"] (spE K g_l_sheeted) := by
  have h : ∃ b, FnOk P w K mg base CX0 2 f fd ["_law_web_here", "_law_turns", "_law_many"] (spE K (fnD 3 12 b)) ∧ b = b_l_sheeted := ⟨_, fn_mk F sc_l_sheeted fun cdv A outer s H E hc =>
    (ess_cons (es_setLc (i := 3) (own := [("_law_n", 6)]) rfl sc_l_sheeted.nd rfl rfl (sw_true rfl rfl rfl (by decide +kernel)) (ei_range1 rfl B.n_range (ee_op opr_mul op2_mul (ee_v 2 (pv 2)) (ee_cb opr_len opa_len rfl B.n_len (by decide +kernel) (ea_cons (ee_v 0 (pv 0)) ea_nil)))) (blkOk_by (N := N_l_sheeted) (sc := defScope s_l_sheeted) (by decide +kernel)) (by decide) (fun _ _ _ _ _ => (eg_nm (pg_name (i := 6) sc_l_sheeted.nd rfl (by first | exact Or.inl rfl | exact Or.inr rfl)))) (fun _ _ _ _ _ => et_yes) (fun _ _ _ _ _ => (ee_op opr_mul op2_mul (ee_lst (ea_cons ee_non ea_nil)) (ee_cb opr_len opa_len rfl B.n_len (by decide +kernel) (ea_cons (ee_sub hc.blk (ee_v 0 (pv 0)) (ee_op op_modN op2_mod (ee_v 6 (pv 6)) (ee_cb opr_len opa_len rfl B.n_len (by decide +kernel) (ea_cons (ee_v 0 (pv 0)) ea_nil)))) ea_nil)))))
  (ess_cons (es_for PassesOwn.never rfl (ei_enum rfl B.n_enumerate (ee_call c_l_ends hc (by omega) rfl (ea_cons (ee_v 0 (pv 0)) ea_nil))) (eg_tp rfl (egs_cons (eg_nm (pg_name (i := 4) sc_l_sheeted.nd rfl (by first | exact Or.inl rfl | exact Or.inr rfl))) (egs_cons (eg_tp rfl (egs_cons (eg_nm (pg_name (i := 7) sc_l_sheeted.nd rfl (by first | exact Or.inl rfl | exact Or.inr rfl))) (egs_cons (eg_nm (pg_name (i := 8) sc_l_sheeted.nd rfl (by first | exact Or.inl rfl | exact Or.inr rfl))) egs_nil))) egs_nil))) (ess_one (es_for PassesOwn.never rfl (ei_range1 rfl B.n_range (ee_v 2 (pv 2))) (eg_nm (pg_name (i := 5) sc_l_sheeted.nd rfl (by first | exact Or.inl rfl | exact Or.inr rfl))) (ess_cons (es_set (i := 9) sc_l_sheeted.nd rfl (by first | exact Or.inl rfl | exact Or.inr rfl) (ee_op opr_add op2_add (ee_sub hc (ee_v 7 (pv 7)) ee_int) (ee_op opr_mul op2_mul (ee_v 5 (pv 5)) (ee_cb opr_len opa_len rfl B.n_len (by decide +kernel) (ea_cons (ee_v 0 (pv 0)) ea_nil)))))
  (ess_cons (es_set (i := 10) sc_l_sheeted.nd rfl (by first | exact Or.inl rfl | exact Or.inr rfl) (ee_op opr_add op2_add (ee_sub hc (ee_v 8 (pv 8)) ee_int) (ee_op opr_mul op2_mul (ee_sub hc (ee_sub hc (ee_v 1 (pv 1)) (ee_v 4 (pv 4))) (ee_v 5 (pv 5))) (ee_cb opr_len opa_len rfl B.n_len (by decide +kernel) (ea_cons (ee_v 0 (pv 0)) ea_nil)))))
  (ess_cons (es_asg (ee_tup (ea_cons (ee_v 10 (pv 10)) (ea_cons (ee_sub hc (ee_v 8 (pv 8)) ee_int) ea_nil))) (eG_sub hc (ee_sub hc (ee_v 3 (pv 3)) (ee_v 9 (pv 9))) (ee_sub hc (ee_v 7 (pv 7)) ee_int)))
  (ess_one (es_asg (ee_tup (ea_cons (ee_v 9 (pv 9)) (ea_cons (ee_sub hc (ee_v 7 (pv 7)) ee_int) ea_nil))) (eG_sub hc (ee_sub hc (ee_v 3 (pv 3)) (ee_v 10 (pv 10))) (ee_sub hc (ee_v 8 (pv 8)) ee_int))))))))))
  (ess_one (es_ret (ee_ct call_tuple_of opa_tuple rfl B.n_tuple (by decide +kernel) (ea_cons (ee_lc (own := [("_law_room", 11)]) rfl sc_l_sheeted.nd (ei_seq (ee_v 3 (pv 3))) (blkOk_by (N := N_l_sheeted) (sc := defScope s_l_sheeted) (by decide +kernel)) (by decide) (fun _ _ _ _ _ => (eg_nm (pg_name (i := 11) sc_l_sheeted.nd rfl (by first | exact Or.inl rfl | exact Or.inr rfl)))) (fun _ _ _ _ _ => et_yes) (fun _ _ _ _ _ => (ee_ct call_tuple_of opa_tuple rfl B.n_tuple (by decide +kernel) (ea_cons (ee_v 11 (pv 11)) ea_nil)))) ea_nil)))))), rfl⟩
  obtain ⟨_, h, rfl⟩ := h
  exact h
theorem cal_l_sheeted (B : Bi mg) (D : DefAt K mg "_law_sheeted" s_l_sheeted ["_law_web_here", "_law_turns", "_law_many"]) (c_l_ends : Cal P w K mg base 1 "_law_ends" g_l_ends) : Cal P w K mg base 2 "_law_sheeted" g_l_sheeted :=
  let ⟨f, fd, F, hm, hb⟩ := D.ex
  ⟨f, fd, ["_law_web_here", "_law_turns", "_law_many"], ok_l_sheeted B F c_l_ends, hm, F.kp, hb⟩
/-! _law_reached -/
abbrev s_l_reached : Stmt := top 15
abbrev N_l_reached : List Str := ["_law_web_here", "_law_room", "_law_found", "_law_at", "_law_other", "_law_door"]
theorem sc_l_reached : FnScope N_l_reached ["_law_web_here", "_law_room"] (defScope s_l_reached) := ⟨rfl, rfl, rfl, by decide +kernel, rfl, by decide +kernel, by decide +kernel⟩
theorem ok_l_reached {f : Addr} {fd : FuncData} (B : Bi mg) (F : Fun K "_law_reached" "_law_reached" s_l_reached f fd)  : FnOk P w K mg base CX0 1 f fd ["_law_web_here", "_law_room"] (spE K g_l_reached) := by
  have h : ∃ b, FnOk P w K mg base CX0 1 f fd ["_law_web_here", "_law_room"] (spE K (fnD 2 6 b)) ∧ b = b_l_reached := ⟨_, fn_mk F sc_l_reached fun cdv A outer s H E hc =>
    (ess_cons (es_set (i := 2) sc_l_reached.nd rfl (by first | exact Or.inl rfl | exact Or.inr rfl) (ee_lst (ea_cons (ee_v 1 (pv 1)) ea_nil)))
  (ess_cons (es_set (i := 3) sc_l_reached.nd rfl (by first | exact Or.inl rfl | exact Or.inr rfl) ee_int)
  (ess_cons (es_while PassesOwn.never (et_cmp (opr_lt hc) op2_lt (ee_v 3 (pv 3)) (ee_cb opr_len opa_len rfl B.n_len (by decide +kernel) (ea_cons (ee_v 2 (pv 2)) ea_nil)) (nomark _)) (ess_cons (es_for PassesOwn.never rfl (ei_seq (ee_sub hc (ee_v 0 (pv 0)) (ee_sub hc (ee_v 2 (pv 2)) (ee_v 3 (pv 3))))) (eg_tp rfl (egs_cons (eg_nm (pg_name (i := 4) sc_l_reached.nd rfl (by first | exact Or.inl rfl | exact Or.inr rfl))) (egs_cons (eg_nm (pg_name (i := 5) sc_l_reached.nd rfl (by first | exact Or.inl rfl | exact Or.inr rfl))) egs_nil))) (ess_one (es_if (et_notin hc (ee_v 4 (pv 4)) (ee_v 2 (pv 2))) (ess_one (es_expr (ee_m (pe_bm PySem.F.plainAttrs_list PySem.F.slot_list_append PySem.F.type_list_append mt_append (ee_v 2 (pv 2)) (ea_cons (ee_v 4 (pv 4)) ea_nil)) opm_append))) ess_nil)))
  (ess_one (es_set (i := 3) sc_l_reached.nd rfl (by first | exact Or.inl rfl | exact Or.inr rfl) (ee_op opr_add op2_add (ee_v 3 (pv 3)) ee_int)))))
  (ess_one (es_ret (ee_v 2 (pv 2))))))), rfl⟩
  obtain ⟨_, h, rfl⟩ := h
  exact h
theorem cal_l_reached (B : Bi mg) (D : DefAt K mg "_law_reached" s_l_reached ["_law_web_here", "_law_room"])  : Cal P w K mg base 1 "_law_reached" g_l_reached :=
  let ⟨f, fd, F, hm, hb⟩ := D.ex
  ⟨f, fd, ["_law_web_here", "_law_room"], ok_l_reached B F , hm, F.kp, hb⟩
/-! _law_covered -/
abbrev s_l_covered : Stmt := top 18
abbrev N_l_covered : List Str := ["_law_box_here", "_law_web_here", "_law_many", "_law_turn_here", "_law_turns", "_law_made", "_law_pair"]
theorem sc_l_covered : FnScope N_l_covered ["_law_box_here", "_law_web_here", "_law_many"] (defScope s_l_covered) := ⟨rfl, rfl, rfl, by decide +kernel, rfl, by decide +kernel, by decide +kernel⟩
theorem ok_l_covered {f : Addr} {fd : FuncData} (B : Bi mg) (F : Fun K "_law_covered" "_law_covered" s_l_covered f fd) (c_l_ends : Cal P w K mg base 1 "_law_ends" g_l_ends) (c_l_turn : Cal P w K mg base 2 "_law_turn" g_l_turn_v3) (c_l_sheeted : Cal P w K mg base 2 "_law_sheeted" g_l_sheeted) (c_l_reached : Cal P w K mg base 1 "_law_reached" g_l_reached) : FnOk P w K mg base CX0 3 f fd ["_law_box_here", "_law_web_here", "_law_many"] (spE K g_l_covered_v5) := by
  have h : ∃ b, FnOk P w K mg base CX0 3 f fd ["_law_box_here", "_law_web_here", "_law_many"] (spE K (fnD 3 7 b)) ∧ b = b_l_covered_v5 := ⟨_, fn_mk F sc_l_covered fun cdv A outer s H E hc =>
    (ess_cons (es_for PassesOwn.never rfl (ei_range1 rfl B.n_range ee_int) (eg_nm (pg_name (i := 3) sc_l_covered.nd rfl (by first | exact Or.inl rfl | exact Or.inr rfl))) (ess_cons (es_setLc (i := 4) (own := [("_law_pair", 6)]) rfl sc_l_covered.nd rfl rfl (sw_true rfl rfl rfl (by decide +kernel)) (ei_seq (ee_call c_l_ends hc (by omega) rfl (ea_cons (ee_v 1 (pv 1)) ea_nil))) (blkOk_by (N := N_l_covered) (sc := defScope s_l_covered) (by decide +kernel)) (by decide) (fun _ _ _ _ _ => (eg_nm (pg_name (i := 6) sc_l_covered.nd rfl (by first | exact Or.inl rfl | exact Or.inr rfl)))) (fun _ _ _ _ _ => et_yes) (fun _ _ _ _ _ => (ee_call c_l_turn hc.blk (by omega) rfl (ea_cons (ee_v 0 (pv 0)) (ea_cons (ee_v 2 (pv 2)) (ea_cons (ee_cmp (op_eqD hc.blk.room.units) op2_eq (ee_sub hc.blk (ee_v 6 (pv 6)) ee_int) (ee_sub hc.blk (ee_v 6 (pv 6)) ee_int) (nomark _)) ea_nil))))))
  (ess_cons (es_set (i := 5) sc_l_covered.nd rfl (by first | exact Or.inl rfl | exact Or.inr rfl) (ee_call c_l_sheeted hc (by omega) rfl (ea_cons (ee_v 1 (pv 1)) (ea_cons (ee_v 4 (pv 4)) (ea_cons (ee_v 2 (pv 2)) ea_nil)))))
  (ess_one (es_if (et_cmp (op_eqD hc.room.units) op2_eq (ee_cb opr_len opa_len rfl B.n_len (by decide +kernel) (ea_cons (ee_call c_l_reached hc (by omega) rfl (ea_cons (ee_v 5 (pv 5)) (ea_cons ee_int ea_nil))) ea_nil)) (ee_cb opr_len opa_len rfl B.n_len (by decide +kernel) (ea_cons (ee_v 5 (pv 5)) ea_nil)) (nomark _)) (ess_one (es_ret (ee_v 5 (pv 5)))) ess_nil)))))
  (ess_one (es_ret (ee_v 1 (pv 1))))), rfl⟩
  obtain ⟨_, h, rfl⟩ := h
  exact h
theorem cal_l_covered (B : Bi mg) (D : DefAt K mg "_law_covered" s_l_covered ["_law_box_here", "_law_web_here", "_law_many"]) (c_l_ends : Cal P w K mg base 1 "_law_ends" g_l_ends) (c_l_turn : Cal P w K mg base 2 "_law_turn" g_l_turn_v3) (c_l_sheeted : Cal P w K mg base 2 "_law_sheeted" g_l_sheeted) (c_l_reached : Cal P w K mg base 1 "_law_reached" g_l_reached) : Cal P w K mg base 3 "_law_covered" g_l_covered_v5 :=
  let ⟨f, fd, F, hm, hb⟩ := D.ex
  ⟨f, fd, ["_law_box_here", "_law_web_here", "_law_many"], ok_l_covered B F c_l_ends c_l_turn c_l_sheeted c_l_reached, hm, F.kp, hb⟩
/-! _law_any_web -/
abbrev s_l_any_web : Stmt := top 19
abbrev N_l_any_web : List Str := ["_law_box_here", "_law_way", "_law_base", "_law_many"]
theorem sc_l_any_web : FnScope N_l_any_web ["_law_box_here"] (defScope s_l_any_web) := ⟨rfl, rfl, rfl, by decide +kernel, rfl, by decide +kernel, by decide +kernel⟩
theorem ok_l_any_web {f : Addr} {fd : FuncData} (B : Bi mg) (F : Fun K "_law_any_web" "_law_any_web" s_l_any_web f fd) (c_l_take : Cal P w K mg base 1 "_law_take" g_l_take) (c_l_web : Cal P w K mg base 3 "_law_web" g_l_web) (c_l_ring : Cal P w K mg base 1 "_law_ring" g_l_ring) (c_l_covered : Cal P w K mg base 3 "_law_covered" g_l_covered_v5) : FnOk P w K mg base CX0 4 f fd ["_law_box_here"] (spE K g_l_any_web_v4) := by
  have h : ∃ b, FnOk P w K mg base CX0 4 f fd ["_law_box_here"] (spE K (fnD 1 4 b)) ∧ b = b_l_any_web_v4 := ⟨_, fn_mk F sc_l_any_web fun cdv A outer s H E hc =>
    (ess_cons (es_set (i := 1) sc_l_any_web.nd rfl (by first | exact Or.inl rfl | exact Or.inr rfl) (ee_call c_l_take hc (by omega) rfl (ea_cons (ee_v 0 (pv 0)) (ea_cons ee_int ea_nil))))
  (ess_cons (es_if (et_cmp (op_eqD hc.room.units) op2_eq (ee_v 1 (pv 1)) ee_int (nomark _)) (ess_one (es_ret (ee_call c_l_web hc (by omega) rfl (ea_cons (ee_v 0 (pv 0)) (ea_cons (ee_op opr_add op2_add ee_int (ee_call c_l_take hc (by omega) rfl (ea_cons (ee_v 0 (pv 0)) (ea_cons ee_int ea_nil)))) (ea_cons (ee_op opr_add op2_add ee_int (ee_call c_l_take hc (by omega) rfl (ea_cons (ee_v 0 (pv 0)) (ea_cons ee_int ea_nil)))) ea_nil)))))) ess_nil)
  (ess_cons (es_if (et_cmp (opr_lt hc) op2_lt (ee_v 1 (pv 1)) ee_int (nomark _)) (ess_one (es_ret (ee_call c_l_web hc (by omega) rfl (ea_cons (ee_v 0 (pv 0)) (ea_cons (ee_op opr_add op2_add ee_int (ee_call c_l_take hc (by omega) rfl (ea_cons (ee_v 0 (pv 0)) (ea_cons ee_int ea_nil)))) (ea_cons (ee_op opr_add op2_add ee_int (ee_call c_l_take hc (by omega) rfl (ea_cons (ee_v 0 (pv 0)) (ea_cons ee_int ea_nil)))) ea_nil)))))) ess_nil)
  (ess_cons (es_if (et_cmp (op_eqD hc.room.units) op2_eq (ee_v 1 (pv 1)) ee_int (nomark _)) (ess_one (es_ret (ee_call c_l_ring hc (by omega) rfl (ea_cons (ee_op opr_add op2_add ee_int (ee_call c_l_take hc (by omega) rfl (ea_cons (ee_v 0 (pv 0)) (ea_cons ee_int ea_nil)))) ea_nil)))) ess_nil)
  (ess_cons (es_set (i := 2) sc_l_any_web.nd rfl (by first | exact Or.inl rfl | exact Or.inr rfl) (ee_call c_l_web hc (by omega) rfl (ea_cons (ee_v 0 (pv 0)) (ea_cons (ee_op opr_add op2_add ee_int (ee_call c_l_take hc (by omega) rfl (ea_cons (ee_v 0 (pv 0)) (ea_cons ee_int ea_nil)))) (ea_cons (ee_op opr_add op2_add ee_int (ee_call c_l_take hc (by omega) rfl (ea_cons (ee_v 0 (pv 0)) (ea_cons ee_int ea_nil)))) ea_nil)))))
  (ess_cons (es_set (i := 3) sc_l_any_web.nd rfl (by first | exact Or.inl rfl | exact Or.inr rfl) (ee_op opr_add op2_add ee_int (ee_call c_l_take hc (by omega) rfl (ea_cons (ee_v 0 (pv 0)) (ea_cons (ee_sub hc (ee_lst (ea_cons ee_int (ea_cons ee_int (ea_cons ee_int (ea_cons ee_int ea_nil))))) (ee_op op_sub op2_sub (ee_cb opr_len opa_len rfl B.n_len (by decide +kernel) (ea_cons (ee_v 2 (pv 2)) ea_nil)) ee_int)) ea_nil)))))
  (ess_one (es_ret (ee_call c_l_covered hc (by omega) rfl (ea_cons (ee_v 0 (pv 0)) (ea_cons (ee_v 2 (pv 2)) (ea_cons (ee_v 3 (pv 3)) ea_nil)))))))))))), rfl⟩
  obtain ⟨_, h, rfl⟩ := h
  exact h
theorem cal_l_any_web (B : Bi mg) (D : DefAt K mg "_law_any_web" s_l_any_web ["_law_box_here"]) (c_l_take : Cal P w K mg base 1 "_law_take" g_l_take) (c_l_web : Cal P w K mg base 3 "_law_web" g_l_web) (c_l_ring : Cal P w K mg base 1 "_law_ring" g_l_ring) (c_l_covered : Cal P w K mg base 3 "_law_covered" g_l_covered_v5) : Cal P w K mg base 4 "_law_any_web" g_l_any_web_v4 :=
  let ⟨f, fd, F, hm, hb⟩ := D.ex
  ⟨f, fd, ["_law_box_here"], ok_l_any_web B F c_l_take c_l_web c_l_ring c_l_covered, hm, F.kp, hb⟩
/-! _law_renamed -/
abbrev s_l_renamed : Stmt := top 20
abbrev N_l_renamed : List Str := ["_law_box_here", "_law_web_here", "_law_numbers", "_law_made", "_law_room", "_law_other", "_law_door"]
theorem sc_l_renamed : FnScope N_l_renamed ["_law_box_here", "_law_web_here"] (defScope s_l_renamed) := ⟨rfl, rfl, rfl, by decide +kernel, rfl, by decide +kernel, by decide +kernel⟩
theorem ok_l_renamed {f : Addr} {fd : FuncData} (B : Bi mg) (F : Fun K "_law_renamed" "_law_renamed" s_l_renamed f fd) (c_l_turn : Cal P w K mg base 2 "_law_turn" g_l_turn_v3) : FnOk P w K mg base CX0 3 f fd ["_law_box_here", "_law_web_here"] (spE K g_l_renamed_v3) := by
  have h : ∃ b, FnOk P w K mg base CX0 3 f fd ["_law_box_here", "_law_web_here"] (spE K (fnD 2 7 b)) ∧ b = b_l_renamed_v3 := ⟨_, fn_mk F sc_l_renamed fun cdv A outer s H E hc =>
    (ess_cons (es_set (i := 2) sc_l_renamed.nd rfl (by first | exact Or.inl rfl | exact Or.inr rfl) (ee_call c_l_turn hc (by omega) rfl (ea_cons (ee_v 0 (pv 0)) (ea_cons (ee_cb opr_len opa_len rfl B.n_len (by decide +kernel) (ea_cons (ee_v 1 (pv 1)) ea_nil)) (ea_cons ee_bl ea_nil)))))
  (ess_cons (es_set (i := 3) sc_l_renamed.nd rfl (by first | exact Or.inl rfl | exact Or.inr rfl) (ee_op opr_mul op2_mul (ee_lst (ea_cons ee_non ea_nil)) (ee_cb opr_len opa_len rfl B.n_len (by decide +kernel) (ea_cons (ee_v 1 (pv 1)) ea_nil))))
  (ess_cons (es_for PassesOwn.never rfl (ei_range1 rfl B.n_range (ee_cb opr_len opa_len rfl B.n_len (by decide +kernel) (ea_cons (ee_v 1 (pv 1)) ea_nil))) (eg_nm (pg_name (i := 4) sc_l_renamed.nd rfl (by first | exact Or.inl rfl | exact Or.inr rfl))) (ess_one (es_asg (ee_ct call_tuple_of opa_tuple rfl B.n_tuple (by decide +kernel) (ea_cons (ee_lc (own := [("_law_other", 5), ("_law_door", 6)]) rfl sc_l_renamed.nd (ei_seq (ee_sub hc (ee_v 1 (pv 1)) (ee_v 4 (pv 4)))) (blkOk_by (N := N_l_renamed) (sc := defScope s_l_renamed) (by decide +kernel)) (by decide) (fun _ _ _ _ _ => (eg_tp rfl (egs_cons (eg_nm (pg_name (i := 5) sc_l_renamed.nd rfl (by first | exact Or.inl rfl | exact Or.inr rfl))) (egs_cons (eg_nm (pg_name (i := 6) sc_l_renamed.nd rfl (by first | exact Or.inl rfl | exact Or.inr rfl))) egs_nil)))) (fun _ _ _ _ _ => et_yes) (fun _ _ _ _ _ => (ee_tup (ea_cons (ee_sub hc.blk (ee_v 2 (pv 2)) (ee_v 5 (pv 5))) (ea_cons (ee_v 6 (pv 6)) ea_nil))))) ea_nil)) (eG_sub hc (ee_v 3 (pv 3)) (ee_sub hc (ee_v 2 (pv 2)) (ee_v 4 (pv 4)))))))
  (ess_one (es_ret (ee_tup (ea_cons (ee_ct call_tuple_of opa_tuple rfl B.n_tuple (by decide +kernel) (ea_cons (ee_v 3 (pv 3)) ea_nil)) (ea_cons (ee_v 2 (pv 2)) ea_nil)))))))), rfl⟩
  obtain ⟨_, h, rfl⟩ := h
  exact h
theorem cal_l_renamed (B : Bi mg) (D : DefAt K mg "_law_renamed" s_l_renamed ["_law_box_here", "_law_web_here"]) (c_l_turn : Cal P w K mg base 2 "_law_turn" g_l_turn_v3) : Cal P w K mg base 3 "_law_renamed" g_l_renamed_v3 :=
  let ⟨f, fd, F, hm, hb⟩ := D.ex
  ⟨f, fd, ["_law_box_here", "_law_web_here"], ok_l_renamed B F c_l_turn, hm, F.kp, hb⟩
/-! _law_rejoined -/
abbrev s_l_rejoined : Stmt := top 24
abbrev N_l_rejoined : List Str := ["_law_box_here", "_law_web_here", "_law_some", "_law_k", "_law_made", "_law_pairs", "_law_a", "_law_b", "_law_c", "_law_d", "_law_one", "_law_other", "_law_doors"]
theorem sc_l_rejoined : FnScope N_l_rejoined ["_law_box_here", "_law_web_here"] (defScope s_l_rejoined) := ⟨rfl, rfl, rfl, by decide +kernel, rfl, by decide +kernel, by decide +kernel⟩
theorem ok_l_rejoined {f : Addr} {fd : FuncData} (B : Bi mg) (F : Fun K "_law_rejoined" "_law_rejoined" s_l_rejoined f fd) (c_l_ends : Cal P w K mg base 1 "_law_ends" g_l_ends) (c_l_take : Cal P w K mg base 1 "_law_take" g_l_take) : FnOk P w K mg base CX0 2 f fd ["_law_box_here", "_law_web_here"] (spE K g_l_rejoined) := by
  have h : ∃ b, FnOk P w K mg base CX0 2 f fd ["_law_box_here", "_law_web_here"] (spE K (fnD 2 13 b)) ∧ b = b_l_rejoined := ⟨_, fn_mk F sc_l_rejoined fun cdv A outer s H E hc =>
    (ess_cons (es_set (i := 2) sc_l_rejoined.nd rfl (by first | exact Or.inl rfl | exact Or.inr rfl) (ee_call c_l_ends hc (by omega) rfl (ea_cons (ee_v 1 (pv 1)) ea_nil)))
  (ess_cons (es_if (et_cmp (opr_lt hc) op2_lt (ee_cb opr_len opa_len rfl B.n_len (by decide +kernel) (ea_cons (ee_v 2 (pv 2)) ea_nil)) ee_int (nomark _)) (ess_one (es_ret (ee_v 1 (pv 1)))) ess_nil)
  (ess_cons (es_set (i := 3) sc_l_rejoined.nd rfl (by first | exact Or.inl rfl | exact Or.inr rfl) (ee_call c_l_take hc (by omega) rfl (ea_cons (ee_v 0 (pv 0)) (ea_cons (ee_cb opr_len opa_len rfl B.n_len (by decide +kernel) (ea_cons (ee_v 2 (pv 2)) ea_nil)) ea_nil))))
  (ess_cons (es_asg (ee_sub hc (ee_v 2 (pv 2)) (ee_v 3 (pv 3))) (eG_pat (eg_tp rfl (egs_cons (eg_nm (pg_name (i := 6) sc_l_rejoined.nd rfl (by first | exact Or.inl rfl | exact Or.inr rfl))) (egs_cons (eg_nm (pg_name (i := 7) sc_l_rejoined.nd rfl (by first | exact Or.inl rfl | exact Or.inr rfl))) egs_nil)))))
  (ess_cons (es_asg (ee_sub hc (ee_op opr_add op2_add (ee_slice (ee_v 2 (pv 2)) eo_none (eo_some (ee_v 3 (pv 3)))) (ee_slice (ee_v 2 (pv 2)) (eo_some (ee_op opr_add op2_add (ee_v 3 (pv 3)) ee_int)) eo_none)) (ee_call c_l_take hc (by omega) rfl (ea_cons (ee_v 0 (pv 0)) (ea_cons (ee_op op_sub op2_sub (ee_cb opr_len opa_len rfl B.n_len (by decide +kernel) (ea_cons (ee_v 2 (pv 2)) ea_nil)) ee_int) ea_nil)))) (eG_pat (eg_tp rfl (egs_cons (eg_nm (pg_name (i := 8) sc_l_rejoined.nd rfl (by first | exact Or.inl rfl | exact Or.inr rfl))) (egs_cons (eg_nm (pg_name (i := 9) sc_l_rejoined.nd rfl (by first | exact Or.inl rfl | exact Or.inr rfl))) egs_nil)))))
  (ess_cons (es_setLc (i := 4) (own := [("_law_doors", 12)]) rfl sc_l_rejoined.nd rfl rfl (sw_true rfl rfl rfl (by decide +kernel)) (ei_seq (ee_v 1 (pv 1))) (blkOk_by (N := N_l_rejoined) (sc := defScope s_l_rejoined) (by decide +kernel)) (by decide) (fun _ _ _ _ _ => (eg_nm (pg_name (i := 12) sc_l_rejoined.nd rfl (by first | exact Or.inl rfl | exact Or.inr rfl)))) (fun _ _ _ _ _ => et_yes) (fun _ _ _ _ _ => (ee_ct call_list_of opa_list rfl B.n_list (by decide +kernel) (ea_cons (ee_v 12 (pv 12)) ea_nil))))
  (ess_cons (es_set (i := 5) sc_l_rejoined.nd rfl (by first | exact Or.inl rfl | exact Or.inr rfl) (ee_ite (et_cmp (op_eqD hc.room.units) op2_eq (ee_call c_l_take hc (by omega) rfl (ea_cons (ee_v 0 (pv 0)) (ea_cons ee_int ea_nil))) ee_int (nomark _)) (ee_lst (ea_cons (ee_tup (ea_cons (ee_v 6 (pv 6)) (ea_cons (ee_v 8 (pv 8)) ea_nil))) (ea_cons (ee_tup (ea_cons (ee_v 7 (pv 7)) (ea_cons (ee_v 9 (pv 9)) ea_nil))) ea_nil))) (ee_lst (ea_cons (ee_tup (ea_cons (ee_v 6 (pv 6)) (ea_cons (ee_v 9 (pv 9)) ea_nil))) (ea_cons (ee_tup (ea_cons (ee_v 7 (pv 7)) (ea_cons (ee_v 8 (pv 8)) ea_nil))) ea_nil)))))
  (ess_cons (es_for PassesOwn.never rfl (ei_seq (ee_v 5 (pv 5))) (eg_tp rfl (egs_cons (eg_nm (pg_name (i := 10) sc_l_rejoined.nd rfl (by first | exact Or.inl rfl | exact Or.inr rfl))) (egs_cons (eg_nm (pg_name (i := 11) sc_l_rejoined.nd rfl (by first | exact Or.inl rfl | exact Or.inr rfl))) egs_nil))) (ess_cons (es_asg (ee_v 11 (pv 11)) (eG_sub hc (ee_sub hc (ee_v 4 (pv 4)) (ee_sub hc (ee_v 10 (pv 10)) ee_int)) (ee_sub hc (ee_v 10 (pv 10)) ee_int)))
  (ess_one (es_asg (ee_v 10 (pv 10)) (eG_sub hc (ee_sub hc (ee_v 4 (pv 4)) (ee_sub hc (ee_v 11 (pv 11)) ee_int)) (ee_sub hc (ee_v 11 (pv 11)) ee_int))))))
  (ess_one (es_ret (ee_ct call_tuple_of opa_tuple rfl B.n_tuple (by decide +kernel) (ea_cons (ee_lc (own := [("_law_doors", 12)]) rfl sc_l_rejoined.nd (ei_seq (ee_v 4 (pv 4))) (blkOk_by (N := N_l_rejoined) (sc := defScope s_l_rejoined) (by decide +kernel)) (by decide) (fun _ _ _ _ _ => (eg_nm (pg_name (i := 12) sc_l_rejoined.nd rfl (by first | exact Or.inl rfl | exact Or.inr rfl)))) (fun _ _ _ _ _ => et_yes) (fun _ _ _ _ _ => (ee_ct call_tuple_of opa_tuple rfl B.n_tuple (by decide +kernel) (ea_cons (ee_v 12 (pv 12)) ea_nil)))) ea_nil)))))))))))), rfl⟩
  obtain ⟨_, h, rfl⟩ := h
  exact h
theorem cal_l_rejoined (B : Bi mg) (D : DefAt K mg "_law_rejoined" s_l_rejoined ["_law_box_here", "_law_web_here"]) (c_l_ends : Cal P w K mg base 1 "_law_ends" g_l_ends) (c_l_take : Cal P w K mg base 1 "_law_take" g_l_take) : Cal P w K mg base 2 "_law_rejoined" g_l_rejoined :=
  let ⟨f, fd, F, hm, hb⟩ := D.ex
  ⟨f, fd, ["_law_box_here", "_law_web_here"], ok_l_rejoined B F c_l_ends c_l_take, hm, F.kp, hb⟩
/-! _law_whole_number -/
abbrev s_l_whole_number : Stmt := top 22
abbrev N_l_whole_number : List Str := ["_law_thing"]
theorem sc_l_whole_number : FnScope N_l_whole_number ["_law_thing"] (defScope s_l_whole_number) := ⟨rfl, rfl, rfl, by decide +kernel, rfl, by decide +kernel, by decide +kernel⟩
theorem ok_l_whole_number {f : Addr} {fd : FuncData} (B : Bi mg) (F : Fun K "_law_whole_number" "_law_whole_number" s_l_whole_number f fd)  : FnOk P w K mg base CX0 1 f fd ["_law_thing"] (spE K g_l_whole_number) := by
  have h : ∃ b, FnOk P w K mg base CX0 1 f fd ["_law_thing"] (spE K (fnD 1 1 b)) ∧ b = b_l_whole_number := ⟨_, fn_mk F sc_l_whole_number fun cdv A outer s H E hc =>
    (ess_one (es_ret (ee_and (ee_cb opr_isi opa_isi rfl B.n_isinstance (by decide +kernel) (ea_cons (ee_v 0 (pv 0)) (ea_cons (ee_ty rfl B.n_int (n := "int") (by decide +kernel)) ea_nil))) (ee_one (ee_not (ee_cb opr_isi opa_isi rfl B.n_isinstance (by decide +kernel) (ea_cons (ee_v 0 (pv 0)) (ea_cons (ee_ty rfl B.n_bool (n := "bool") (by decide +kernel)) ea_nil)))))))), rfl⟩
  obtain ⟨_, h, rfl⟩ := h
  exact h
theorem cal_l_whole_number (B : Bi mg) (D : DefAt K mg "_law_whole_number" s_l_whole_number ["_law_thing"])  : Cal P w K mg base 1 "_law_whole_number" g_l_whole_number :=
  let ⟨f, fd, F, hm, hb⟩ := D.ex
  ⟨f, fd, ["_law_thing"], ok_l_whole_number B F , hm, F.kp, hb⟩
/-! _law_is_web -/
abbrev s_l_is_web : Stmt := top 23
abbrev N_l_is_web : List Str := ["_law_thing", "_law_ends_here", "_law_end", "_law_number", "_law_doors", "_law_door", "_law_part"]
theorem sc_l_is_web : FnScope N_l_is_web ["_law_thing"] (defScope s_l_is_web) := ⟨rfl, rfl, rfl, by decide +kernel, rfl, by decide +kernel, by decide +kernel⟩
theorem ok_l_is_web {f : Addr} {fd : FuncData} (B : Bi mg) (F : Fun K "_law_is_web" "_law_is_web" s_l_is_web f fd) (c_l_whole_number : Cal P w K mg base 1 "_law_whole_number" g_l_whole_number) (c_l_reached : Cal P w K mg base 1 "_law_reached" g_l_reached) : FnOk P w K mg base CX0 2 f fd ["_law_thing"] (spE K g_l_is_web) := by
  have h : ∃ b, FnOk P w K mg base CX0 2 f fd ["_law_thing"] (spE K (fnD 1 7 b)) ∧ b = b_l_is_web := ⟨_, fn_mk F sc_l_is_web fun cdv A outer s H E hc =>
    (ess_cons (es_if (et_w (ew_or (et_not (et_val (ee_cb opr_isi opa_isi rfl B.n_isinstance (by decide +kernel) (ea_cons (ee_v 0 (pv 0)) (ea_cons (ee_ty rfl B.n_tuple (n := "tuple") (by decide +kernel)) ea_nil))))) (ew_or1 (et_cmp (op_eqD hc.room.units) op2_eq (ee_cb opr_len opa_len rfl B.n_len (by decide +kernel) (ea_cons (ee_v 0 (pv 0)) ea_nil)) ee_int (nomark _))))) (ess_one (es_ret ee_bl)) ess_nil)
  (ess_cons (es_set (i := 1) sc_l_is_web.nd rfl (by first | exact Or.inl rfl | exact Or.inr rfl) ee_nK)
  (ess_cons (es_for PassesOwn.never rfl (ei_enum rfl B.n_enumerate (ee_v 0 (pv 0))) (eg_tp rfl (egs_cons (eg_nm (pg_name (i := 3) sc_l_is_web.nd rfl (by first | exact Or.inl rfl | exact Or.inr rfl))) (egs_cons (eg_nm (pg_name (i := 4) sc_l_is_web.nd rfl (by first | exact Or.inl rfl | exact Or.inr rfl))) egs_nil))) (ess_cons (es_if (et_not (et_val (ee_cb opr_isi opa_isi rfl B.n_isinstance (by decide +kernel) (ea_cons (ee_v 4 (pv 4)) (ea_cons (ee_ty rfl B.n_tuple (n := "tuple") (by decide +kernel)) ea_nil))))) (ess_one (es_ret ee_bl)) ess_nil)
  (ess_one (es_for PassesOwn.never rfl (ei_enum rfl B.n_enumerate (ee_v 4 (pv 4))) (eg_tp rfl (egs_cons (eg_nm (pg_name (i := 5) sc_l_is_web.nd rfl (by first | exact Or.inl rfl | exact Or.inr rfl))) (egs_cons (eg_nm (pg_name (i := 2) sc_l_is_web.nd rfl (by first | exact Or.inl rfl | exact Or.inr rfl))) egs_nil))) (ess_cons (es_if (et_w (ew_or (et_not (et_val (ee_cb opr_isi opa_isi rfl B.n_isinstance (by decide +kernel) (ea_cons (ee_v 2 (pv 2)) (ea_cons (ee_ty rfl B.n_tuple (n := "tuple") (by decide +kernel)) ea_nil))))) (ew_or (et_cmp (op_neD hc.room.units) op2_ne (ee_cb opr_len opa_len rfl B.n_len (by decide +kernel) (ea_cons (ee_v 2 (pv 2)) ea_nil)) ee_int (nomark _)) (ew_or1 (et_not (et_val (ee_cb (cr_all rfl) opa_all rfl B.n_all (by decide +kernel) (ea_cons (ee_lc (own := [("_law_part", 6)]) rfl sc_l_is_web.nd (ei_seq (ee_v 2 (pv 2))) (blkOk_by (N := N_l_is_web) (sc := defScope s_l_is_web) (by decide +kernel)) (by decide) (fun _ _ _ _ _ => (eg_nm (pg_name (i := 6) sc_l_is_web.nd rfl (by first | exact Or.inl rfl | exact Or.inr rfl)))) (fun _ _ _ _ _ => et_yes) (fun _ _ _ _ _ => (ee_call c_l_whole_number hc.blk (by omega) rfl (ea_cons (ee_v 6 (pv 6)) ea_nil)))) ea_nil)))))))) (ess_one (es_ret ee_bl)) ess_nil)
  (ess_one (es_asg (ee_v 2 (pv 2)) (eG_sub hc (ee_v 1 (pv 1)) (ee_tup (ea_cons (ee_v 3 (pv 3)) (ea_cons (ee_v 5 (pv 5)) ea_nil)))))))))))
  (ess_cons (es_lock (i := 1) (es_for PassesOwn.never rfl (ei_keys (ee_v 1 (pv 1))) (eg_nm (pg_name (i := 2) sc_l_is_web.nd rfl (by first | exact Or.inl rfl | exact Or.inr rfl))) (ess_one (es_if (et_cmp (op_neD hc.room.units) op2_ne (ee_get hc (ee_v 1 (pv 1)) (ee_sub hc (ee_v 1 (pv 1)) (ee_v 2 (pv 2)))) (ee_v 2 (pv 2)) (nomark _)) (ess_one (es_ret ee_bl)) ess_nil))))
  (ess_one (es_ret (ee_cmp (op_eqD hc.room.units) op2_eq (ee_cb opr_len opa_len rfl B.n_len (by decide +kernel) (ea_cons (ee_call c_l_reached hc (by omega) rfl (ea_cons (ee_v 0 (pv 0)) (ea_cons ee_int ea_nil))) ea_nil)) (ee_cb opr_len opa_len rfl B.n_len (by decide +kernel) (ea_cons (ee_v 0 (pv 0)) ea_nil)) (nomark _)))))))), rfl⟩
  obtain ⟨_, h, rfl⟩ := h
  exact h
theorem cal_l_is_web (B : Bi mg) (D : DefAt K mg "_law_is_web" s_l_is_web ["_law_thing"]) (c_l_whole_number : Cal P w K mg base 1 "_law_whole_number" g_l_whole_number) (c_l_reached : Cal P w K mg base 1 "_law_reached" g_l_reached) : Cal P w K mg base 2 "_law_is_web" g_l_is_web :=
  let ⟨f, fd, F, hm, hb⟩ := D.ex
  ⟨f, fd, ["_law_thing"], ok_l_is_web B F c_l_whole_number c_l_reached, hm, F.kp, hb⟩
/-! _law_twin -/
abbrev s_l_twin : Stmt := top 25
abbrev N_l_twin : List Str := ["_law_one", "_law_a", "_law_other", "_law_b", "_law_to", "_law_order", "_law_at", "_law_doors", "_law_twins", "_law_end", "_law_twin_here", "_law_room"]
theorem sc_l_twin : FnScope N_l_twin ["_law_one", "_law_a", "_law_other", "_law_b"] (defScope s_l_twin) := ⟨rfl, rfl, rfl, by decide +kernel, rfl, by decide +kernel, by decide +kernel⟩
theorem ok_l_twin {f : Addr} {fd : FuncData} (B : Bi mg) (F : Fun K "_law_twin" "_law_twin" s_l_twin f fd)  : FnOk P w K mg base CX0 1 f fd ["_law_one", "_law_a", "_law_other", "_law_b"] (spE K g_l_twin) := by
  have h : ∃ b, FnOk P w K mg base CX0 1 f fd ["_law_one", "_law_a", "_law_other", "_law_b"] (spE K (fnD 4 12 b)) ∧ b = b_l_twin := ⟨_, fn_mk F sc_l_twin fun cdv A outer s H E hc =>
    (ess_cons (es_if (et_cmp (op_neD hc.room.units) op2_ne (ee_cb opr_len opa_len rfl B.n_len (by decide +kernel) (ea_cons (ee_v 0 (pv 0)) ea_nil)) (ee_cb opr_len opa_len rfl B.n_len (by decide +kernel) (ea_cons (ee_v 2 (pv 2)) ea_nil)) (nomark _)) (ess_one (es_ret ee_non)) ess_nil)
  (ess_cons (es_set (i := 4) sc_l_twin.nd rfl (by first | exact Or.inl rfl | exact Or.inr rfl) (ee_d1 (ee_v 1 (pv 1)) (ee_v 3 (pv 3))))
  (ess_cons (es_set (i := 5) sc_l_twin.nd rfl (by first | exact Or.inl rfl | exact Or.inr rfl) (ee_lst (ea_cons (ee_v 1 (pv 1)) ea_nil)))
  (ess_cons (es_set (i := 6) sc_l_twin.nd rfl (by first | exact Or.inl rfl | exact Or.inr rfl) ee_int)
  (ess_cons (es_while PassesOwn.never (et_cmp (opr_lt hc) op2_lt (ee_v 6 (pv 6)) (ee_cb opr_len opa_len rfl B.n_len (by decide +kernel) (ea_cons (ee_v 5 (pv 5)) ea_nil)) (nomark _)) (ess_cons (es_par (ps_par (i := 7) (j := 8) rfl sc_l_twin.nd rfl rfl (by decide) rfl rfl (ea_cons (ee_sub hc (ee_v 0 (pv 0)) (ee_sub hc (ee_v 5 (pv 5)) (ee_v 6 (pv 6)))) (ea_cons (ee_sub hc (ee_v 2 (pv 2)) (ee_sub hc (ee_v 4 (pv 4)) (ee_sub hc (ee_v 5 (pv 5)) (ee_v 6 (pv 6))))) ea_nil)) (by rfl)))
  (ess_cons (es_set (i := 6) sc_l_twin.nd rfl (by first | exact Or.inl rfl | exact Or.inr rfl) (ee_op opr_add op2_add (ee_v 6 (pv 6)) ee_int))
  (ess_cons (es_if (et_w (ew_or (et_cmp (op_neD hc.room.units) op2_ne (ee_cb opr_len opa_len rfl B.n_len (by decide +kernel) (ea_cons (ee_v 7 (pv 7)) ea_nil)) (ee_cb opr_len opa_len rfl B.n_len (by decide +kernel) (ea_cons (ee_v 8 (pv 8)) ea_nil)) (nomark _)) (ew_or1 (et_cmp (op_neD hc.room.units) op2_ne (ee_lc (own := [("_law_end", 9)]) rfl sc_l_twin.nd (ei_seq (ee_v 7 (pv 7))) (blkOk_by (N := N_l_twin) (sc := defScope s_l_twin) (by decide +kernel)) (by decide) (fun _ _ _ _ _ => (eg_nm (pg_name (i := 9) sc_l_twin.nd rfl (by first | exact Or.inl rfl | exact Or.inr rfl)))) (fun _ _ _ _ _ => et_yes) (fun _ _ _ _ _ => (ee_sub hc.blk (ee_v 9 (pv 9)) ee_int))) (ee_lc (own := [("_law_end", 9)]) rfl sc_l_twin.nd (ei_seq (ee_v 8 (pv 8))) (blkOk_by (N := N_l_twin) (sc := defScope s_l_twin) (by decide +kernel)) (by decide) (fun _ _ _ _ _ => (eg_nm (pg_name (i := 9) sc_l_twin.nd rfl (by first | exact Or.inl rfl | exact Or.inr rfl)))) (fun _ _ _ _ _ => et_yes) (fun _ _ _ _ _ => (ee_sub hc.blk (ee_v 9 (pv 9)) ee_int))) (nomark _))))) (ess_one (es_ret ee_non)) ess_nil)
  (ess_one (es_for PassesOwn.never rfl (ei_zip (ee_v 7 (pv 7)) (ee_v 8 (pv 8)) (fun h => RZ.pi_zipA rfl B.n_zip h)) (eg_tp rfl (egs_cons (eg_nm (pg_name (i := 9) sc_l_twin.nd rfl (by first | exact Or.inl rfl | exact Or.inr rfl))) (egs_cons (eg_nm (pg_name (i := 10) sc_l_twin.nd rfl (by first | exact Or.inl rfl | exact Or.inr rfl))) egs_nil))) (ess_cons (es_if (et_notin hc (ee_sub hc (ee_v 9 (pv 9)) ee_int) (ee_v 4 (pv 4))) (ess_cons (es_asg (ee_sub hc (ee_v 10 (pv 10)) ee_int) (eG_sub hc (ee_v 4 (pv 4)) (ee_sub hc (ee_v 9 (pv 9)) ee_int)))
  (ess_one (es_expr (ee_m (pe_bm PySem.F.plainAttrs_list PySem.F.slot_list_append PySem.F.type_list_append mt_append (ee_v 5 (pv 5)) (ea_cons (ee_sub hc (ee_v 9 (pv 9)) ee_int) ea_nil)) opm_append)))) ess_nil)
  (ess_one (es_if (et_cmp (op_neD hc.room.units) op2_ne (ee_sub hc (ee_v 4 (pv 4)) (ee_sub hc (ee_v 9 (pv 9)) ee_int)) (ee_sub hc (ee_v 10 (pv 10)) ee_int) (nomark _)) (ess_one (es_ret ee_non)) ess_nil)))))))))
  (ess_cons (es_if (et_cmp (opr_lt hc) op2_lt (ee_lenSet hc hc.calm rfl B.n_len rfl B.n_set (ee_listVals hc.calm rfl B.n_list (ee_v 4 (pv 4)))) (ee_cb opr_len opa_len rfl B.n_len (by decide +kernel) (ea_cons (ee_v 4 (pv 4)) ea_nil)) (nomark _)) (ess_one (es_ret ee_non)) ess_nil)
  (ess_one (es_ret (ee_ct cr_tupleF opa_tn rfl B.n_tuple (by decide +kernel) (ea_cons (ee_lc (own := [("_law_room", 11)]) rfl sc_l_twin.nd (ei_range1 rfl B.n_range (ee_cb opr_len opa_len rfl B.n_len (by decide +kernel) (ea_cons (ee_v 0 (pv 0)) ea_nil))) (blkOk_by (N := N_l_twin) (sc := defScope s_l_twin) (by decide +kernel)) (by decide) (fun _ _ _ _ _ => (eg_nm (pg_name (i := 11) sc_l_twin.nd rfl (by first | exact Or.inl rfl | exact Or.inr rfl)))) (fun _ _ _ _ _ => et_yes) (fun _ _ _ _ _ => (ee_sub hc.blk (ee_v 4 (pv 4)) (ee_v 11 (pv 11))))) ea_nil)))))))))), rfl⟩
  obtain ⟨_, h, rfl⟩ := h
  exact h
theorem cal_l_twin (B : Bi mg) (D : DefAt K mg "_law_twin" s_l_twin ["_law_one", "_law_a", "_law_other", "_law_b"])  : Cal P w K mg base 1 "_law_twin" g_l_twin :=
  let ⟨f, fd, F, hm, hb⟩ := D.ex
  ⟨f, fd, ["_law_one", "_law_a", "_law_other", "_law_b"], ok_l_twin B F , hm, F.kp, hb⟩
/-! _law_alike -/
abbrev s_l_alike : Stmt := top 21
abbrev N_l_alike : List Str := ["_law_found", "_law_due", "_law_one", "_law_other"]
theorem sc_l_alike : FnScope N_l_alike ["_law_found", "_law_due"] (defScope s_l_alike) := ⟨rfl, rfl, rfl, by decide +kernel, rfl, by decide +kernel, by decide +kernel⟩
theorem ok_l_alike {f : Addr} {fd : FuncData} (B : Bi mg) (hm : mg "_law_alike" = some (.ref f)) (hk : PySem.W.keepIn K (.ref f) = true) (hb : Binds K fd ["_law_found", "_law_due"] []) (F : Fun K "_law_alike" "_law_alike" s_l_alike f fd)  : ∀ n : Nat, FnOk P w K mg base CX0 (0 + n) f fd ["_law_found", "_law_due"] (spE K (g_l_alike n))
  | 0 => fn_zero
  | n + 1 => by
    have c_l_alike : Cal P w K mg base (0 + n) "_law_alike" (g_l_alike n) := ⟨f, fd, ["_law_found", "_law_due"], ok_l_alike B hm hk hb F  n, hm, hk, hb⟩
    have h : ∃ b, FnOk P w K mg base CX0 (0 + n + 1) f fd ["_law_found", "_law_due"] (spE K (fnD 2 4 b)) ∧ b = b_l_alike (g_l_alike n) := ⟨_, fn_mk F sc_l_alike fun cdv A outer s H E hc =>
    (ess_cons (es_if (et_cmp opr_is op2_is (ee_v 1 (pv 1)) ee_non (nomark _)) (ess_one (es_ret (ee_cmp opr_is op2_is (ee_v 0 (pv 0)) ee_non (nomark _)))) ess_nil)
  (ess_cons (es_if (et_val (ee_cb opr_isi opa_isi rfl B.n_isinstance (by decide +kernel) (ea_cons (ee_v 1 (pv 1)) (ea_cons (ee_ty rfl B.n_bool (n := "bool") (by decide +kernel)) ea_nil)))) (ess_one (es_ret (ee_and (ee_cb opr_isi opa_isi rfl B.n_isinstance (by decide +kernel) (ea_cons (ee_v 0 (pv 0)) (ea_cons (ee_ty rfl B.n_bool (n := "bool") (by decide +kernel)) ea_nil))) (ee_one (ee_cmp (op_eqD hc.room.units) op2_eq (ee_v 0 (pv 0)) (ee_v 1 (pv 1)) (nomark _)))))) ess_nil)
  (ess_cons (es_if (et_val (ee_cb opr_isi opa_isi rfl B.n_isinstance (by decide +kernel) (ea_cons (ee_v 1 (pv 1)) (ea_cons (ee_tup (ea_cons (ee_ty rfl B.n_list (n := "list") (by decide +kernel)) (ea_cons (ee_ty rfl B.n_tuple (n := "tuple") (by decide +kernel)) ea_nil))) ea_nil)))) (ess_cons (es_if (et_w (ew_or (et_cmp (op_neD hc.room.units) op2_ne (ee_cb opr_isi opa_isi rfl B.n_isinstance (by decide +kernel) (ea_cons (ee_v 0 (pv 0)) (ea_cons (ee_ty rfl B.n_list (n := "list") (by decide +kernel)) ea_nil))) (ee_cb opr_isi opa_isi rfl B.n_isinstance (by decide +kernel) (ea_cons (ee_v 1 (pv 1)) (ea_cons (ee_ty rfl B.n_list (n := "list") (by decide +kernel)) ea_nil))) (nomark _)) (ew_or1 (et_cmp (op_neD hc.room.units) op2_ne (ee_cb opr_isi opa_isi rfl B.n_isinstance (by decide +kernel) (ea_cons (ee_v 0 (pv 0)) (ea_cons (ee_ty rfl B.n_tuple (n := "tuple") (by decide +kernel)) ea_nil))) (ee_cb opr_isi opa_isi rfl B.n_isinstance (by decide +kernel) (ea_cons (ee_v 1 (pv 1)) (ea_cons (ee_ty rfl B.n_tuple (n := "tuple") (by decide +kernel)) ea_nil))) (nomark _))))) (ess_one (es_ret ee_bl)) ess_nil)
  (ess_one (es_ret (ee_and (ee_cmp (op_eqD hc.room.units) op2_eq (ee_cb opr_len opa_len rfl B.n_len (by decide +kernel) (ea_cons (ee_v 0 (pv 0)) ea_nil)) (ee_cb opr_len opa_len rfl B.n_len (by decide +kernel) (ea_cons (ee_v 1 (pv 1)) ea_nil)) (nomark _)) (ee_one (ee_cb (cr_all rfl) opa_all rfl B.n_all (by decide +kernel) (ea_cons (ee_lc (own := [("_law_one", 2), ("_law_other", 3)]) rfl sc_l_alike.nd (ei_zip (ee_v 0 (pv 0)) (ee_v 1 (pv 1)) (fun h => RZ.pi_zipA rfl B.n_zip h)) (blkOk_by (N := N_l_alike) (sc := defScope s_l_alike) (by decide +kernel)) (by decide) (fun _ _ _ _ _ => (eg_tp rfl (egs_cons (eg_nm (pg_name (i := 2) sc_l_alike.nd rfl (by first | exact Or.inl rfl | exact Or.inr rfl))) (egs_cons (eg_nm (pg_name (i := 3) sc_l_alike.nd rfl (by first | exact Or.inl rfl | exact Or.inr rfl))) egs_nil)))) (fun _ _ _ _ _ => et_yes) (fun _ _ _ _ _ => (ee_call c_l_alike hc.blk (by omega) rfl (ea_cons (ee_v 2 (pv 2)) (ea_cons (ee_v 3 (pv 3)) ea_nil))))) ea_nil))))))) ess_nil)
  (ess_one (es_ret (ee_and (ee_cb opr_isi opa_isi rfl B.n_isinstance (by decide +kernel) (ea_cons (ee_v 0 (pv 0)) (ea_cons (ee_ty rfl B.n_int (n := "int") (by decide +kernel)) ea_nil))) (ee_and (ee_not (ee_cb opr_isi opa_isi rfl B.n_isinstance (by decide +kernel) (ea_cons (ee_v 0 (pv 0)) (ea_cons (ee_ty rfl B.n_bool (n := "bool") (by decide +kernel)) ea_nil)))) (ee_one (ee_cmp (op_eqD hc.room.units) op2_eq (ee_v 0 (pv 0)) (ee_v 1 (pv 1)) (nomark _)))))))))), rfl⟩
    obtain ⟨_, h, rfl⟩ := h
    exact h
theorem cal_l_alike (B : Bi mg) (D : DefAt K mg "_law_alike" s_l_alike ["_law_found", "_law_due"])  : Cal P w K mg base 8 "_law_alike" (g_l_alike 8) :=
  let ⟨f, fd, F, hm, hb⟩ := D.ex
  ⟨f, fd, ["_law_found", "_law_due"], ok_l_alike B hm F.kp hb F  8, hm, F.kp, hb⟩
/-! rooms_met -/
abbrev s_rooms_met : Stmt := top 1
abbrev N_rooms_met : List Str := ["web", "first", "met", "place", "other", "door"]
theorem sc_rooms_met : FnScope N_rooms_met ["web", "first"] (defScope s_rooms_met) := ⟨rfl, rfl, rfl, by decide +kernel, rfl, by decide +kernel, by decide +kernel⟩
theorem ok_rooms_met {f : Addr} {fd : FuncData} (B : Bi mg) (F : Fun K "rooms_met" "rooms_met" s_rooms_met f fd)  : FnOk P w K mg base CX0 1 f fd ["web", "first"] (spE K g_rooms_met) := by
  have h : ∃ b, FnOk P w K mg base CX0 1 f fd ["web", "first"] (spE K (fnD 2 6 b)) ∧ b = b_rooms_met := ⟨_, fn_mk F sc_rooms_met fun cdv A outer s H E hc =>
    (ess_cons (es_set (i := 2) sc_rooms_met.nd rfl (by first | exact Or.inl rfl | exact Or.inr rfl) (ee_lst (ea_cons (ee_v 1 (pv 1)) ea_nil)))
  (ess_cons (es_set (i := 3) sc_rooms_met.nd rfl (by first | exact Or.inl rfl | exact Or.inr rfl) ee_int)
  (ess_cons (es_while PassesOwn.never (et_cmp (opr_lt hc) op2_lt (ee_v 3 (pv 3)) (ee_cb opr_len opa_len rfl B.n_len (by decide +kernel) (ea_cons (ee_v 2 (pv 2)) ea_nil)) (nomark _)) (ess_cons (es_for PassesOwn.never rfl (ei_seq (ee_sub hc (ee_v 0 (pv 0)) (ee_sub hc (ee_v 2 (pv 2)) (ee_v 3 (pv 3))))) (eg_tp rfl (egs_cons (eg_nm (pg_name (i := 4) sc_rooms_met.nd rfl (by first | exact Or.inl rfl | exact Or.inr rfl))) (egs_cons (eg_nm (pg_name (i := 5) sc_rooms_met.nd rfl (by first | exact Or.inl rfl | exact Or.inr rfl))) egs_nil))) (ess_one (es_if (et_notin hc (ee_v 4 (pv 4)) (ee_v 2 (pv 2))) (ess_one (es_expr (ee_m (pe_bm PySem.F.plainAttrs_list PySem.F.slot_list_append PySem.F.type_list_append mt_append (ee_v 2 (pv 2)) (ea_cons (ee_v 4 (pv 4)) ea_nil)) opm_append))) ess_nil)))
  (ess_one (es_aug (ps_aug (i := 3) sc_rooms_met.nd rfl (by first | exact Or.inl rfl | exact Or.inr rfl) ee_int ip_add) op2_iadd))))
  (ess_one (es_ret (ee_v 2 (pv 2))))))), rfl⟩
  obtain ⟨_, h, rfl⟩ := h
  exact h
theorem cal_rooms_met (B : Bi mg) (D : DefAt K mg "rooms_met" s_rooms_met ["web", "first"])  : Cal P w K mg base 1 "rooms_met" g_rooms_met :=
  let ⟨f, fd, F, hm, hb⟩ := D.ex
  ⟨f, fd, ["web", "first"], ok_rooms_met B F , hm, F.kp, hb⟩
/-! renumbered -/
abbrev s_renumbered : Stmt := top 3
abbrev N_renumbered : List Str := ["web", "numbers", "made", "number", "doors", "other", "door"]
theorem sc_renumbered : FnScope N_renumbered ["web", "numbers"] (defScope s_renumbered) := ⟨rfl, rfl, rfl, by decide +kernel, rfl, by decide +kernel, by decide +kernel⟩
theorem ok_renumbered {f : Addr} {fd : FuncData} (B : Bi mg) (F : Fun K "renumbered" "renumbered" s_renumbered f fd)  : FnOk P w K mg base CX0 1 f fd ["web", "numbers"] (spE K g_renumbered) := by
  have h : ∃ b, FnOk P w K mg base CX0 1 f fd ["web", "numbers"] (spE K (fnD 2 7 b)) ∧ b = b_renumbered := ⟨_, fn_mk F sc_renumbered fun cdv A outer s H E hc =>
    (ess_cons (es_set (i := 2) sc_renumbered.nd rfl (by first | exact Or.inl rfl | exact Or.inr rfl) (ee_op opr_mul op2_mul (ee_lst (ea_cons (ee_tup ea_nil) ea_nil)) (ee_cb opr_len opa_len rfl B.n_len (by decide +kernel) (ea_cons (ee_v 0 (pv 0)) ea_nil))))
  (ess_cons (es_for PassesOwn.never rfl (ei_enum rfl B.n_enumerate (ee_v 0 (pv 0))) (eg_tp rfl (egs_cons (eg_nm (pg_name (i := 3) sc_renumbered.nd rfl (by first | exact Or.inl rfl | exact Or.inr rfl))) (egs_cons (eg_nm (pg_name (i := 4) sc_renumbered.nd rfl (by first | exact Or.inl rfl | exact Or.inr rfl))) egs_nil))) (ess_one (es_asg (ee_ct call_tuple_of opa_tuple rfl B.n_tuple (by decide +kernel) (ea_cons (ee_lc (own := [("other", 5), ("door", 6)]) rfl sc_renumbered.nd (ei_seq (ee_v 4 (pv 4))) (blkOk_by (N := N_renumbered) (sc := defScope s_renumbered) (by decide +kernel)) (by decide) (fun _ _ _ _ _ => (eg_tp rfl (egs_cons (eg_nm (pg_name (i := 5) sc_renumbered.nd rfl (by first | exact Or.inl rfl | exact Or.inr rfl))) (egs_cons (eg_nm (pg_name (i := 6) sc_renumbered.nd rfl (by first | exact Or.inl rfl | exact Or.inr rfl))) egs_nil)))) (fun _ _ _ _ _ => et_yes) (fun _ _ _ _ _ => (ee_tup (ea_cons (ee_sub hc.blk (ee_v 1 (pv 1)) (ee_v 5 (pv 5))) (ea_cons (ee_v 6 (pv 6)) ea_nil))))) ea_nil)) (eG_sub hc (ee_v 2 (pv 2)) (ee_sub hc (ee_v 1 (pv 1)) (ee_v 3 (pv 3)))))))
  (ess_one (es_ret (ee_ct call_tuple_of opa_tuple rfl B.n_tuple (by decide +kernel) (ea_cons (ee_v 2 (pv 2)) ea_nil)))))), rfl⟩
  obtain ⟨_, h, rfl⟩ := h
  exact h
theorem cal_renumbered (B : Bi mg) (D : DefAt K mg "renumbered" s_renumbered ["web", "numbers"])  : Cal P w K mg base 1 "renumbered" g_renumbered :=
  let ⟨f, fd, F, hm, hb⟩ := D.ex
  ⟨f, fd, ["web", "numbers"], ok_renumbered B F , hm, F.kp, hb⟩
/-! told_from -/
abbrev s_told_from : Stmt := top 4
abbrev N_told_from : List Str := ["web", "room", "numbers", "place", "number"]
theorem sc_told_from : FnScope N_told_from ["web", "room"] (defScope s_told_from) := ⟨rfl, rfl, rfl, by decide +kernel, rfl, by decide +kernel, by decide +kernel⟩
theorem ok_told_from {f : Addr} {fd : FuncData} (B : Bi mg) (F : Fun K "told_from" "told_from" s_told_from f fd) (c_rooms_met : Cal P w K mg base 1 "rooms_met" g_rooms_met) (c_renumbered : Cal P w K mg base 1 "renumbered" g_renumbered) : FnOk P w K mg base CX0 2 f fd ["web", "room"] (spE K g_told_from) := by
  have h : ∃ b, FnOk P w K mg base CX0 2 f fd ["web", "room"] (spE K (fnD 2 5 b)) ∧ b = b_told_from := ⟨_, fn_mk F sc_told_from fun cdv A outer s H E hc =>
    (ess_cons (es_set (i := 2) sc_told_from.nd rfl (by first | exact Or.inl rfl | exact Or.inr rfl) (ee_op opr_mul op2_mul (ee_lst (ea_cons ee_int ea_nil)) (ee_cb opr_len opa_len rfl B.n_len (by decide +kernel) (ea_cons (ee_v 0 (pv 0)) ea_nil))))
  (ess_cons (es_for PassesOwn.never rfl (ei_enum rfl B.n_enumerate (ee_call c_rooms_met hc (by omega) rfl (ea_cons (ee_v 0 (pv 0)) (ea_cons (ee_v 1 (pv 1)) ea_nil)))) (eg_tp rfl (egs_cons (eg_nm (pg_name (i := 3) sc_told_from.nd rfl (by first | exact Or.inl rfl | exact Or.inr rfl))) (egs_cons (eg_nm (pg_name (i := 4) sc_told_from.nd rfl (by first | exact Or.inl rfl | exact Or.inr rfl))) egs_nil))) (ess_one (es_asg (ee_v 3 (pv 3)) (eG_sub hc (ee_v 2 (pv 2)) (ee_v 4 (pv 4))))))
  (ess_one (es_ret (ee_call c_renumbered hc (by omega) rfl (ea_cons (ee_v 0 (pv 0)) (ea_cons (ee_v 2 (pv 2)) ea_nil))))))), rfl⟩
  obtain ⟨_, h, rfl⟩ := h
  exact h
theorem cal_told_from (B : Bi mg) (D : DefAt K mg "told_from" s_told_from ["web", "room"]) (c_rooms_met : Cal P w K mg base 1 "rooms_met" g_rooms_met) (c_renumbered : Cal P w K mg base 1 "renumbered" g_renumbered) : Cal P w K mg base 2 "told_from" g_told_from :=
  let ⟨f, fd, F, hm, hb⟩ := D.ex
  ⟨f, fd, ["web", "room"], ok_told_from B F c_rooms_met c_renumbered, hm, F.kp, hb⟩
/-! same_web -/
abbrev s_same_web : Stmt := top 5
abbrev N_same_web : List Str := ["one", "a", "other", "b", "found", "number", "twin"]
theorem sc_same_web : FnScope N_same_web ["one", "a", "other", "b"] (defScope s_same_web) := ⟨rfl, rfl, rfl, by decide +kernel, rfl, by decide +kernel, by decide +kernel⟩
theorem ok_same_web {f : Addr} {fd : FuncData} (B : Bi mg) (F : Fun K "same_web" "same_web" s_same_web f fd) (c_told_from : Cal P w K mg base 2 "told_from" g_told_from) (c_rooms_met : Cal P w K mg base 1 "rooms_met" g_rooms_met) : FnOk P w K mg base CX0 3 f fd ["one", "a", "other", "b"] (spE K g_same_web) := by
  have h : ∃ b, FnOk P w K mg base CX0 3 f fd ["one", "a", "other", "b"] (spE K (fnD 4 7 b)) ∧ b = b_same_web := ⟨_, fn_mk F sc_same_web fun cdv A outer s H E hc =>
    (ess_cons (es_if (et_cmp (op_neD hc.room.units) op2_ne (ee_call c_told_from hc (by omega) rfl (ea_cons (ee_v 0 (pv 0)) (ea_cons (ee_v 1 (pv 1)) ea_nil))) (ee_call c_told_from hc (by omega) rfl (ea_cons (ee_v 2 (pv 2)) (ea_cons (ee_v 3 (pv 3)) ea_nil))) (nomark _)) (ess_one (es_ret ee_non)) ess_nil)
  (ess_cons (es_set (i := 4) sc_same_web.nd rfl (by first | exact Or.inl rfl | exact Or.inr rfl) (ee_op opr_mul op2_mul (ee_lst (ea_cons ee_int ea_nil)) (ee_cb opr_len opa_len rfl B.n_len (by decide +kernel) (ea_cons (ee_v 0 (pv 0)) ea_nil))))
  (ess_cons (es_for PassesOwn.never rfl (ei_zip (ee_call c_rooms_met hc (by omega) rfl (ea_cons (ee_v 0 (pv 0)) (ea_cons (ee_v 1 (pv 1)) ea_nil))) (ee_call c_rooms_met hc (by omega) rfl (ea_cons (ee_v 2 (pv 2)) (ea_cons (ee_v 3 (pv 3)) ea_nil))) (fun h => RZ.pi_zipA rfl B.n_zip h)) (eg_tp rfl (egs_cons (eg_nm (pg_name (i := 5) sc_same_web.nd rfl (by first | exact Or.inl rfl | exact Or.inr rfl))) (egs_cons (eg_nm (pg_name (i := 6) sc_same_web.nd rfl (by first | exact Or.inl rfl | exact Or.inr rfl))) egs_nil))) (ess_one (es_asg (ee_v 6 (pv 6)) (eG_sub hc (ee_v 4 (pv 4)) (ee_v 5 (pv 5))))))
  (ess_one (es_ret (ee_ct call_tuple_of opa_tuple rfl B.n_tuple (by decide +kernel) (ea_cons (ee_v 4 (pv 4)) ea_nil))))))), rfl⟩
  obtain ⟨_, h, rfl⟩ := h
  exact h
theorem cal_same_web (B : Bi mg) (D : DefAt K mg "same_web" s_same_web ["one", "a", "other", "b"]) (c_told_from : Cal P w K mg base 2 "told_from" g_told_from) (c_rooms_met : Cal P w K mg base 1 "rooms_met" g_rooms_met) : Cal P w K mg base 3 "same_web" g_same_web :=
  let ⟨f, fd, F, hm, hb⟩ := D.ex
  ⟨f, fd, ["one", "a", "other", "b"], ok_same_web B F c_told_from c_rooms_met, hm, F.kp, hb⟩
/-! law -/
abbrev s_law : Stmt := top 26
abbrev N_law : List Str := ["_law_script", "_law_cells", "_law_k", "_law_box_here", "_law_web_here", "_law_a", "_law_cases", "_law_joined_here", "_law_strange", "_law_other", "_law_numbers", "_law_one", "_law_first", "_law_two", "_law_second", "_law_due", "_law_back", "_law_room"]
theorem sc_law : FnScope N_law ["_law_script"] (defScope s_law) := ⟨rfl, rfl, rfl, by decide +kernel, rfl, by decide +kernel, by decide +kernel⟩
theorem ok_law {f : Addr} {fd : FuncData} (B : Bi mg) (F : Fun K "law" "law" s_law f fd) (c_l_folded : Cal P w K mg base 1 "_law_folded" g_l_folded) (c_l_box : Cal P w K mg base 1 "_law_box" g_l_box) (c_l_any_web : Cal P w K mg base 4 "_law_any_web" g_l_any_web_v4) (c_l_renamed : Cal P w K mg base 3 "_law_renamed" g_l_renamed_v3) (c_l_take : Cal P w K mg base 1 "_law_take" g_l_take) (c_l_rejoined : Cal P w K mg base 2 "_law_rejoined" g_l_rejoined) (c_l_is_web : Cal P w K mg base 2 "_law_is_web" g_l_is_web) (c_l_twin : Cal P w K mg base 1 "_law_twin" g_l_twin) (c_l_alike : Cal P w K mg base 8 "_law_alike" (g_l_alike 8)) (c_same_web : Cal P w K mg base 3 "same_web" g_same_web) : FnOk P w K mg base CX0 9 f fd ["_law_script"] (spE K g_law_v85) := by
  have h : ∃ b, FnOk P w K mg base CX0 9 f fd ["_law_script"] (spE K (fnD 1 18 b)) ∧ b = b_law_v85 := ⟨_, fn_mk F sc_law fun cdv A outer s H E hc =>
    (ess_cons (es_set (i := 1) sc_law.nd rfl (by first | exact Or.inl rfl | exact Or.inr rfl) (ee_call c_l_folded hc (by omega) rfl (ea_cons (ee_v 0 (pv 0)) (ea_cons ee_int ea_nil))))
  (ess_cons (es_for PassesOwn.never rfl (ei_range1 rfl B.n_range (ee_cb (call_max2 rfl) opa_max2 rfl B.n_max (by decide +kernel) (ea_cons ee_int (ea_cons (ee_cb opr_len opa_len rfl B.n_len (by decide +kernel) (ea_cons (ee_v 1 (pv 1)) ea_nil)) ea_nil)))) (eg_nm (pg_name (i := 2) sc_law.nd rfl (by first | exact Or.inl rfl | exact Or.inr rfl))) (ess_cons (es_set (i := 3) sc_law.nd rfl (by first | exact Or.inl rfl | exact Or.inr rfl) (ee_call c_l_box hc (by omega) rfl (ea_cons (ee_v 1 (pv 1)) (ea_cons (ee_v 2 (pv 2)) ea_nil))))
  (ess_cons (es_set (i := 4) sc_law.nd rfl (by first | exact Or.inl rfl | exact Or.inr rfl) (ee_call c_l_any_web hc (by omega) rfl (ea_cons (ee_v 3 (pv 3)) ea_nil)))
  (ess_cons (es_asg (ee_call c_l_renamed hc (by omega) rfl (ea_cons (ee_v 3 (pv 3)) (ea_cons (ee_v 4 (pv 4)) ea_nil))) (eG_pat (eg_tp rfl (egs_cons (eg_nm (pg_name (i := 9) sc_law.nd rfl (by first | exact Or.inl rfl | exact Or.inr rfl))) (egs_cons (eg_nm (pg_name (i := 10) sc_law.nd rfl (by first | exact Or.inl rfl | exact Or.inr rfl))) egs_nil)))))
  (ess_cons (es_set (i := 5) sc_law.nd rfl (by first | exact Or.inl rfl | exact Or.inr rfl) (ee_call c_l_take hc (by omega) rfl (ea_cons (ee_v 3 (pv 3)) (ea_cons (ee_cb opr_len opa_len rfl B.n_len (by decide +kernel) (ea_cons (ee_v 4 (pv 4)) ea_nil)) ea_nil))))
  (ess_cons (es_set (i := 6) sc_law.nd rfl (by first | exact Or.inl rfl | exact Or.inr rfl) (ee_lst (ea_cons (ee_tup (ea_cons (ee_v 4 (pv 4)) (ea_cons (ee_v 5 (pv 5)) (ea_cons (ee_v 9 (pv 9)) (ea_cons (ee_sub hc (ee_v 10 (pv 10)) (ee_v 5 (pv 5))) ea_nil))))) (ea_cons (ee_tup (ea_cons (ee_v 4 (pv 4)) (ea_cons (ee_v 5 (pv 5)) (ea_cons (ee_v 9 (pv 9)) (ea_cons (ee_call c_l_take hc (by omega) rfl (ea_cons (ee_v 3 (pv 3)) (ea_cons (ee_cb opr_len opa_len rfl B.n_len (by decide +kernel) (ea_cons (ee_v 4 (pv 4)) ea_nil)) ea_nil))) ea_nil))))) ea_nil))))
  (ess_cons (es_set (i := 6) sc_law.nd rfl (by first | exact Or.inl rfl | exact Or.inr rfl) (ee_op opr_add op2_add (ee_v 6 (pv 6)) (ee_lst (ea_cons (ee_tup (ea_cons (ee_v 4 (pv 4)) (ea_cons (ee_v 5 (pv 5)) (ea_cons (ee_v 4 (pv 4)) (ea_cons (ee_call c_l_take hc (by omega) rfl (ea_cons (ee_v 3 (pv 3)) (ea_cons (ee_cb opr_len opa_len rfl B.n_len (by decide +kernel) (ea_cons (ee_v 4 (pv 4)) ea_nil)) ea_nil))) ea_nil))))) (ea_cons (ee_tup (ea_cons (ee_v 4 (pv 4)) (ea_cons (ee_v 5 (pv 5)) (ea_cons (ee_v 4 (pv 4)) (ea_cons (ee_v 5 (pv 5)) ea_nil))))) ea_nil)))))
  (ess_cons (es_set (i := 7) sc_law.nd rfl (by first | exact Or.inl rfl | exact Or.inr rfl) (ee_call c_l_rejoined hc (by omega) rfl (ea_cons (ee_v 3 (pv 3)) (ea_cons (ee_v 4 (pv 4)) ea_nil))))
  (ess_cons (es_if (et_val (ee_call c_l_is_web hc (by omega) rfl (ea_cons (ee_v 7 (pv 7)) ea_nil))) (ess_one (es_expr (ee_m (pe_bm PySem.F.plainAttrs_list PySem.F.slot_list_append PySem.F.type_list_append mt_append (ee_v 6 (pv 6)) (ea_cons (ee_tup (ea_cons (ee_v 9 (pv 9)) (ea_cons (ee_sub hc (ee_v 10 (pv 10)) (ee_v 5 (pv 5))) (ea_cons (ee_v 7 (pv 7)) (ea_cons (ee_v 5 (pv 5)) ea_nil))))) ea_nil)) opm_append))) ess_nil)
  (ess_cons (es_set (i := 8) sc_law.nd rfl (by first | exact Or.inl rfl | exact Or.inr rfl) (ee_call c_l_any_web hc (by omega) rfl (ea_cons (ee_v 3 (pv 3)) ea_nil)))
  (ess_cons (es_expr (ee_m (pe_bm PySem.F.plainAttrs_list PySem.F.slot_list_append PySem.F.type_list_append mt_append (ee_v 6 (pv 6)) (ea_cons (ee_tup (ea_cons (ee_v 8 (pv 8)) (ea_cons (ee_call c_l_take hc (by omega) rfl (ea_cons (ee_v 3 (pv 3)) (ea_cons (ee_cb opr_len opa_len rfl B.n_len (by decide +kernel) (ea_cons (ee_v 8 (pv 8)) ea_nil)) ea_nil))) (ea_cons (ee_v 4 (pv 4)) (ea_cons (ee_v 5 (pv 5)) ea_nil))))) ea_nil)) opm_append))
  (ess_one (es_for PassesOwn.never rfl (ei_seq (ee_v 6 (pv 6))) (eg_tp rfl (egs_cons (eg_nm (pg_name (i := 11) sc_law.nd rfl (by first | exact Or.inl rfl | exact Or.inr rfl))) (egs_cons (eg_nm (pg_name (i := 12) sc_law.nd rfl (by first | exact Or.inl rfl | exact Or.inr rfl))) (egs_cons (eg_nm (pg_name (i := 13) sc_law.nd rfl (by first | exact Or.inl rfl | exact Or.inr rfl))) (egs_cons (eg_nm (pg_name (i := 14) sc_law.nd rfl (by first | exact Or.inl rfl | exact Or.inr rfl))) egs_nil))))) (ess_cons (es_set (i := 15) sc_law.nd rfl (by first | exact Or.inl rfl | exact Or.inr rfl) (ee_call c_l_twin hc (by omega) rfl (ea_cons (ee_v 11 (pv 11)) (ea_cons (ee_v 12 (pv 12)) (ea_cons (ee_v 13 (pv 13)) (ea_cons (ee_v 14 (pv 14)) ea_nil))))))
  (ess_cons (es_if (et_not (et_val (ee_call c_l_alike hc (by omega) rfl (ea_cons (ee_call c_same_web hc (by omega) rfl (ea_cons (ee_v 11 (pv 11)) (ea_cons (ee_v 12 (pv 12)) (ea_cons (ee_v 13 (pv 13)) (ea_cons (ee_v 14 (pv 14)) ea_nil))))) (ea_cons (ee_v 15 (pv 15)) ea_nil))))) (ess_one (es_ret ee_bl)) ess_nil)
  (ess_cons (es_set (i := 16) sc_law.nd rfl (by first | exact Or.inl rfl | exact Or.inr rfl) ee_non)
  (ess_cons (es_if (et_cmp opr_isnot op2_isnot (ee_v 15 (pv 15)) ee_non (nomark _)) (ess_one (es_set (i := 16) sc_law.nd rfl (by first | exact Or.inl rfl | exact Or.inr rfl) (ee_ct call_tuple_of opa_tuple rfl B.n_tuple (by decide +kernel) (ea_cons (ee_lc (own := [("_law_room", 17)]) rfl sc_law.nd (ei_range1 rfl B.n_range (ee_cb opr_len opa_len rfl B.n_len (by decide +kernel) (ea_cons (ee_v 13 (pv 13)) ea_nil))) (blkOk_by (N := N_law) (sc := defScope s_law) (by decide +kernel)) (by decide) (fun _ _ _ _ _ => (eg_nm (pg_name (i := 17) sc_law.nd rfl (by first | exact Or.inl rfl | exact Or.inr rfl)))) (fun _ _ _ _ _ => et_yes) (fun _ _ _ _ _ => (ee_mT (pe_bmF PySem.F.plainAttrs_tuple PySem.F.slot_tuple_index PySem.F.type_tuple_index mt_tindex (ee_v 15 (pv 15)) (ea_cons (ee_v 17 (pv 17)) ea_nil))))) ea_nil)))) ess_nil)
  (ess_one (es_if (et_not (et_val (ee_call c_l_alike hc (by omega) rfl (ea_cons (ee_call c_same_web hc (by omega) rfl (ea_cons (ee_v 13 (pv 13)) (ea_cons (ee_v 14 (pv 14)) (ea_cons (ee_v 11 (pv 11)) (ea_cons (ee_v 12 (pv 12)) ea_nil))))) (ea_cons (ee_v 16 (pv 16)) ea_nil))))) (ess_one (es_ret ee_bl)) ess_nil)))))))))))))))))))
  (ess_one (es_ret ee_bl)))), rfl⟩
  obtain ⟨_, h, rfl⟩ := h
  exact h
theorem cal_law (B : Bi mg) (D : DefAt K mg "law" s_law ["_law_script"]) (c_l_folded : Cal P w K mg base 1 "_law_folded" g_l_folded) (c_l_box : Cal P w K mg base 1 "_law_box" g_l_box) (c_l_any_web : Cal P w K mg base 4 "_law_any_web" g_l_any_web_v4) (c_l_renamed : Cal P w K mg base 3 "_law_renamed" g_l_renamed_v3) (c_l_take : Cal P w K mg base 1 "_law_take" g_l_take) (c_l_rejoined : Cal P w K mg base 2 "_law_rejoined" g_l_rejoined) (c_l_is_web : Cal P w K mg base 2 "_law_is_web" g_l_is_web) (c_l_twin : Cal P w K mg base 1 "_law_twin" g_l_twin) (c_l_alike : Cal P w K mg base 8 "_law_alike" (g_l_alike 8)) (c_same_web : Cal P w K mg base 3 "same_web" g_same_web) : Cal P w K mg base 9 "law" g_law_v85 :=
  let ⟨f, fd, F, hm, hb⟩ := D.ex
  ⟨f, fd, ["_law_script"], ok_law B F c_l_folded c_l_box c_l_any_web c_l_renamed c_l_take c_l_rejoined c_l_is_web c_l_twin c_l_alike c_same_web, hm, F.kp, hb⟩
end
theorem bd_l_folded : ∀ (kV doc pm : Value) (an : Option Addr) (cdv ct : Value) (us : List Value), us.length = 2 → bindArgs (PySem.W.fnOf "_law_folded" "_law_folded" (defArgs s_l_folded) (defBody s_l_folded) (defScope s_l_folded) .none kV doc pm an cdv ct) ⟨us, []⟩ = pure ((["_law_script", "_law_many"] : List Str).zip us) := fun _ _ _ _ _ _ us hl => match us, hl with | [_, _], _ => rfl
theorem bd_l_box : ∀ (kV doc pm : Value) (an : Option Addr) (cdv ct : Value) (us : List Value), us.length = 2 → bindArgs (PySem.W.fnOf "_law_box" "_law_box" (defArgs s_l_box) (defBody s_l_box) (defScope s_l_box) .none kV doc pm an cdv ct) ⟨us, []⟩ = pure ((["_law_script", "_law_k"] : List Str).zip us) := fun _ _ _ _ _ _ us hl => match us, hl with | [_, _], _ => rfl
theorem bd_l_take : ∀ (kV doc pm : Value) (an : Option Addr) (cdv ct : Value) (us : List Value), us.length = 2 → bindArgs (PySem.W.fnOf "_law_take" "_law_take" (defArgs s_l_take) (defBody s_l_take) (defScope s_l_take) .none kV doc pm an cdv ct) ⟨us, []⟩ = pure ((["_law_box_here", "_law_many"] : List Str).zip us) := fun _ _ _ _ _ _ us hl => match us, hl with | [_, _], _ => rfl
theorem bd_l_joined : ∀ (kV doc pm : Value) (an : Option Addr) (cdv ct : Value) (us : List Value), us.length = 1 → bindArgs (PySem.W.fnOf "_law_joined" "_law_joined" (defArgs s_l_joined) (defBody s_l_joined) (defScope s_l_joined) .none kV doc pm an cdv ct) ⟨us, []⟩ = pure ((["_law_halves"] : List Str).zip us) := fun _ _ _ _ _ _ us hl => match us, hl with | [_], _ => rfl
theorem bd_l_doors_put : ∀ (kV doc pm : Value) (an : Option Addr) (cdv ct : Value) (us : List Value), us.length = 3 → bindArgs (PySem.W.fnOf "_law_doors_put" "_law_doors_put" (defArgs s_l_doors_put) (defBody s_l_doors_put) (defScope s_l_doors_put) .none kV doc pm an cdv ct) ⟨us, []⟩ = pure ((["_law_box_here", "_law_pairs", "_law_many"] : List Str).zip us) := fun _ _ _ _ _ _ us hl => match us, hl with | [_, _, _], _ => rfl
theorem bd_l_web : ∀ (kV doc pm : Value) (an : Option Addr) (cdv ct : Value) (us : List Value), us.length = 3 → bindArgs (PySem.W.fnOf "_law_web" "_law_web" (defArgs s_l_web) (defBody s_l_web) (defScope s_l_web) .none kV doc pm an cdv ct) ⟨us, []⟩ = pure ((["_law_box_here", "_law_many", "_law_most"] : List Str).zip us) := fun _ _ _ _ _ _ us hl => match us, hl with | [_, _, _], _ => rfl
theorem bd_l_ring : ∀ (kV doc pm : Value) (an : Option Addr) (cdv ct : Value) (us : List Value), us.length = 1 → bindArgs (PySem.W.fnOf "_law_ring" "_law_ring" (defArgs s_l_ring) (defBody s_l_ring) (defScope s_l_ring) .none kV doc pm an cdv ct) ⟨us, []⟩ = pure ((["_law_many"] : List Str).zip us) := fun _ _ _ _ _ _ us hl => match us, hl with | [_], _ => rfl
theorem bd_l_turn : ∀ (kV doc pm : Value) (an : Option Addr) (cdv ct : Value) (us : List Value), us.length = 3 → bindArgs (PySem.W.fnOf "_law_turn" "_law_turn" (defArgs s_l_turn) (defBody s_l_turn) (defScope s_l_turn) .none kV doc pm an cdv ct) ⟨us, []⟩ = pure ((["_law_box_here", "_law_many", "_law_own"] : List Str).zip us) := fun _ _ _ _ _ _ us hl => match us, hl with | [_, _, _], _ => rfl
theorem bd_l_ends : ∀ (kV doc pm : Value) (an : Option Addr) (cdv ct : Value) (us : List Value), us.length = 1 → bindArgs (PySem.W.fnOf "_law_ends" "_law_ends" (defArgs s_l_ends) (defBody s_l_ends) (defScope s_l_ends) .none kV doc pm an cdv ct) ⟨us, []⟩ = pure ((["_law_web_here"] : List Str).zip us) := fun _ _ _ _ _ _ us hl => match us, hl with | [_], _ => rfl
theorem bd_l_sheeted : ∀ (kV doc pm : Value) (an : Option Addr) (cdv ct : Value) (us : List Value), us.length = 3 → bindArgs (PySem.W.fnOf "_law_sheeted" "_law_sheeted" (defArgs s_l_sheeted) (defBody s_l_sheeted) (defScope s_l_sheeted) .none kV doc pm an cdv ct) ⟨us, []⟩ = pure ((["_law_web_here", "_law_turns", "_law_many"] : List Str).zip us) := fun _ _ _ _ _ _ us hl => match us, hl with | [_, _, _], _ => rfl
theorem bd_l_reached : ∀ (kV doc pm : Value) (an : Option Addr) (cdv ct : Value) (us : List Value), us.length = 2 → bindArgs (PySem.W.fnOf "_law_reached" "_law_reached" (defArgs s_l_reached) (defBody s_l_reached) (defScope s_l_reached) .none kV doc pm an cdv ct) ⟨us, []⟩ = pure ((["_law_web_here", "_law_room"] : List Str).zip us) := fun _ _ _ _ _ _ us hl => match us, hl with | [_, _], _ => rfl
theorem bd_l_covered : ∀ (kV doc pm : Value) (an : Option Addr) (cdv ct : Value) (us : List Value), us.length = 3 → bindArgs (PySem.W.fnOf "_law_covered" "_law_covered" (defArgs s_l_covered) (defBody s_l_covered) (defScope s_l_covered) .none kV doc pm an cdv ct) ⟨us, []⟩ = pure ((["_law_box_here", "_law_web_here", "_law_many"] : List Str).zip us) := fun _ _ _ _ _ _ us hl => match us, hl with | [_, _, _], _ => rfl
theorem bd_l_any_web : ∀ (kV doc pm : Value) (an : Option Addr) (cdv ct : Value) (us : List Value), us.length = 1 → bindArgs (PySem.W.fnOf "_law_any_web" "_law_any_web" (defArgs s_l_any_web) (defBody s_l_any_web) (defScope s_l_any_web) .none kV doc pm an cdv ct) ⟨us, []⟩ = pure ((["_law_box_here"] : List Str).zip us) := fun _ _ _ _ _ _ us hl => match us, hl with | [_], _ => rfl
theorem bd_l_renamed : ∀ (kV doc pm : Value) (an : Option Addr) (cdv ct : Value) (us : List Value), us.length = 2 → bindArgs (PySem.W.fnOf "_law_renamed" "_law_renamed" (defArgs s_l_renamed) (defBody s_l_renamed) (defScope s_l_renamed) .none kV doc pm an cdv ct) ⟨us, []⟩ = pure ((["_law_box_here", "_law_web_here"] : List Str).zip us) := fun _ _ _ _ _ _ us hl => match us, hl with | [_, _], _ => rfl
theorem bd_l_rejoined : ∀ (kV doc pm : Value) (an : Option Addr) (cdv ct : Value) (us : List Value), us.length = 2 → bindArgs (PySem.W.fnOf "_law_rejoined" "_law_rejoined" (defArgs s_l_rejoined) (defBody s_l_rejoined) (defScope s_l_rejoined) .none kV doc pm an cdv ct) ⟨us, []⟩ = pure ((["_law_box_here", "_law_web_here"] : List Str).zip us) := fun _ _ _ _ _ _ us hl => match us, hl with | [_, _], _ => rfl
theorem bd_l_whole_number : ∀ (kV doc pm : Value) (an : Option Addr) (cdv ct : Value) (us : List Value), us.length = 1 → bindArgs (PySem.W.fnOf "_law_whole_number" "_law_whole_number" (defArgs s_l_whole_number) (defBody s_l_whole_number) (defScope s_l_whole_number) .none kV doc pm an cdv ct) ⟨us, []⟩ = pure ((["_law_thing"] : List Str).zip us) := fun _ _ _ _ _ _ us hl => match us, hl with | [_], _ => rfl
theorem bd_l_is_web : ∀ (kV doc pm : Value) (an : Option Addr) (cdv ct : Value) (us : List Value), us.length = 1 → bindArgs (PySem.W.fnOf "_law_is_web" "_law_is_web" (defArgs s_l_is_web) (defBody s_l_is_web) (defScope s_l_is_web) .none kV doc pm an cdv ct) ⟨us, []⟩ = pure ((["_law_thing"] : List Str).zip us) := fun _ _ _ _ _ _ us hl => match us, hl with | [_], _ => rfl
theorem bd_l_twin : ∀ (kV doc pm : Value) (an : Option Addr) (cdv ct : Value) (us : List Value), us.length = 4 → bindArgs (PySem.W.fnOf "_law_twin" "_law_twin" (defArgs s_l_twin) (defBody s_l_twin) (defScope s_l_twin) .none kV doc pm an cdv ct) ⟨us, []⟩ = pure ((["_law_one", "_law_a", "_law_other", "_law_b"] : List Str).zip us) := fun _ _ _ _ _ _ us hl => match us, hl with | [_, _, _, _], _ => rfl
theorem bd_l_alike : ∀ (kV doc pm : Value) (an : Option Addr) (cdv ct : Value) (us : List Value), us.length = 2 → bindArgs (PySem.W.fnOf "_law_alike" "_law_alike" (defArgs s_l_alike) (defBody s_l_alike) (defScope s_l_alike) .none kV doc pm an cdv ct) ⟨us, []⟩ = pure ((["_law_found", "_law_due"] : List Str).zip us) := fun _ _ _ _ _ _ us hl => match us, hl with | [_, _], _ => rfl
theorem bd_rooms_met : ∀ (kV doc pm : Value) (an : Option Addr) (cdv ct : Value) (us : List Value), us.length = 2 → bindArgs (PySem.W.fnOf "rooms_met" "rooms_met" (defArgs s_rooms_met) (defBody s_rooms_met) (defScope s_rooms_met) .none kV doc pm an cdv ct) ⟨us, []⟩ = pure ((["web", "first"] : List Str).zip us) := fun _ _ _ _ _ _ us hl => match us, hl with | [_, _], _ => rfl
theorem bd_renumbered : ∀ (kV doc pm : Value) (an : Option Addr) (cdv ct : Value) (us : List Value), us.length = 2 → bindArgs (PySem.W.fnOf "renumbered" "renumbered" (defArgs s_renumbered) (defBody s_renumbered) (defScope s_renumbered) .none kV doc pm an cdv ct) ⟨us, []⟩ = pure ((["web", "numbers"] : List Str).zip us) := fun _ _ _ _ _ _ us hl => match us, hl with | [_, _], _ => rfl
theorem bd_told_from : ∀ (kV doc pm : Value) (an : Option Addr) (cdv ct : Value) (us : List Value), us.length = 2 → bindArgs (PySem.W.fnOf "told_from" "told_from" (defArgs s_told_from) (defBody s_told_from) (defScope s_told_from) .none kV doc pm an cdv ct) ⟨us, []⟩ = pure ((["web", "room"] : List Str).zip us) := fun _ _ _ _ _ _ us hl => match us, hl with | [_, _], _ => rfl
theorem bd_same_web : ∀ (kV doc pm : Value) (an : Option Addr) (cdv ct : Value) (us : List Value), us.length = 4 → bindArgs (PySem.W.fnOf "same_web" "same_web" (defArgs s_same_web) (defBody s_same_web) (defScope s_same_web) .none kV doc pm an cdv ct) ⟨us, []⟩ = pure ((["one", "a", "other", "b"] : List Str).zip us) := fun _ _ _ _ _ _ us hl => match us, hl with | [_, _, _, _], _ => rfl
theorem bd_law : ∀ (kV doc pm : Value) (an : Option Addr) (cdv ct : Value) (us : List Value), us.length = 1 → bindArgs (PySem.W.fnOf "law" "law" (defArgs s_law) (defBody s_law) (defScope s_law) .none kV doc pm an cdv ct) ⟨us, []⟩ = pure ((["_law_script"] : List Str).zip us) := fun _ _ _ _ _ _ us hl => match us, hl with | [_], _ => rfl
end SW
namespace SW
open PySem L2
theorem all_mk {l : PySem.W.OpenLaw} {w : World} {K : PySem.W.Frag} {h : Heap} {mg : Str → Option Value} {fa : Addr} (X : K.In h) (G : h.Ns mainGlobals mg) (hfa : mg "law" = some (.ref fa))
    {f0 : Addr} {oc0 : Value} {od0 an0 : Option Addr} {sl0 : Array (Option Value)} {kV0 dc0 pm0 cd0 ct0 : Value} (a0 : PySem.W.nsIn K mainGlobals "_law_folded" = some (some (.ref f0))) (l0 : K.lookup f0 = some ⟨oc0, od0, .func (PySem.W.fnOf "_law_folded" "_law_folded" (defArgs s_l_folded) (defBody s_l_folded) (defScope s_l_folded) .none kV0 dc0 pm0 an0 cd0 ct0), sl0⟩) (c0 : PySem.W.codeIn K cd0 "_law_folded" = true) (k0 : PySem.W.keepIn K (.ref f0) = true)
    {f1 : Addr} {oc1 : Value} {od1 an1 : Option Addr} {sl1 : Array (Option Value)} {kV1 dc1 pm1 cd1 ct1 : Value} (a1 : PySem.W.nsIn K mainGlobals "_law_box" = some (some (.ref f1))) (l1 : K.lookup f1 = some ⟨oc1, od1, .func (PySem.W.fnOf "_law_box" "_law_box" (defArgs s_l_box) (defBody s_l_box) (defScope s_l_box) .none kV1 dc1 pm1 an1 cd1 ct1), sl1⟩) (c1 : PySem.W.codeIn K cd1 "_law_box" = true) (k1 : PySem.W.keepIn K (.ref f1) = true)
    {f2 : Addr} {oc2 : Value} {od2 an2 : Option Addr} {sl2 : Array (Option Value)} {kV2 dc2 pm2 cd2 ct2 : Value} (a2 : PySem.W.nsIn K mainGlobals "_law_take" = some (some (.ref f2))) (l2 : K.lookup f2 = some ⟨oc2, od2, .func (PySem.W.fnOf "_law_take" "_law_take" (defArgs s_l_take) (defBody s_l_take) (defScope s_l_take) .none kV2 dc2 pm2 an2 cd2 ct2), sl2⟩) (c2 : PySem.W.codeIn K cd2 "_law_take" = true) (k2 : PySem.W.keepIn K (.ref f2) = true)
    {f3 : Addr} {oc3 : Value} {od3 an3 : Option Addr} {sl3 : Array (Option Value)} {kV3 dc3 pm3 cd3 ct3 : Value} (a3 : PySem.W.nsIn K mainGlobals "_law_joined" = some (some (.ref f3))) (l3 : K.lookup f3 = some ⟨oc3, od3, .func (PySem.W.fnOf "_law_joined" "_law_joined" (defArgs s_l_joined) (defBody s_l_joined) (defScope s_l_joined) .none kV3 dc3 pm3 an3 cd3 ct3), sl3⟩) (c3 : PySem.W.codeIn K cd3 "_law_joined" = true) (k3 : PySem.W.keepIn K (.ref f3) = true)
    {f4 : Addr} {oc4 : Value} {od4 an4 : Option Addr} {sl4 : Array (Option Value)} {kV4 dc4 pm4 cd4 ct4 : Value} (a4 : PySem.W.nsIn K mainGlobals "_law_doors_put" = some (some (.ref f4))) (l4 : K.lookup f4 = some ⟨oc4, od4, .func (PySem.W.fnOf "_law_doors_put" "_law_doors_put" (defArgs s_l_doors_put) (defBody s_l_doors_put) (defScope s_l_doors_put) .none kV4 dc4 pm4 an4 cd4 ct4), sl4⟩) (c4 : PySem.W.codeIn K cd4 "_law_doors_put" = true) (k4 : PySem.W.keepIn K (.ref f4) = true)
    {f5 : Addr} {oc5 : Value} {od5 an5 : Option Addr} {sl5 : Array (Option Value)} {kV5 dc5 pm5 cd5 ct5 : Value} (a5 : PySem.W.nsIn K mainGlobals "_law_web" = some (some (.ref f5))) (l5 : K.lookup f5 = some ⟨oc5, od5, .func (PySem.W.fnOf "_law_web" "_law_web" (defArgs s_l_web) (defBody s_l_web) (defScope s_l_web) .none kV5 dc5 pm5 an5 cd5 ct5), sl5⟩) (c5 : PySem.W.codeIn K cd5 "_law_web" = true) (k5 : PySem.W.keepIn K (.ref f5) = true)
    {f6 : Addr} {oc6 : Value} {od6 an6 : Option Addr} {sl6 : Array (Option Value)} {kV6 dc6 pm6 cd6 ct6 : Value} (a6 : PySem.W.nsIn K mainGlobals "_law_ring" = some (some (.ref f6))) (l6 : K.lookup f6 = some ⟨oc6, od6, .func (PySem.W.fnOf "_law_ring" "_law_ring" (defArgs s_l_ring) (defBody s_l_ring) (defScope s_l_ring) .none kV6 dc6 pm6 an6 cd6 ct6), sl6⟩) (c6 : PySem.W.codeIn K cd6 "_law_ring" = true) (k6 : PySem.W.keepIn K (.ref f6) = true)
    {f7 : Addr} {oc7 : Value} {od7 an7 : Option Addr} {sl7 : Array (Option Value)} {kV7 dc7 pm7 cd7 ct7 : Value} (a7 : PySem.W.nsIn K mainGlobals "_law_turn" = some (some (.ref f7))) (l7 : K.lookup f7 = some ⟨oc7, od7, .func (PySem.W.fnOf "_law_turn" "_law_turn" (defArgs s_l_turn) (defBody s_l_turn) (defScope s_l_turn) .none kV7 dc7 pm7 an7 cd7 ct7), sl7⟩) (c7 : PySem.W.codeIn K cd7 "_law_turn" = true) (k7 : PySem.W.keepIn K (.ref f7) = true)
    {f8 : Addr} {oc8 : Value} {od8 an8 : Option Addr} {sl8 : Array (Option Value)} {kV8 dc8 pm8 cd8 ct8 : Value} (a8 : PySem.W.nsIn K mainGlobals "_law_ends" = some (some (.ref f8))) (l8 : K.lookup f8 = some ⟨oc8, od8, .func (PySem.W.fnOf "_law_ends" "_law_ends" (defArgs s_l_ends) (defBody s_l_ends) (defScope s_l_ends) .none kV8 dc8 pm8 an8 cd8 ct8), sl8⟩) (c8 : PySem.W.codeIn K cd8 "_law_ends" = true) (k8 : PySem.W.keepIn K (.ref f8) = true)
    {f9 : Addr} {oc9 : Value} {od9 an9 : Option Addr} {sl9 : Array (Option Value)} {kV9 dc9 pm9 cd9 ct9 : Value} (a9 : PySem.W.nsIn K mainGlobals "_law_sheeted" = some (some (.ref f9))) (l9 : K.lookup f9 = some ⟨oc9, od9, .func (PySem.W.fnOf "_law_sheeted" "_law_sheeted" (defArgs s_l_sheeted) (defBody s_l_sheeted) (defScope s_l_sheeted) .none kV9 dc9 pm9 an9 cd9 ct9), sl9⟩) (c9 : PySem.W.codeIn K cd9 "_law_sheeted" = true) (k9 : PySem.W.keepIn K (.ref f9) = true)
    {f10 : Addr} {oc10 : Value} {od10 an10 : Option Addr} {sl10 : Array (Option Value)} {kV10 dc10 pm10 cd10 ct10 : Value} (a10 : PySem.W.nsIn K mainGlobals "_law_reached" = some (some (.ref f10))) (l10 : K.lookup f10 = some ⟨oc10, od10, .func (PySem.W.fnOf "_law_reached" "_law_reached" (defArgs s_l_reached) (defBody s_l_reached) (defScope s_l_reached) .none kV10 dc10 pm10 an10 cd10 ct10), sl10⟩) (c10 : PySem.W.codeIn K cd10 "_law_reached" = true) (k10 : PySem.W.keepIn K (.ref f10) = true)
    {f11 : Addr} {oc11 : Value} {od11 an11 : Option Addr} {sl11 : Array (Option Value)} {kV11 dc11 pm11 cd11 ct11 : Value} (a11 : PySem.W.nsIn K mainGlobals "_law_covered" = some (some (.ref f11))) (l11 : K.lookup f11 = some ⟨oc11, od11, .func (PySem.W.fnOf "_law_covered" "_law_covered" (defArgs s_l_covered) (defBody s_l_covered) (defScope s_l_covered) .none kV11 dc11 pm11 an11 cd11 ct11), sl11⟩) (c11 : PySem.W.codeIn K cd11 "_law_covered" = true) (k11 : PySem.W.keepIn K (.ref f11) = true)
    {f12 : Addr} {oc12 : Value} {od12 an12 : Option Addr} {sl12 : Array (Option Value)} {kV12 dc12 pm12 cd12 ct12 : Value} (a12 : PySem.W.nsIn K mainGlobals "_law_any_web" = some (some (.ref f12))) (l12 : K.lookup f12 = some ⟨oc12, od12, .func (PySem.W.fnOf "_law_any_web" "_law_any_web" (defArgs s_l_any_web) (defBody s_l_any_web) (defScope s_l_any_web) .none kV12 dc12 pm12 an12 cd12 ct12), sl12⟩) (c12 : PySem.W.codeIn K cd12 "_law_any_web" = true) (k12 : PySem.W.keepIn K (.ref f12) = true)
    {f13 : Addr} {oc13 : Value} {od13 an13 : Option Addr} {sl13 : Array (Option Value)} {kV13 dc13 pm13 cd13 ct13 : Value} (a13 : PySem.W.nsIn K mainGlobals "_law_renamed" = some (some (.ref f13))) (l13 : K.lookup f13 = some ⟨oc13, od13, .func (PySem.W.fnOf "_law_renamed" "_law_renamed" (defArgs s_l_renamed) (defBody s_l_renamed) (defScope s_l_renamed) .none kV13 dc13 pm13 an13 cd13 ct13), sl13⟩) (c13 : PySem.W.codeIn K cd13 "_law_renamed" = true) (k13 : PySem.W.keepIn K (.ref f13) = true)
    {f14 : Addr} {oc14 : Value} {od14 an14 : Option Addr} {sl14 : Array (Option Value)} {kV14 dc14 pm14 cd14 ct14 : Value} (a14 : PySem.W.nsIn K mainGlobals "_law_rejoined" = some (some (.ref f14))) (l14 : K.lookup f14 = some ⟨oc14, od14, .func (PySem.W.fnOf "_law_rejoined" "_law_rejoined" (defArgs s_l_rejoined) (defBody s_l_rejoined) (defScope s_l_rejoined) .none kV14 dc14 pm14 an14 cd14 ct14), sl14⟩) (c14 : PySem.W.codeIn K cd14 "_law_rejoined" = true) (k14 : PySem.W.keepIn K (.ref f14) = true)
    {f15 : Addr} {oc15 : Value} {od15 an15 : Option Addr} {sl15 : Array (Option Value)} {kV15 dc15 pm15 cd15 ct15 : Value} (a15 : PySem.W.nsIn K mainGlobals "_law_whole_number" = some (some (.ref f15))) (l15 : K.lookup f15 = some ⟨oc15, od15, .func (PySem.W.fnOf "_law_whole_number" "_law_whole_number" (defArgs s_l_whole_number) (defBody s_l_whole_number) (defScope s_l_whole_number) .none kV15 dc15 pm15 an15 cd15 ct15), sl15⟩) (c15 : PySem.W.codeIn K cd15 "_law_whole_number" = true) (k15 : PySem.W.keepIn K (.ref f15) = true)
    {f16 : Addr} {oc16 : Value} {od16 an16 : Option Addr} {sl16 : Array (Option Value)} {kV16 dc16 pm16 cd16 ct16 : Value} (a16 : PySem.W.nsIn K mainGlobals "_law_is_web" = some (some (.ref f16))) (l16 : K.lookup f16 = some ⟨oc16, od16, .func (PySem.W.fnOf "_law_is_web" "_law_is_web" (defArgs s_l_is_web) (defBody s_l_is_web) (defScope s_l_is_web) .none kV16 dc16 pm16 an16 cd16 ct16), sl16⟩) (c16 : PySem.W.codeIn K cd16 "_law_is_web" = true) (k16 : PySem.W.keepIn K (.ref f16) = true)
    {f17 : Addr} {oc17 : Value} {od17 an17 : Option Addr} {sl17 : Array (Option Value)} {kV17 dc17 pm17 cd17 ct17 : Value} (a17 : PySem.W.nsIn K mainGlobals "_law_twin" = some (some (.ref f17))) (l17 : K.lookup f17 = some ⟨oc17, od17, .func (PySem.W.fnOf "_law_twin" "_law_twin" (defArgs s_l_twin) (defBody s_l_twin) (defScope s_l_twin) .none kV17 dc17 pm17 an17 cd17 ct17), sl17⟩) (c17 : PySem.W.codeIn K cd17 "_law_twin" = true) (k17 : PySem.W.keepIn K (.ref f17) = true)
    {f18 : Addr} {oc18 : Value} {od18 an18 : Option Addr} {sl18 : Array (Option Value)} {kV18 dc18 pm18 cd18 ct18 : Value} (a18 : PySem.W.nsIn K mainGlobals "_law_alike" = some (some (.ref f18))) (l18 : K.lookup f18 = some ⟨oc18, od18, .func (PySem.W.fnOf "_law_alike" "_law_alike" (defArgs s_l_alike) (defBody s_l_alike) (defScope s_l_alike) .none kV18 dc18 pm18 an18 cd18 ct18), sl18⟩) (c18 : PySem.W.codeIn K cd18 "_law_alike" = true) (k18 : PySem.W.keepIn K (.ref f18) = true)
    {f19 : Addr} {oc19 : Value} {od19 an19 : Option Addr} {sl19 : Array (Option Value)} {kV19 dc19 pm19 cd19 ct19 : Value} (a19 : PySem.W.nsIn K mainGlobals "rooms_met" = some (some (.ref f19))) (l19 : K.lookup f19 = some ⟨oc19, od19, .func (PySem.W.fnOf "rooms_met" "rooms_met" (defArgs s_rooms_met) (defBody s_rooms_met) (defScope s_rooms_met) .none kV19 dc19 pm19 an19 cd19 ct19), sl19⟩) (c19 : PySem.W.codeIn K cd19 "rooms_met" = true) (k19 : PySem.W.keepIn K (.ref f19) = true)
    {f20 : Addr} {oc20 : Value} {od20 an20 : Option Addr} {sl20 : Array (Option Value)} {kV20 dc20 pm20 cd20 ct20 : Value} (a20 : PySem.W.nsIn K mainGlobals "renumbered" = some (some (.ref f20))) (l20 : K.lookup f20 = some ⟨oc20, od20, .func (PySem.W.fnOf "renumbered" "renumbered" (defArgs s_renumbered) (defBody s_renumbered) (defScope s_renumbered) .none kV20 dc20 pm20 an20 cd20 ct20), sl20⟩) (c20 : PySem.W.codeIn K cd20 "renumbered" = true) (k20 : PySem.W.keepIn K (.ref f20) = true)
    {f21 : Addr} {oc21 : Value} {od21 an21 : Option Addr} {sl21 : Array (Option Value)} {kV21 dc21 pm21 cd21 ct21 : Value} (a21 : PySem.W.nsIn K mainGlobals "told_from" = some (some (.ref f21))) (l21 : K.lookup f21 = some ⟨oc21, od21, .func (PySem.W.fnOf "told_from" "told_from" (defArgs s_told_from) (defBody s_told_from) (defScope s_told_from) .none kV21 dc21 pm21 an21 cd21 ct21), sl21⟩) (c21 : PySem.W.codeIn K cd21 "told_from" = true) (k21 : PySem.W.keepIn K (.ref f21) = true)
    {f22 : Addr} {oc22 : Value} {od22 an22 : Option Addr} {sl22 : Array (Option Value)} {kV22 dc22 pm22 cd22 ct22 : Value} (a22 : PySem.W.nsIn K mainGlobals "same_web" = some (some (.ref f22))) (l22 : K.lookup f22 = some ⟨oc22, od22, .func (PySem.W.fnOf "same_web" "same_web" (defArgs s_same_web) (defBody s_same_web) (defScope s_same_web) .none kV22 dc22 pm22 an22 cd22 ct22), sl22⟩) (c22 : PySem.W.codeIn K cd22 "same_web" = true) (k22 : PySem.W.keepIn K (.ref f22) = true)
    {f23 : Addr} {oc23 : Value} {od23 an23 : Option Addr} {sl23 : Array (Option Value)} {kV23 dc23 pm23 cd23 ct23 : Value} (a23 : PySem.W.nsIn K mainGlobals "law" = some (some (.ref f23))) (l23 : K.lookup f23 = some ⟨oc23, od23, .func (PySem.W.fnOf "law" "law" (defArgs s_law) (defBody s_law) (defScope s_law) .none kV23 dc23 pm23 an23 cd23 ct23), sl23⟩) (c23 : PySem.W.codeIn K cd23 "law" = true) (k23 : PySem.W.keepIn K (.ref f23) = true)
    (z_len : PySem.W.nsIn K mainGlobals "len" = some none)
    (z_abs : PySem.W.nsIn K mainGlobals "abs" = some none)
    (z_max : PySem.W.nsIn K mainGlobals "max" = some none)
    (z_min : PySem.W.nsIn K mainGlobals "min" = some none)
    (z_divmod : PySem.W.nsIn K mainGlobals "divmod" = some none)
    (z_sum : PySem.W.nsIn K mainGlobals "sum" = some none)
    (z_all : PySem.W.nsIn K mainGlobals "all" = some none)
    (z_any : PySem.W.nsIn K mainGlobals "any" = some none)
    (z_isinstance : PySem.W.nsIn K mainGlobals "isinstance" = some none)
    (z_sorted : PySem.W.nsIn K mainGlobals "sorted" = some none)
    (z_int : PySem.W.nsIn K mainGlobals "int" = some none)
    (z_bool : PySem.W.nsIn K mainGlobals "bool" = some none)
    (z_str : PySem.W.nsIn K mainGlobals "str" = some none)
    (z_list : PySem.W.nsIn K mainGlobals "list" = some none)
    (z_tuple : PySem.W.nsIn K mainGlobals "tuple" = some none)
    (z_dict : PySem.W.nsIn K mainGlobals "dict" = some none)
    (z_set : PySem.W.nsIn K mainGlobals "set" = some none)
    (z_range : PySem.W.nsIn K mainGlobals "range" = some none)
    (z_enumerate : PySem.W.nsIn K mainGlobals "enumerate" = some none)
    (z_zip : PySem.W.nsIn K mainGlobals "zip" = some none)
    (z_reversed : PySem.W.nsIn K mainGlobals "reversed" = some none)
    : ∃ fd : FuncData, (∀ (s : Shared) (v : Value), BindsTo s fd ⟨[v], []⟩ [("_law_script", v)]) ∧ ∀ base : Heap, K.In base → base.Ns mainGlobals mg → FnOk l.prog w K mg base CX0 9 fa fd ["_law_script"] (spE K g_law_v85) := by
  have B : Bi mg := ⟨PySem.W.mg_none_of X G z_len, PySem.W.mg_none_of X G z_abs, PySem.W.mg_none_of X G z_max, PySem.W.mg_none_of X G z_min, PySem.W.mg_none_of X G z_divmod, PySem.W.mg_none_of X G z_sum, PySem.W.mg_none_of X G z_all, PySem.W.mg_none_of X G z_any, PySem.W.mg_none_of X G z_isinstance, PySem.W.mg_none_of X G z_sorted, PySem.W.mg_none_of X G z_int, PySem.W.mg_none_of X G z_bool, PySem.W.mg_none_of X G z_str, PySem.W.mg_none_of X G z_list, PySem.W.mg_none_of X G z_tuple, PySem.W.mg_none_of X G z_dict, PySem.W.mg_none_of X G z_set, PySem.W.mg_none_of X G z_range, PySem.W.mg_none_of X G z_enumerate, PySem.W.mg_none_of X G z_zip, PySem.W.mg_none_of X G z_reversed⟩
  have e := hfa.symm.trans (PySem.W.mg_of X G a23)
  cases e
  have FL := fun_mk (st := s_law) l23 c23 k23
  refine ⟨PySem.W.fnOf "law" "law" (defArgs s_law) (defBody s_law) (defScope s_law) .none kV23 dc23 pm23 an23 cd23 ct23, fun s v => .of_eq (bd_law kV23 dc23 pm23 an23 cd23 ct23 [v] rfl), fun base _ _ => ?_⟩
  have c_l_folded := cal_l_folded (P := l.prog) (w := w) (base := base) B (defAt X G bd_l_folded a0 l0 c0 k0) 
  have c_l_box := cal_l_box (P := l.prog) (w := w) (base := base) B (defAt X G bd_l_box a1 l1 c1 k1) 
  have c_l_take := cal_l_take (P := l.prog) (w := w) (base := base) B (defAt X G bd_l_take a2 l2 c2 k2) 
  have c_l_joined := cal_l_joined (P := l.prog) (w := w) (base := base) B (defAt X G bd_l_joined a3 l3 c3 k3) 
  have c_l_doors_put := cal_l_doors_put (P := l.prog) (w := w) (base := base) B (defAt X G bd_l_doors_put a4 l4 c4 k4) c_l_take c_l_joined
  have c_l_web := cal_l_web (P := l.prog) (w := w) (base := base) B (defAt X G bd_l_web a5 l5 c5 k5) c_l_take c_l_doors_put
  have c_l_ring := cal_l_ring (P := l.prog) (w := w) (base := base) B (defAt X G bd_l_ring a6 l6 c6 k6) 
  have c_l_turn := cal_l_turn (P := l.prog) (w := w) (base := base) B (defAt X G bd_l_turn a7 l7 c7 k7) c_l_take
  have c_l_ends := cal_l_ends (P := l.prog) (w := w) (base := base) B (defAt X G bd_l_ends a8 l8 c8 k8) 
  have c_l_sheeted := cal_l_sheeted (P := l.prog) (w := w) (base := base) B (defAt X G bd_l_sheeted a9 l9 c9 k9) c_l_ends
  have c_l_reached := cal_l_reached (P := l.prog) (w := w) (base := base) B (defAt X G bd_l_reached a10 l10 c10 k10) 
  have c_l_covered := cal_l_covered (P := l.prog) (w := w) (base := base) B (defAt X G bd_l_covered a11 l11 c11 k11) c_l_ends c_l_turn c_l_sheeted c_l_reached
  have c_l_any_web := cal_l_any_web (P := l.prog) (w := w) (base := base) B (defAt X G bd_l_any_web a12 l12 c12 k12) c_l_take c_l_web c_l_ring c_l_covered
  have c_l_renamed := cal_l_renamed (P := l.prog) (w := w) (base := base) B (defAt X G bd_l_renamed a13 l13 c13 k13) c_l_turn
  have c_l_rejoined := cal_l_rejoined (P := l.prog) (w := w) (base := base) B (defAt X G bd_l_rejoined a14 l14 c14 k14) c_l_ends c_l_take
  have c_l_whole_number := cal_l_whole_number (P := l.prog) (w := w) (base := base) B (defAt X G bd_l_whole_number a15 l15 c15 k15) 
  have c_l_is_web := cal_l_is_web (P := l.prog) (w := w) (base := base) B (defAt X G bd_l_is_web a16 l16 c16 k16) c_l_whole_number c_l_reached
  have c_l_twin := cal_l_twin (P := l.prog) (w := w) (base := base) B (defAt X G bd_l_twin a17 l17 c17 k17) 
  have c_l_alike := cal_l_alike (P := l.prog) (w := w) (base := base) B (defAt X G bd_l_alike a18 l18 c18 k18) 
  have c_rooms_met := cal_rooms_met (P := l.prog) (w := w) (base := base) B (defAt X G bd_rooms_met a19 l19 c19 k19) 
  have c_renumbered := cal_renumbered (P := l.prog) (w := w) (base := base) B (defAt X G bd_renumbered a20 l20 c20 k20) 
  have c_told_from := cal_told_from (P := l.prog) (w := w) (base := base) B (defAt X G bd_told_from a21 l21 c21 k21) c_rooms_met c_renumbered
  have c_same_web := cal_same_web (P := l.prog) (w := w) (base := base) B (defAt X G bd_same_web a22 l22 c22 k22) c_told_from c_rooms_met
  exact ok_law B FL c_l_folded c_l_box c_l_any_web c_l_renamed c_l_take c_l_rejoined c_l_is_web c_l_twin c_l_alike c_same_web
end SW
open PySem PySem.W PyProof.Rows
set_option maxRecDepth 100000 in
set_option maxHeartbeats 0 in
theorem PySem.Challenge.cw_stonewalker_k08_same_webs_holds : PySem.Challenge.rw_stonewalker_k08_same_webs.Holds := by
  w_on; o_law; k_head; (case hw => w_witness2)
  k_fill
  refine SW.walk (l := PySem.Challenge.rw_stonewalker_k08_same_webs) (k := 9) (g := SW.g_law_v85) (x := "_law_script") rfl rfl ⟨rfl, by decide, by decide⟩ (fun w h Y => PySem.W.kIn_of Y) SW.law_true ?F
  case F =>
    intro w mg fa h KX G hmg
    refine' SW.all_mk KX G hmg ?a0 ?l0 ?c0 ?k0 ?a1 ?l1 ?c1 ?k1 ?a2 ?l2 ?c2 ?k2 ?a3 ?l3 ?c3 ?k3 ?a4 ?l4 ?c4 ?k4 ?a5 ?l5 ?c5 ?k5 ?a6 ?l6 ?c6 ?k6 ?a7 ?l7 ?c7 ?k7 ?a8 ?l8 ?c8 ?k8 ?a9 ?l9 ?c9 ?k9 ?a10 ?l10 ?c10 ?k10 ?a11 ?l11 ?c11 ?k11 ?a12 ?l12 ?c12 ?k12 ?a13 ?l13 ?c13 ?k13 ?a14 ?l14 ?c14 ?k14 ?a15 ?l15 ?c15 ?k15 ?a16 ?l16 ?c16 ?k16 ?a17 ?l17 ?c17 ?k17 ?a18 ?l18 ?c18 ?k18 ?a19 ?l19 ?c19 ?k19 ?a20 ?l20 ?c20 ?k20 ?a21 ?l21 ?c21 ?k21 ?a22 ?l22 ?c22 ?k22 ?a23 ?l23 ?c23 ?k23 ?z_len ?z_abs ?z_max ?z_min ?z_divmod ?z_sum ?z_all ?z_any ?z_isinstance ?z_sorted ?z_int ?z_bool ?z_str ?z_list ?z_tuple ?z_dict ?z_set ?z_range ?z_enumerate ?z_zip ?z_reversed
    (case a0 => k_is)
    (case l0 => k_is)
    (case c0 => k_is)
    (case k0 => k_is)
    (case a1 => k_is)
    (case l1 => k_is)
    (case c1 => k_is)
    (case k1 => k_is)
    (case a2 => k_is)
    (case l2 => k_is)
    (case c2 => k_is)
    (case k2 => k_is)
    (case a3 => k_is)
    (case l3 => k_is)
    (case c3 => k_is)
    (case k3 => k_is)
    (case a4 => k_is)
    (case l4 => k_is)
    (case c4 => k_is)
    (case k4 => k_is)
    (case a5 => k_is)
    (case l5 => k_is)
    (case c5 => k_is)
    (case k5 => k_is)
    (case a6 => k_is)
    (case l6 => k_is)
    (case c6 => k_is)
    (case k6 => k_is)
    (case a7 => k_is)
    (case l7 => k_is)
    (case c7 => k_is)
    (case k7 => k_is)
    (case a8 => k_is)
    (case l8 => k_is)
    (case c8 => k_is)
    (case k8 => k_is)
    (case a9 => k_is)
    (case l9 => k_is)
    (case c9 => k_is)
    (case k9 => k_is)
    (case a10 => k_is)
    (case l10 => k_is)
    (case c10 => k_is)
    (case k10 => k_is)
    (case a11 => k_is)
    (case l11 => k_is)
    (case c11 => k_is)
    (case k11 => k_is)
    (case a12 => k_is)
    (case l12 => k_is)
    (case c12 => k_is)
    (case k12 => k_is)
    (case a13 => k_is)
    (case l13 => k_is)
    (case c13 => k_is)
    (case k13 => k_is)
    (case a14 => k_is)
    (case l14 => k_is)
    (case c14 => k_is)
    (case k14 => k_is)
    (case a15 => k_is)
    (case l15 => k_is)
    (case c15 => k_is)
    (case k15 => k_is)
    (case a16 => k_is)
    (case l16 => k_is)
    (case c16 => k_is)
    (case k16 => k_is)
    (case a17 => k_is)
    (case l17 => k_is)
    (case c17 => k_is)
    (case k17 => k_is)
    (case a18 => k_is)
    (case l18 => k_is)
    (case c18 => k_is)
    (case k18 => k_is)
    (case a19 => k_is)
    (case l19 => k_is)
    (case c19 => k_is)
    (case k19 => k_is)
    (case a20 => k_is)
    (case l20 => k_is)
    (case c20 => k_is)
    (case k20 => k_is)
    (case a21 => k_is)
    (case l21 => k_is)
    (case c21 => k_is)
    (case k21 => k_is)
    (case a22 => k_is)
    (case l22 => k_is)
    (case c22 => k_is)
    (case k22 => k_is)
    (case a23 => k_is)
    (case l23 => k_is)
    (case c23 => k_is)
    (case k23 => k_is)
    (case z_len => k_is)
    (case z_abs => k_is)
    (case z_max => k_is)
    (case z_min => k_is)
    (case z_divmod => k_is)
    (case z_sum => k_is)
    (case z_all => k_is)
    (case z_any => k_is)
    (case z_isinstance => k_is)
    (case z_sorted => k_is)
    (case z_int => k_is)
    (case z_bool => k_is)
    (case z_str => k_is)
    (case z_list => k_is)
    (case z_tuple => k_is)
    (case z_dict => k_is)
    (case z_set => k_is)
    (case z_range => k_is)
    (case z_enumerate => k_is)
    (case z_zip => k_is)
    (case z_reversed => k_is)
