import PyProof.Rows.All
import HandS.Zip
import KE.GoesZip
import KE.GoesMore
import HandS.TupSets
import KE.KeyNested
import KE.SortData
import Wide.All
import OpenK.AllK
import Wide.FinOn
import HandS.ForMost
import HandS.Conv
import HandS.IsInst
import HandS.TupLe
import HandS.TupAny
import HandS.Deep
import HandS.Rev
import HandS.Iter
import KE.KDictKeyed
import HandS.Exc
import HandS.TryOnly
import HandS.ExcOwn
import HandS.ExcIs
import HandS.SetKeys
import HandS.TupLen
import PyProof.Rows.TupDisplay
import HandS.TupMul
import KE.GoesEnum
import HandS.SetFor
import HandS.SortInts
import HandS.Style
import HandS.SortRule
import KE.KDictSum
import KE.KDictCopyH
import KE.KDictPairs
import HandS.Strs
import KE.KIndexOf
import HandS.RevRange
import HandS.More
import PyProof.ReprRoads
import HandS.Dict
import HandS.WordsExc
import KE.KIsAll
import HandS.DictTup
import PyProof.DictMoreH
import KE.DataMinMax
import PyProof.Rows.IntBool
import KE.KItemsList
import HandS.RevTup
import PyProof.SumAny
import PyProof.Rows.SeqMore
import PyProof.NeKinds
import PyProof.ReprBulk
import PyProof.Rows.ReprShort
import PySem.Challenge.RW_stonewalker_k54_webs_put_right
set_option Elab.async false
set_option linter.all false
set_option maxRecDepth 100000
/-! zip of a tuple and a list -/
namespace SW
open PySem PySem.Spec PyProof.Rows L2

end SW
/-! Sets whose members are tuples of any depth (numbers and None at the leaves): set(xs), sorted(set(xs)). Turned from flat tuples to nested ones. -/
namespace SW
open PySem PySem.Spec PyProof.Rows L2

/-- a new set -/
abbrev set0 (w : World) : Obj := { cls := .type "set", dict := none, data := .set #[] 0 (.fresh 0 0 (!w.params.followText "set-order")) }
abbrev KA := Addr × NestedKey
abbrev nkh (w : World) (k : NestedKey) : Int := NestedKey.hash w k
mutual
/-- no text anywhere -/
def bareK : NestedKey → Bool
  | .none => true
  | .num _ => true
  | .text _ => false
  | .tup ks => bareKs ks
def bareKs : List NestedKey → Bool
  | [] => true
  | k :: ks => bareK k && bareKs ks
end
mutual
/-- the value v is the key k: numbers are numbers, no truths -/
def NkR (h : Heap) : NestedKey → Value → Prop
  | .none, v => v = .none
  | .num i, v => ∃ t, v = .int i t
  | .text x, v => ∃ t, v = .str x t
  | .tup ks, v => ∃ (a : Addr) (o : Obj) (us : Array Value) (n : Nat), v = .ref a ∧ h.get? a = some o ∧ o.cls = .type "tuple" ∧ o.data = .seq us n ∧ NkRs h ks us.toList
def NkRs (h : Heap) : List NestedKey → List Value → Prop
  | [], us => us = []
  | k :: ks, us => ∃ v vs, us = v :: vs ∧ NkR h k v ∧ NkRs h ks vs
end
mutual
theorem NkR.nest {h : Heap} : ∀ {k : NestedKey} {v : Value}, NkR h k v → NestedIs h k v
  | .none, _, x => by simp only [NkR] at x; subst x; exact .none
  | .num i, _, x => by simp only [NkR] at x; obtain ⟨t, rfl⟩ := x; exact .int i t
  | .text y, _, x => by simp only [NkR] at x; obtain ⟨t, rfl⟩ := x; exact .text y t
  | .tup ks, _, x => by
    simp only [NkR] at x
    obtain ⟨a, o, us, n, rfl, h1, h2, h3, h4⟩ := x
    exact .tup h1 h2 h3 (NkRs.nest h4)
theorem NkRs.nest {h : Heap} : ∀ {ks : List NestedKey} {vs : List Value}, NkRs h ks vs → NestedAll h ks vs
  | [], _, x => by simp only [NkRs] at x; subst x; exact .nil
  | k :: ks, _, x => by
    simp only [NkRs] at x
    obtain ⟨v, vs, rfl, h1, h2⟩ := x
    exact .cons h1.nest h2.nest
end
mutual
theorem NkR.reads {h : Heap} : ∀ {k : NestedKey} {v : Value}, NkR h k v → Reads h v k.data []
  | .none, _, x => by simp only [NkR] at x; subst x; exact .none
  | .num i, _, x => by simp only [NkR] at x; obtain ⟨t, rfl⟩ := x; exact .int i t
  | .text y, _, x => by simp only [NkR] at x; obtain ⟨t, rfl⟩ := x; exact .str y t
  | .tup ks, _, x => by
    simp only [NkR] at x
    obtain ⟨a, o, us, n, rfl, h1, h2, h3, h4⟩ := x
    exact .tuple h1 h2 h3 (NkRs.reads h4)
theorem NkRs.reads {h : Heap} : ∀ {ks : List NestedKey} {vs : List Value}, NkRs h ks vs → ReadsAll h vs (NestedKey.datas ks) []
  | [], _, x => by simp only [NkRs] at x; subst x; exact .nil
  | k :: ks, _, x => by
    simp only [NkRs] at x
    obtain ⟨v, vs, rfl, h1, h2⟩ := x
    have := ReadsAll.cons h1.reads h2.reads
    exact this
end
mutual
theorem NkR.at_ {h h' : Heap} (hk : ∀ a o us n, h.get? a = some o → o.data = .seq us n → h'.get? a = some o) : ∀ {k : NestedKey} {v : Value}, NkR h k v → NkR h' k v
  | .none, _, x => by simpa only [NkR] using x
  | .num i, _, x => by simpa only [NkR] using x
  | .text y, _, x => by simpa only [NkR] using x
  | .tup ks, _, x => by
    simp only [NkR] at x ⊢
    obtain ⟨a, o, us, n, rfl, h1, h2, h3, h4⟩ := x
    exact ⟨a, o, us, n, rfl, hk _ _ _ _ h1 h3, h2, h3, NkRs.at_ hk h4⟩
theorem NkRs.at_ {h h' : Heap} (hk : ∀ a o us n, h.get? a = some o → o.data = .seq us n → h'.get? a = some o) : ∀ {ks : List NestedKey} {vs : List Value}, NkRs h ks vs → NkRs h' ks vs
  | [], _, x => by simpa only [NkRs] using x
  | k :: ks, _, x => by
    simp only [NkRs] at x ⊢
    obtain ⟨v, vs, rfl, h1, h2⟩ := x
    exact ⟨v, vs, rfl, NkR.at_ hk h1, NkRs.at_ hk h2⟩
end
/-- the tuple at a is the key k -/
structure NtK (h : Heap) (k : NestedKey) (a : Addr) : Prop where
  rel : NkR h k (.ref a)
  dep : k.depth ≤ 8
  bare : bareK k = true
theorem NtK.isK {h : Heap} {k : NestedKey} {a : Addr} (x : NtK h k a) : NestedIs h k (.ref a) := x.rel.nest
theorem NtK.inj {h : Heap} {k m : NestedKey} {a : Addr} (x : NtK h k a) (y : NtK h m a) : k = m := NestedIs.inj _ _ _ x.isK y.isK
section
variable {P : Program} {w : World} {A : Around} {E : Value → Shared → Prop} {s : Shared}
theorem ntK_hash {k : NestedKey} {b : Addr} {Q : Int → Shared → Prop} (hu : A.units + 8 < cLine) (x : NtK s.heap k b) (q : Q (nkh w k) { s with toks := s.toks + k.draws }) : wpAny (model P w) A (pyHash (.ref b)) Q E s :=
  pyHash_key _ _ _ _ _ x.isK (by have := x.dep; omega) q
theorem ntK_eq {k m : NestedKey} {b c : Addr} {Q : Bool → Shared → Prop} (hu : A.units + 8 < cLine) (x : NtK s.heap k b) (y : NtK s.heap m c) (q : Q (decide (k = m)) s) : wpAny (model P w) A (eqBool (.ref b) (.ref c)) Q E s :=
  eqAt_key k m A s _ _ x.isK y.isK (by have := x.dep; omega) _ _ _ _ (by rw [← NestedKey.decide_eq]; exact q)
theorem ntK_quiet {k : NestedKey} {b : Addr} {Q : Bool → Shared → Prop} (x : NtK s.heap k b) (q : Q true s) : wpAny (model P w) A (eqIsQuiet 8 (.ref b)) Q E s :=
  quiet_key k _ 8 s x.isK x.dep A E Q q
/-- of no class statement, n levels down -/
def NoCls (P : Program) (w : World) (n : Nat) (s : Shared) (v : Value) : Prop := ∀ (A : Around) (E : Value → Shared → Prop) (Q : Bool → Shared → Prop), Q false s → wpAny (model P w) A (ofAClassStatement n v) Q E s
def ByV (P : Program) (w : World) (n : Nat) (s : Shared) (v : Value) : Prop := ∀ (A : Around) (E : Value → Shared → Prop) (Q : Bool → Shared → Prop), Q true s → wpAny (model P w) A (hashByValue n v) Q E s
theorem NoCls.tup {n : Nat} {b : Addr} {o : Obj} {us : Array Value} {m : Nat} (ho : s.heap.get? b = some o) (hc : o.cls = .type "tuple") (hd : o.data = .seq us m) (all : ∀ v ∈ us.toList, NoCls P w n s v) : NoCls P w (n + 1) s (.ref b) := fun A E Q q => by
  have isT : s.TypeIs (.ref b) "tuple" := ⟨o, ho, hc⟩
  unfold ofAClassStatement
  refine wpAny_bind (wpAny_typeOf isT ?_)
  dsimp only
  have eT : (("tuple" : String) == "tuple") = true := by decide
  simp only [eT, if_true, Bool.not_true, Bool.false_eq_true, if_false]
  try refine wpAny_bind (wpAny_pure ?_)
  try simp only [Bool.not_true, Bool.false_eq_true, if_false]
  show wpAny _ _ (seqItems? (.ref b) >>= _) _ _ s
  refine wpAny_bind (wpAny_seqItems ho hd ?_)
  dsimp only
  refine wpAny_bind ?_
  show wpAny _ _ (forIn us _ _) _ _ s
  rw [← Array.forIn_toList]
  refine wpAny_forIn_list _ (fun rest r s' => r.1 = none ∧ s' = s ∧ ∀ v ∈ rest, NoCls P w n s v) _ ?_ ?_ _ _ ⟨rfl, rfl, all⟩
  · rintro v rest r s' ⟨hr, rfl, more⟩
    refine wpAny_bind (more v List.mem_cons_self _ _ _ ?_)
    simp only [Bool.false_eq_true, if_false]
    exact wpAny_pure ⟨rfl, rfl, fun u z => more u (List.mem_cons_of_mem _ z)⟩
  · rintro ⟨r1, r2⟩ s' ⟨hr, rfl, _⟩
    simp only at hr
    subst hr
    exact wpAny_pure q
theorem ByV.tup {n : Nat} {b : Addr} {o : Obj} {us : Array Value} {m : Nat} (ho : s.heap.get? b = some o) (hc : o.cls = .type "tuple") (hd : o.data = .seq us m) (all : ∀ v ∈ us.toList, ByV P w n s v) : ByV P w (n + 1) s (.ref b) := fun A E Q q => by
  have isT : s.TypeIs (.ref b) "tuple" := ⟨o, ho, hc⟩
  unfold hashByValue
  refine wpAny_bind (wpAny_specialOf isT F.slot_tuple_hash.lookup ?_)
  show wpAny _ _ (seqItems? (.ref b) >>= _) _ _ s
  refine wpAny_bind (wpAny_seqItems ho hd ?_)
  refine wpAny_bind ?_
  show wpAny _ _ (forIn us _ _) _ _ s
  rw [← Array.forIn_toList]
  refine wpAny_forIn_list _ (fun rest r s' => r.1 = none ∧ s' = s ∧ ∀ v ∈ rest, ByV P w n s v) _ ?_ ?_ _ _ ⟨rfl, rfl, all⟩
  · rintro v rest r s' ⟨hr, rfl, more⟩
    refine wpAny_bind (more v List.mem_cons_self _ _ _ ?_)
    simp only [Bool.not_true, Bool.false_eq_true, if_false]
    exact wpAny_pure ⟨rfl, rfl, fun u z => more u (List.mem_cons_of_mem _ z)⟩
  · rintro ⟨r1, r2⟩ s' ⟨hr, rfl, _⟩
    simp only at hr
    subst hr
    exact wpAny_pure q
theorem noCls_byValue {n : Nat} {v : Value} (h : ofAClassStatement n v = pure false) : NoCls P w n s v := fun A E Q q => by
  rw [h]; exact wpAny_pure q
theorem byV_byValue {n : Nat} {v : Value} (h : hashByValue n v = pure true) : ByV P w n s v := fun A E Q q => by
  rw [h]; exact wpAny_pure q
mutual
theorem noCls_key : ∀ (k : NestedKey) (v : Value) (n : Nat), NestedIs s.heap k v → k.depth ≤ n → NoCls P w n s v
  | .none, _, n, x, _ => by cases x; exact noCls_byValue (by cases n <;> rfl)
  | .num i, _, n, x, _ => by cases x <;> exact noCls_byValue (by cases n <;> rfl)
  | .text y, _, n, x, _ => by cases x; exact noCls_byValue (by cases n <;> rfl)
  | .tup ks, _, n, x, hn => by
    cases x with
    | tup g1 g2 g3 g4 =>
      simp only [NestedKey.depth] at hn
      cases n with
      | zero => omega
      | succ n => exact .tup g1 g2 g3 (noCls_keys ks _ n g4 (by omega))
theorem noCls_keys : ∀ (ks : List NestedKey) (vs : List Value) (n : Nat), NestedAll s.heap ks vs → NestedKey.depthAll ks ≤ n → ∀ v ∈ vs, NoCls P w n s v
  | [], _, n, x, _, v, hv => by cases x; cases hv
  | k :: ks, _, n, x, hn, v, hv => by
    cases x with
    | cons x1 x2 =>
      simp only [NestedKey.depthAll] at hn
      rcases List.mem_cons.mp hv with e | hv
      · rw [e]; exact noCls_key k _ n x1 (by omega)
      · exact noCls_keys ks _ n x2 (by omega) v hv
end
mutual
theorem byV_key : ∀ (k : NestedKey) (v : Value) (n : Nat), NestedIs s.heap k v → k.depth ≤ n → bareK k = true → ByV P w n s v
  | .none, _, n, x, _, _ => by cases x; exact byV_byValue (by cases n <;> rfl)
  | .num i, _, n, x, _, _ => by cases x <;> exact byV_byValue (by cases n <;> rfl)
  | .text y, _, n, x, _, hb => by simp [bareK] at hb
  | .tup ks, _, n, x, hn, hb => by
    cases x with
    | tup g1 g2 g3 g4 =>
      simp only [NestedKey.depth] at hn
      cases n with
      | zero => omega
      | succ n => exact .tup g1 g2 g3 (byV_keys ks _ n g4 (by omega) (by simpa [bareK] using hb))
theorem byV_keys : ∀ (ks : List NestedKey) (vs : List Value) (n : Nat), NestedAll s.heap ks vs → NestedKey.depthAll ks ≤ n → bareKs ks = true → ∀ v ∈ vs, ByV P w n s v
  | [], _, n, x, _, _, v, hv => by cases x; cases hv
  | k :: ks, _, n, x, hn, hb, v, hv => by
    cases x with
    | cons x1 x2 =>
      simp only [NestedKey.depthAll] at hn
      simp only [bareKs, Bool.and_eq_true] at hb
      rcases List.mem_cons.mp hv with e | hv
      · rw [e]; exact byV_key k _ n x1 (by omega) hb.1
      · exact byV_keys ks _ n x2 (by omega) hb.2 v hv
end
/-- a search among such tuples shows nothing -/
theorem ntK_seen {k : NestedKey} {b : Addr} {Q : Bool → Shared → Prop} (x : NtK s.heap k b) {ys : List Value} (all : ∀ y ∈ ys, ∃ m c, y = Value.ref c ∧ NtK s.heap m c) (q : Q false s) :
    wpAny (model P w) A (searchCouldBeSeen (.ref b) ys) Q E s := by
  unfold searchCouldBeSeen
  refine wpAny_bind ?_
  refine wpAny_forIn_list _ (fun rest r s' => r.1 = none ∧ s' = s ∧ ∀ y ∈ rest, ∃ m c, y = Value.ref c ∧ NtK s.heap m c) _ ?_ ?_ _ _ ⟨rfl, rfl, all⟩
  · rintro v rest r s' ⟨hr, rfl, more⟩
    obtain ⟨m, c, rfl, hc⟩ := more v List.mem_cons_self
    have rest' : ∀ y ∈ rest, ∃ m c, y = Value.ref c ∧ NtK s'.heap m c := fun u z => more u (List.mem_cons_of_mem _ z)
    dsimp only
    by_cases hv : (b == c || (carriedByValue (.ref b) && carriedByValue (.ref c))) = true
    · refine wp_if_pos hv ?_
      exact wpAny_pure ⟨rfl, rfl, rest'⟩
    · refine wp_if_neg hv ?_
      refine wpAny_bind (ntK_quiet x ?_)
      simp only [Bool.not_true, Bool.false_eq_true, if_false]
      refine wpAny_bind (ntK_quiet hc ?_)
      simp only [Bool.not_true, Bool.false_eq_true, if_false]
      refine wpAny_bind (noCls_key _ _ 8 x.isK x.dep _ _ _ ?_)
      simp only [Bool.false_eq_true, if_false]
      refine wpAny_bind (noCls_key _ _ 8 hc.isK hc.dep _ _ _ ?_)
      simp only [Bool.false_eq_true, if_false]
      exact wpAny_pure ⟨rfl, rfl, rest'⟩
  · rintro ⟨r1, r2⟩ s' ⟨hr, rfl, _⟩
    simp only at hr
    subst hr
    exact wpAny_pure q
def rowsN (w : World) (L : List KA) : List (Int × Value) := L.map fun p => (nkh w p.2, Value.ref p.1)
structure SetNR (w : World) (h : Heap) (a : Addr) (L : List KA) (es : Array (Int × Value)) (ep : Nat) (t : SetTable) : Prop where
  ob : ∃ o, h.get? a = some o ∧ o.ExactSet ∧ o.data = .set es ep t
  rows : es.toList = rowsN w L
  tab : TabOk t (L.map fun p => nkh w p.2)
  nd : (L.map (·.2)).Nodup
  tup : ∀ p ∈ L, NtK h p.2 p.1
  plain : t.plain = true
  led : w.params.followText "set-order" = true ∨ t.led = true
  room : L.length * 5 < t.mask * 3
  few : L.length < 64
variable {a : Addr} {L : List KA} {es : Array (Int × Value)} {ep : Nat} {t : SetTable}
theorem SetNR.size (R : SetNR w s.heap a L es ep t) : es.size = L.length := by
  have h := congrArg List.length R.rows
  unfold rowsN at h
  rw [Array.length_toList, List.length_map] at h
  exact h
theorem SetNR.fits (R : SetNR w s.heap a L es ep t) : t.fits es.size = true := by
  have h1 := R.tab.sz
  rw [List.length_map] at h1
  have h2 := R.size
  have h3 := R.room
  unfold SetTable.fits SetTable.fill
  rw [R.tab.dm, Bool.and_eq_true, beq_iff_eq, decide_eq_true_eq]
  show t.place.size = es.size ∧ t.place.size + 0 ≤ t.mask
  omega
theorem SetNR.entry (R : SetNR w s.heap a L es ep t) {i : Nat} {p : KA} (h : L[i]? = some p) : es[i]? = some (nkh w p.2, Value.ref p.1) := by
  rw [← Array.getElem?_toList, R.rows]
  unfold rowsN
  rw [List.getElem?_map, h] <;> rfl
theorem SetNR.gw (R : SetNR w s.heap a L es ep t) : ¬ t.gaveWay = true := by
  unfold SetTable.gaveWay
  rw [mask_odd R.tab.mok]
  decide
theorem nsameMem (t : SetTable) : t.sameMemory t.moves t.mask = some true := by
  unfold SetTable.sameMemory
  rw [if_pos (beq_self_eq_true _)]

/-- a tuple isn't the set -/
theorem ntK_same {h h' : Heap} {k : NestedKey} {a b : Addr} {o : Obj} {es : Array (Int × Value)} {ep : Nat} {t : SetTable} (x : NtK h k b) (ho : h.get? a = some o) (hd : o.data = .set es ep t) (hs : Heap.SameBut a h h') : NtK h' k b :=
  ⟨NkR.at_ (fun c ob us n hc he => by
    refine (hs.2 c fun e => ?_).trans hc
    subst e
    rw [ho] at hc
    cases hc
    rw [hd] at he
    cases he) x.rel, x.dep, x.bare⟩
theorem rowsN_put (L : List KA) (p : Nat) (x : Addr) (k : NestedKey) : rowsN w (L.take p ++ (x, k) :: L.drop p) = (rowsN w L).take p ++ (nkh w k, Value.ref x) :: (rowsN w L).drop p := by
  unfold rowsN
  rw [List.map_append, List.map_cons, List.map_take, List.map_drop]
theorem nput_perm {α : Type} (L : List α) (p : Nat) (x : α) : (L.take p ++ x :: L.drop p).Perm (x :: L) := by
  have h : (L.take p ++ x :: L.drop p).Perm (x :: (L.take p ++ L.drop p)) := List.perm_middle
  rw [List.take_append_drop] at h
  exact h
variable {a : Addr} {L : List KA} {es : Array (Int × Value)} {ep : Nat} {t : SetTable}
/-- what the set has got from the first i items -/
structure GotN (ks : List KA) (i : Nat) (L : List KA) : Prop where
  sub : ∀ p ∈ L, p ∈ ks.take i
  all : ∀ p ∈ ks.take i, p.2 ∈ L.map (·.2)
  len : L.length ≤ i
/-- the set stays small -/
def FewN (ks : List KA) : Prop := ∀ (i : Nat) (L : List KA), i < ks.length → GotN ks i L → (L.map (·.2)).Nodup → L.length + 1 < 64
theorem FewN.of {ks : List KA} (h : ks.length < 64) : FewN ks := fun i L hi g _ => by have := g.len; omega
theorem GotN.zero (ks : List KA) : GotN ks 0 [] := ⟨fun p h => (by cases h), fun p h => (by simp at h), Nat.le_refl _⟩
theorem ntake_next {α : Type} {l : List α} {i : Nat} {x : α} (h : l[i]? = some x) : l.take (i + 1) = l.take i ++ [x] := by
  rw [List.take_succ, h] <;> rfl
theorem GotN.same {ks L : List KA} {i : Nat} {x : KA} (g : GotN ks i L) (h : ks[i]? = some x) (hm : x.2 ∈ L.map (·.2)) : GotN ks (i + 1) L := by
  refine ⟨fun p hp => ?_, fun p hp => ?_, Nat.le_succ_of_le g.len⟩
  · rw [ntake_next h]
    exact List.mem_append_left _ (g.sub p hp)
  · rw [ntake_next h] at hp
    rcases List.mem_append.mp hp with z | z
    · exact g.all p z
    · rw [List.mem_singleton.mp z]; exact hm
theorem GotN.more {ks L L' : List KA} {i : Nat} {x : KA} (g : GotN ks i L) (h : ks[i]? = some x) (pm : L'.Perm (x :: L)) : GotN ks (i + 1) L' := by
  refine ⟨fun p hp => ?_, fun p hp => ?_, ?_⟩
  · rw [ntake_next h]
    rcases List.mem_cons.mp (pm.mem_iff.mp hp) with e | z
    · rw [e]; exact List.mem_append_right _ (List.mem_singleton.mpr rfl)
    · exact List.mem_append_left _ (g.sub p z)
  · rw [(pm.map (·.2)).mem_iff, List.map_cons]
    rw [ntake_next h] at hp
    rcases List.mem_append.mp hp with z | z
    · exact List.mem_cons_of_mem _ (g.all p z)
    · rw [List.mem_singleton.mp z]; exact List.mem_cons_self
  · rw [pm.length_eq, List.length_cons]
    exact Nat.succ_le_succ g.len

theorem ntK_keep {h h' : Heap} {k : NestedKey} {b : Addr} (x : NtK h k b) (hk : ∀ c o, h.get? c = some o → h'.get? c = some o) : NtK h' k b := ⟨NkR.at_ (fun c o _ _ e _ => hk c o e) x.rel, x.dep, x.bare⟩
theorem SetNR.keep {h h' : Heap} {a : Addr} {L : List KA} {es : Array (Int × Value)} {ep : Nat} {t : SetTable} (R : SetNR w h a L es ep t) (ha : ∀ o, h.get? a = some o → h'.get? a = some o) (ht : ∀ p ∈ L, NtK h' p.2 p.1) : SetNR w h' a L es ep t := by
  obtain ⟨o, ho, r⟩ := R.ob
  exact ⟨⟨o, ha o ho, r⟩, R.rows, R.tab, R.nd, ht, R.plain, R.led, R.room, R.few⟩
set_option maxRecDepth 100000 in
set_option maxHeartbeats 3200000 in
theorem call_set_lstI {l : Addr} {items : Array Value} (ns : List Int) {Q : Value → Shared → Prop} (hh : A.handled = none) (hl : s.heap.IsList l items) (hit : IntsAre items.toList ns) (hb : ns.length + 1 < scanBound)
    (h : ∀ (h' : Heap) (tk c : Nat), SetR w h' s.heap.objs.size (fun j => decide (j ∈ ns)) c → c ≤ ns.length → (∀ b o, s.heap.get? b = some o → h'.get? b = some o) → Q (.ref s.heap.objs.size) { s with heap := h', toks := tk }) :
    wpAny (model P w) A (call (.type "set") [.ref l]) Q E s := by
  have hisz : items.size = ns.length := by
    have q := IntsAre.length hit
    rw [Array.length_toList] at q
    exact q
  obtain ⟨c, tl, hmro⟩ := F.called_set.mro
  have hmade := F.called_set.made
  have hsub := F.called_set.sub
  refine wpAny_call (codeAny_of_tree ?_)
  show wpAny _ _ (callAny (.type "set") _) _ _ _
  refine wpAny_pure ⟨Code.quiet_builtin _ (by decide +kernel), codeAny_builtin F.entry_type_call ?_⟩
  rw [Around.under_plain (weight_type_call_type "set" [.ref l] []) rfl]
  have h1 := F.called_set.notType
  have h2 := F.called_set.canCreate
  have hct := F.typeCall_set_1 (.ref l)
  repeat (any_goals (first | assumption | wp_step))

  refine codeAny_mono (code_set_led1 (.ref l) (E := E) (Q₁ := fun obj s₁ => obj = .ref s.heap.objs.size ∧ s₁ = { s with heap := s.heap.push (set0 w) }) ⟨rfl, rfl⟩) fun r s₁ hr => ?_
  cases r with
  | error e => exact hr
  | ok fl =>
    cases fl with
    | ret obj =>
      obtain ⟨rfl, rfl⟩ := hr
      have hS : (s.heap.push (set0 w)).get? s.heap.objs.size = some (set0 w) := Heap.get?_push_size _ rfl
      have hT : Shared.TypeIs { s with heap := s.heap.push (set0 w) } (.ref s.heap.objs.size) "set" := ⟨_, hS, rfl⟩
      have hli := F.called_set.init.lookup
      have hbi := F.called_set.init.bind (.ref s.heap.objs.size)
      repeat (any_goals (first | assumption | wp_step))

      refine codeAny_mono (codeAny_call_builtin (R := wants (fun r s₂ => r = .none ∧ ∃ h' tk c, s₂ = { s with heap := h', toks := tk } ∧ SetR w h' s.heap.objs.size (fun j => decide (j ∈ ns)) c ∧ c ≤ ns.length ∧
          (∀ b o, s.heap.get? b = some o → h'.get? b = some o)) E) F.called_set.init.plain F.entry_set_init (check_set_init_1 hT ?_)) fun r₂ s₂ hr₂ => ?_
      · obtain ⟨ol, hol, hcl, nl, hdl⟩ := hl
        obtain ⟨ocls, odict, odata, oslots⟩ := ol
        simp only at hcl hdl
        subst hcl; subst hdl
        have hol' : (s.heap.push (set0 w)).get? l = some { cls := .type "list", dict := odict, data := .seq items nl, slots := oslots } := Heap.get?_push_of_some _ hol
        have hsls := F.sub_list_set
        have hslf := F.sub_list_frozenset
        have hne : (Value.type "list" == Value.type "dict") = false := by decide
        have hl1 : (s.heap.push (set0 w)).IsList l items := ⟨_, hol', rfl, nl, rfl⟩
        unfold Builtin.«set.__init__» noKeywords Builtin.Frozenset.updateFrom
        generalize hPI : pyIter = PI
        wp_walk
        subst hPI

        refine wpAny_pyIter_list hl1 ?_
        refine wpAny_bind (wpAny_runValue ?_)
        have hlS : l < s.heap.objs.size := Heap.lt_size hol
        have hh3 : A.in1.in1.in1.handled = none := by simp [hh]
        have hz1 : (s.heap.push (set0 w)).objs.size = s.heap.objs.size + 1 := Heap.size_push ..
        have hneI : l ≠ (s.heap.push (set0 w)).objs.size := by
          rw [Heap.size_push]; exact Nat.ne_of_lt (Nat.lt_succ_of_lt hlS)
        have hSf : s.heap.objs.size ∉ [(s.heap.push (set0 w)).objs.size, l] := by
          rw [Heap.size_push]; simp only [List.mem_cons, List.mem_singleton, List.not_mem_nil, or_false, not_or]
          exact ⟨Nat.ne_of_lt (Nat.lt_succ_self _), Nat.ne_of_gt hlS⟩
        have hval : ∀ (i : Nat) (v : Value), items[i]? = some v → ∃ k t, ns[i]? = some k ∧ v = .int k t := fun i v hv => by
          have hi : i < ns.length := by rw [← hisz]; exact (Array.getElem?_eq_some_iff.mp hv).1
          obtain ⟨t, e⟩ := PyProof.Rows.IntsAre.int_at hit i v (by rw [Array.getElem?_toList]; exact hv)
          refine ⟨ns[i], t, List.getElem?_eq_getElem hi, ?_⟩
          rw [e, List.getD_eq_getElem?_getD, List.getElem?_eq_getElem hi] <;> rfl
        refine set_update_ints ((Walks.list hh3 _ l hneI items).toS) s.heap.objs.size
          hSf ns hisz hb hval (items.size - 0) 0 _ (by omega) (Nat.zero_le _)
          ⟨⟨_, Heap.get?_push_size _ rfl, rfl, rfl⟩, (hl1.push _)⟩ ?hS0 ?hR
        case hS0 =>
          have hget : ((s.heap.push (set0 w)).push { cls := .type "list_iterator", data := .fields #[.ref l, .int 0 0] }).get? s.heap.objs.size
              = some (set0 w) := Heap.get?_push_of_some _ hS
          exact ⟨0, Nat.le_refl 0, setR_new_at hget⟩
        case hR =>
          intro s' c' hm hc' hS'
          obtain ⟨h', g2, d', tk', os'⟩ := s'
          have eg : g2 = s.gens := hm.gens
          have ed : d' = s.drawn := hm.drawn
          have eo : os' = s.os := hm.os
          subst eg; subst ed; subst eo
          show wpAny _ _ _ _ _ _
          refine wpAny_pure ?_
          show wpAny _ _ (ret Value.none) _ _ _
          rw [hisz] at hc'
          refine wpAny_pure ⟨rfl, h', tk', c', rfl, hS', hc', fun b o e => ?_⟩
          have hb0 : b < s.heap.objs.size := Heap.lt_size e
          have hb1 : b ≠ s.heap.objs.size := Nat.ne_of_lt hb0
          have hb2 : b ≠ (s.heap.push (set0 w)).objs.size := by
            rw [Heap.size_push]; exact Nat.ne_of_lt (Nat.lt_succ_of_lt hb0)
          exact hm.heap b o (by simp only [List.mem_cons, List.mem_singleton, List.not_mem_nil, or_false, not_or]; exact ⟨hb1, hb2⟩) (Heap.get?_push_of_some _ (Heap.get?_push_of_some _ e))

      · cases r₂ with
        | error e => exact hr₂
        | ok fl₂ =>
          cases fl₂ with
          | ret r =>
            obtain ⟨rfl, h', tk, c', rfl, hS', hc', hk'⟩ := hr₂
            repeat (any_goals (first | assumption | wp_step))
            exact h _ _ _ hS' hc' hk'
          | _ => exact hr₂.elim
    | _ => exact hr.elim

mutual
theorem eqv_data : ∀ (x y : NestedKey), PyData.eqv x.data y.data = true → x = y
  | .none, y, e => by cases y <;> simp [NestedKey.data, PyData.eqv] at e <;> rfl
  | .num i, y, e => by cases y <;> simp [NestedKey.data, PyData.eqv] at e; rw [e]
  | .text x, y, e => by cases y <;> simp [NestedKey.data, PyData.eqv] at e; rw [e]
  | .tup ks, y, e => by
    cases y with
    | tup ms =>
      simp only [NestedKey.data, PyData.eqv] at e
      rw [eqv_datas ks ms e]
    | _ => simp [NestedKey.data, PyData.eqv] at e
theorem eqv_datas : ∀ (xs ys : List NestedKey), PyData.eqvAll (NestedKey.datas xs) (NestedKey.datas ys) = true → xs = ys
  | [], [], _ => rfl
  | [], _ :: _, e => by simp [NestedKey.datas, PyData.eqvAll] at e
  | _ :: _, [], e => by simp [NestedKey.datas, PyData.eqvAll] at e
  | x :: xs, y :: ys, e => by
    simp only [NestedKey.datas, PyData.eqvAll, Bool.and_eq_true] at e
    rw [eqv_data x y e.1, eqv_datas xs ys e.2]
end
mutual
theorem data_depth : ∀ (x : NestedKey), x.data.depth ≤ x.depth
  | .none => by simp [NestedKey.data, PyData.depth]
  | .num _ => by simp [NestedKey.data, PyData.depth]
  | .text _ => by simp [NestedKey.data, PyData.depth]
  | .tup ks => by
    simp only [NestedKey.data, PyData.depth, NestedKey.depth]
    have := datas_depth ks
    omega
theorem datas_depth : ∀ (xs : List NestedKey), PyData.depthAll (NestedKey.datas xs) ≤ NestedKey.depthAll xs
  | [] => by simp [NestedKey.datas, PyData.depthAll, NestedKey.depthAll]
  | x :: xs => by
    have a := data_depth x
    have b := datas_depth xs
    simp only [NestedKey.datas, PyData.depthAll, NestedKey.depthAll]
    omega
end
theorem perm_map_of {α β : Type} {f : α → β} {us ms : List β} (h : us.Perm ms) : ∀ L : List α, ms = L.map f → ∃ L1 : List α, us = L1.map f ∧ L1.Perm L := by
  induction h with
  | nil =>
    intro L e
    cases L with
    | nil => exact ⟨[], rfl, .nil⟩
    | cons => simp at e
  | cons x _ ih =>
    intro L e
    cases L with
    | nil => simp at e
    | cons a L =>
      rw [List.map_cons, List.cons.injEq] at e
      obtain ⟨L1, h1, h2⟩ := ih L e.2
      exact ⟨a :: L1, by rw [List.map_cons, e.1, h1], h2.cons a⟩
  | swap x y l =>
    intro L e
    match L, e with
    | [], e => simp at e
    | [_], e => simp at e
    | a :: b :: L, e =>
      simp only [List.map_cons, List.cons.injEq] at e
      exact ⟨b :: a :: L, by simp only [List.map_cons, List.cons.injEq]; exact ⟨e.2.1, e.1, e.2.2⟩, .swap a b L⟩
  | trans _ _ i1 i2 =>
    intro L e
    obtain ⟨L2, e2, p2⟩ := i2 L e
    obtain ⟨L1, e1, p1⟩ := i1 L2 e2
    exact ⟨L1, e1, p1.trans p2⟩
theorem each_ref : ∀ {out : List Value} {M : List KA}, W.EachIs (fun v (q : KA) => v = Value.ref q.1) out M → out = M.map fun q => Value.ref q.1
  | _, _, .nil => rfl
  | _, _, .cons h t => by rw [List.map_cons, h, each_ref t]
/-- two alike keys of one rank are one -/
theorem le_antisymm_keys {x y : NestedKey} (h : W.alike x.data y.data = true) (h1 : W.dataLe false NestedKey.data x y = true) (h2 : W.dataLe false NestedKey.data y x = true) : x = y := by
  have a1 : lexLt itemOrd (W.keyToks y.data) (W.keyToks x.data) = false := by simpa [W.dataLe, W.sortLe, listOrd] using h1
  have a2 : lexLt itemOrd (W.keyToks x.data) (W.keyToks y.data) = false := by simpa [W.dataLe, W.sortLe, listOrd] using h2
  have e := lex_total (O := itemOrd) _ _ a2 a1
  cases hq : PyData.eqv x.data y.data with
  | true => exact eqv_data x y hq
  | false =>
    exfalso
    have := (W.toks_eqv x.data y.data h).2 hq [] [.inl 0]
    rw [e, W.lex_pre, lex_irrefl (O := itemOrd)] at this
    exact absurd this (by simp [PyProof.Rows.lexLt])
/-- the keys in order -/
def sortK (ks : List NestedKey) : List NestedKey := ks.mergeSort (W.dataLe false NestedKey.data)
end
end SW
/-! The layer: data as trees, a store of objects that change, defs as functions over both. -/
namespace SW
open PySem L2

/-- data: what never changes is a tree, what changes is a place of the store -/
inductive D where
  | non
  | bl (b : Bool)
  | int (i : Int)
  | str (x : Str)
  | tup (ds : List D)
  | fl (ds : List D)
  | loc (n : Nat)
  | ty (n : String)
deriving Inhabited
/-- what stands at a place of the store -/
inductive MO where
  | lst (ds : List D)
  | dK (kvs : List (Key × D))
  | dT (kvs : List (List Key × D))
  /-- keys are tuples of any depth -/
  | dN (kvs : List (NestedKey × D))
  /-- locked dicts (a loop walks them) -/
  | lK (kvs : List (Key × D))
  | lT (kvs : List (List Key × D))
  | lN (kvs : List (NestedKey × D))
  /-- an instance of the class of that name -/
  | ins (c : String) (fs : List (Str × D))
  /-- an exception of the class of that name, caught and held; what it has of its own -/
  | exn (c : String) (fs : List (Str × D))
abbrev Sto := List MO
abbrev Tau := List (Option D)

/-! keys of any depth, without texts -/
mutual
def plainK : NestedKey → Bool
  | .none => true
  | .num _ => true
  | .text _ => false
  | .tup ks => plainKs ks
def plainKs : List NestedKey → Bool
  | [] => true
  | k :: ks => plainK k && plainKs ks
end
mutual
def NkV (H : Hp) : NestedKey → V → Prop
  | .none, v => v = .non
  | .num i, v => v = .int i
  | .text x, v => v = .str x
  | .tup ks, v => ∃ a xs, v = .ref a ∧ H a = some (.tup xs) ∧ NkVs H ks xs
def NkVs (H : Hp) : List NestedKey → List V → Prop
  | [], xs => xs = []
  | k :: ks, xs => ∃ y ys, xs = y :: ys ∧ NkV H k y ∧ NkVs H ks ys
end
abbrev NEnt := NestedKey × Addr × V
def entOk (p : NEnt) (q : NestedKey × Addr × Value) : Prop := p.1 = q.1 ∧ p.2.1 = q.2.1 ∧ RelV p.2.2 q.2.2
/-- a dict with such keys: its entries, where each key stands -/
def dNP (a : Addr) (xs : List NEnt) (h : Heap) : Prop := xs.length ≤ sizeLine ∧ (a == sysModules) = false ∧ ∃ ys : List (NestedKey × Addr × Value), Paired entOk xs ys ∧ (ys.map (·.1)).Nodup ∧
  ∃ o es ep, h.get? a = some o ∧ o.ExactDict ∧ o.data = .dict es ep ∧ ∀ w : World, es.toList = ys.map fun y => (⟨y.1.hash w, .ref y.2.1, y.2.2⟩ : DictEntry)
def dNO (a : Addr) (xs : List NEnt) : HO := .ext (dNP a xs)
def NOk (H : Hp) (x : NEnt) : Prop := NkV H x.1 (.ref x.2.1) ∧ x.1.depth ≤ 8 ∧ plainK x.1 = true
/-- what no def of the layer changes, known to its object -/
def fzo : HO → Bool
  | .lst _ => true
  | .tup _ => true
  | .xd _ => true
  | _ => false
/-- an exception -/
def exHO (a C : Addr) (dO : Option Addr) : HO := .ext fun h => ∃ o, h.get? a = some o ∧ o.cls = .ref C ∧ o.dict = dO ∧ ∃ vs, o.data = .fields vs
/-- what stands at the store's places -/
def RO : Option HO → Prop
  | some (.lst _) => True
  | some (.dK _) => True
  | some (.dT _) => True
  | some (.ext _) => True
  | some (.ins _ _ _) => True
  | some (.frz _ u) => fzo u = false
  | _ => False

section
variable (K : PySem.W.Frag)
/-- a list that nobody writes at -/
def FzL (H : Hp) (a : Addr) (xs : List V) : Prop :=
  (∃ o, H a = some (.frz o (.lst xs))) ∨
    ∃ (o : Obj) (its : Array Value) (n : Nat), K.lookup a = some o ∧ o.cls = .type "list" ∧ o.dict = none ∧ o.data = .seq its n ∧ its.size ≤ sizeLine ∧ Vals xs its.toList
mutual
def RelD (ρ : List Addr) (H : Hp) : D → V → Prop
  | .non, v => v = .non
  | .bl b, v => v = .bl b
  | .int i, v => v = .int i
  | .str x, v => v = .str x
  | .tup ds, v => ∃ a xs, v = .ref a ∧ H a = some (.tup xs) ∧ RelDs ρ H ds xs
  | .fl ds, v => ∃ a xs, v = .ref a ∧ FzL K H a xs ∧ RelDs ρ H ds xs
  | .loc n, v => ∃ a, ρ[n]? = some a ∧ v = .ref a
  | .ty n, v => v = .ty n
def RelDs (ρ : List Addr) (H : Hp) : List D → List V → Prop
  | [], xs => xs = []
  | d :: ds, xs => ∃ x ys, xs = x :: ys ∧ RelD ρ H d x ∧ RelDs ρ H ds ys
end
def RelKV {κ : Type} (ρ : List Addr) (H : Hp) (kds : List (κ × D)) (kvs : List (κ × V)) : Prop :=
  kvs.map (·.1) = kds.map (·.1) ∧ RelDs K ρ H (kds.map (·.2)) (kvs.map (·.2))
def RelN (ρ : List Addr) (H : Hp) (kds : List (NestedKey × D)) (xs : List NEnt) : Prop :=
  xs.map (·.1) = kds.map (·.1) ∧ RelDs K ρ H (kds.map (·.2)) (xs.map (·.2.2)) ∧ ∀ x ∈ xs, NOk H x
def ObjR (ρ : List Addr) (H : Hp) (a : Addr) : MO → Prop
  | .lst ds => ∃ xs, H a = some (.lst xs) ∧ RelDs K ρ H ds xs
  | .dK kds => ∃ kvs, H a = some (.dK kvs) ∧ RelKV K ρ H kds kvs
  | .dT kds => ∃ kvs, H a = some (.dT kvs) ∧ RelKV K ρ H kds kvs
  | .dN kds => ∃ xs, H a = some (dNO a xs) ∧ RelN K ρ H kds xs
  | .lK kds => ∃ kvs od, H a = some (.frz od (.dK kvs)) ∧ RelKV K ρ H kds kvs
  | .lT kds => ∃ kvs od, H a = some (.frz od (.dT kvs)) ∧ RelKV K ρ H kds kvs
  | .lN kds => ∃ xs od, H a = some (.frz od (dNO a xs)) ∧ RelN K ρ H kds xs
  | .ins c fs => ∃ C dx kvs, PySem.W.nsIn K mainGlobals c = some (some (.ref C)) ∧ H a = some (.ins C dx kvs) ∧ RelKV K ρ H fs kvs
  | .exn c fs => ∃ C dO, PySem.W.nsIn K mainGlobals c = some (some (.ref C)) ∧ H a = some (exHO a C dO) ∧ (fs = [] ∧ dO = none ∨ fs ≠ [] ∧ ∃ d o kvs, dO = some d ∧ H d = some (.frz o (.xd kvs)) ∧ RelKV K ρ H fs kvs)
structure RelS (ρ : List Addr) (S : Sto) (H : Hp) : Prop where
  len : ρ.length = S.length
  nd : ρ.Nodup
  obj : ∀ (n : Nat) (o : MO), S[n]? = some o → ∃ a, ρ[n]? = some a ∧ ObjR K ρ H a o
def RelT (ρ : List Addr) (H : Hp) (τ : Tau) (σ : St) : Prop :=
  τ.length = σ.length ∧ ∀ (i : Nat) (d : D), τ[i]? = some (some d) → ∃ v, σ[i]? = some (some v) ∧ RelD K ρ H d v
/-- later: the store's objects are those of S', all else that was tracked stands -/
structure Post (ρ : List Addr) (H : Hp) (ρ' : List Addr) (H' : Hp) (S' : Sto) : Prop where
  rel : RelS K ρ' S' H'
  pre : ρ <+: ρ'
  keep : ∀ a o, a ∉ ρ → H a = some o → a ∉ ρ' ∧ H' a = some o
  lck : ∀ a o u, H a = some (.frz o u) → H' a = some (.frz o u)
end

section
variable {K : PySem.W.Frag} {ρ ρ' : List Addr} {H H' : Hp} {S S' : Sto}
theorem ObjR.ro {a : Addr} {o : MO} (h : ObjR K ρ H a o) : RO (H a) := by
  cases o with
  | lst ds => obtain ⟨xs, hx, _⟩ := h; rw [hx]; trivial
  | dK ds => obtain ⟨xs, hx, _⟩ := h; rw [hx]; trivial
  | dT ds => obtain ⟨xs, hx, _⟩ := h; rw [hx]; trivial
  | dN ds => obtain ⟨xs, hx, _⟩ := h; rw [hx]; trivial
  | lK ds => obtain ⟨xs, od, hx, _⟩ := h; rw [hx]; rfl
  | lT ds => obtain ⟨xs, od, hx, _⟩ := h; rw [hx]; rfl
  | lN ds => obtain ⟨xs, od, hx, _⟩ := h; rw [hx]; rfl
  | ins c fs => obtain ⟨C, dx, kvs, _, hx, _⟩ := h; rw [hx]; trivial
  | exn c fs => obtain ⟨C, dO, _, hx, _⟩ := h; rw [hx]; trivial
theorem RelS.mem (R : RelS K ρ S H) {a : Addr} (h : a ∈ ρ) : RO (H a) := by
  obtain ⟨n, hn, e⟩ := List.getElem_of_mem h
  have hl : n < S.length := by rw [← R.len]; exact hn
  obtain ⟨b, hb, ho⟩ := R.obj n S[n] (by simp [hl])
  have : b = a := by
    rw [List.getElem?_eq_getElem hn, e] at hb
    exact (Option.some.inj hb).symm
  subst this
  exact ho.ro
theorem RelS.ne_n (R : RelS K ρ S H) {a : Addr} (h : a ∈ ρ) : H a ≠ none := fun e => by
  have := R.mem h
  rw [e] at this; exact this
theorem RelS.tup (R : RelS K ρ S H) {a : Addr} {xs : List V} (h : H a = some (.tup xs)) : a ∉ ρ := fun m => by
  have := R.mem m
  rw [h] at this; exact this
theorem RelS.frz (R : RelS K ρ S H) {a : Addr} {o : Obj} {u : HO} (hu : fzo u = true) (h : H a = some (.frz o u)) : a ∉ ρ := fun m => by
  have := R.mem m
  rw [h] at this
  rw [show fzo u = false from this] at hu; cases hu

/-- all that never changes stands -/
structure Imm (H H' : Hp) : Prop where
  tup : ∀ a xs, H a = some (.tup xs) → H' a = some (.tup xs)
  frz : ∀ a o u, fzo u = true → H a = some (.frz o u) → H' a = some (.frz o u)
theorem Imm.refl (H : Hp) : Imm H H := ⟨fun _ _ h => h, fun _ _ _ _ h => h⟩
theorem Imm.trans {H1 H2 H3 : Hp} (a : Imm H1 H2) (b : Imm H2 H3) : Imm H1 H3 := ⟨fun _ _ h => b.tup _ _ (a.tup _ _ h), fun _ _ _ hu h => b.frz _ _ _ hu (a.frz _ _ _ hu h)⟩
theorem Imm.fzL (i : Imm H H') {a : Addr} {xs : List V} (h : FzL K H a xs) : FzL K H' a xs := by
  rcases h with ⟨o, h⟩ | h
  · exact .inl ⟨o, i.frz _ _ _ rfl h⟩
  · exact .inr h
theorem FzL.sqL {a : Addr} {xs : List V} (h : FzL K H a xs) : SqL K H a xs := by
  rcases h with ⟨o, h⟩ | h
  · exact .inl (.inr ⟨o, h⟩)
  · exact .inr h
theorem Post.imm (p : Post K ρ H ρ' H' S') (R : RelS K ρ S H) : Imm H H' :=
  ⟨fun a xs h => (p.keep a _ (R.tup h) h).2, fun a o u hu h => (p.keep a _ (R.frz hu h) h).2⟩
/-- .. and what is locked is still locked -/
structure ImmL (H H' : Hp) : Prop extends Imm H H' where
  lck : ∀ a o u, H a = some (.frz o u) → H' a = some (.frz o u)
instance : Coe (ImmL H H') (Imm H H') := ⟨ImmL.toImm⟩
theorem ImmL.refl (H : Hp) : ImmL H H := ⟨Imm.refl H, fun _ _ _ h => h⟩
theorem ImmL.trans {H1 H2 H3 : Hp} (a : ImmL H1 H2) (b : ImmL H2 H3) : ImmL H1 H3 := ⟨a.toImm.trans b.toImm, fun _ _ _ h => b.lck _ _ _ (a.lck _ _ _ h)⟩
theorem Post.immL (p : Post K ρ H ρ' H' S') (R : RelS K ρ S H) : ImmL H H' := ⟨p.imm R, p.lck⟩
theorem prefix_get {a : Addr} {n : Nat} (p : ρ <+: ρ') (h : ρ[n]? = some a) : ρ'[n]? = some a := by
  obtain ⟨t, rfl⟩ := p
  rw [List.getElem?_append_left (List.getElem?_eq_some_iff.mp h).1]; exact h
mutual
theorem RelD.mono (i : Imm H H') (p : ρ <+: ρ') : ∀ {d : D} {v : V}, RelD K ρ H d v → RelD K ρ' H' d v
  | .non, _, h => by simpa [RelD] using h
  | .bl _, _, h => by simpa [RelD] using h
  | .int _, _, h => by simpa [RelD] using h
  | .str _, _, h => by simpa [RelD] using h
  | .ty _, _, h => by simpa [RelD] using h
  | .tup ds, _, h => by
    simp only [RelD] at h ⊢
    obtain ⟨a, xs, e, q, r⟩ := h
    exact ⟨a, xs, e, i.tup _ _ q, RelDs.mono i p r⟩
  | .fl ds, _, h => by
    simp only [RelD] at h ⊢
    obtain ⟨a, xs, e, q, r⟩ := h
    exact ⟨a, xs, e, i.fzL q, RelDs.mono i p r⟩
  | .loc n, _, h => by
    simp only [RelD] at h ⊢
    obtain ⟨a, e, q⟩ := h
    exact ⟨a, prefix_get p e, q⟩
theorem RelDs.mono (i : Imm H H') (p : ρ <+: ρ') : ∀ {ds : List D} {vs : List V}, RelDs K ρ H ds vs → RelDs K ρ' H' ds vs
  | [], _, h => by simpa [RelDs] using h
  | d :: ds, _, h => by
    simp only [RelDs] at h ⊢
    obtain ⟨x, ys, e, q, r⟩ := h
    exact ⟨x, ys, e, RelD.mono i p q, RelDs.mono i p r⟩
end
mutual
theorem NkV.mono (i : Imm H H') : ∀ {k : NestedKey} {v : V}, NkV H k v → NkV H' k v
  | .none, _, h => by simpa [NkV] using h
  | .num _, _, h => by simpa [NkV] using h
  | .text _, _, h => by simpa [NkV] using h
  | .tup ks, _, h => by
    simp only [NkV] at h ⊢
    obtain ⟨a, xs, e, q, r⟩ := h
    exact ⟨a, xs, e, i.tup _ _ q, NkVs.mono i r⟩
theorem NkVs.mono (i : Imm H H') : ∀ {ks : List NestedKey} {vs : List V}, NkVs H ks vs → NkVs H' ks vs
  | [], _, h => by simpa [NkVs] using h
  | k :: ks, _, h => by
    simp only [NkVs] at h ⊢
    obtain ⟨x, ys, e, q, r⟩ := h
    exact ⟨x, ys, e, NkV.mono i q, NkVs.mono i r⟩
end
theorem RelN.mono {kds : List (NestedKey × D)} {xs : List NEnt} (i : Imm H H') (p : ρ <+: ρ') (h : RelN K ρ H kds xs) : RelN K ρ' H' kds xs :=
  ⟨h.1, h.2.1.mono i p, fun x hx => let ⟨h1, h2⟩ := h.2.2 x hx; ⟨h1.mono i, h2⟩⟩
theorem RelDs.len : ∀ {ds : List D} {vs : List V}, RelDs K ρ H ds vs → vs.length = ds.length
  | [], _, h => by simp only [RelDs] at h; subst h; rfl
  | d :: ds, _, h => by
    simp only [RelDs] at h
    obtain ⟨x, ys, rfl, _, r⟩ := h
    simp [RelDs.len r]
theorem RelDs.get : ∀ {ds : List D} {vs : List V} {i : Nat} {d : D}, RelDs K ρ H ds vs → ds[i]? = some d → ∃ v, vs[i]? = some v ∧ RelD K ρ H d v
  | [], _, _, _, _, e => by simp at e
  | d :: ds, _, 0, _, h, e => by
    simp only [RelDs] at h
    obtain ⟨x, ys, rfl, q, r⟩ := h
    simp at e; subst e
    exact ⟨x, rfl, q⟩
  | d :: ds, _, i + 1, _, h, e => by
    simp only [RelDs] at h
    obtain ⟨x, ys, rfl, q, r⟩ := h
    obtain ⟨v, e1, e2⟩ := RelDs.get (i := i) r (by simpa using e)
    exact ⟨v, by simpa using e1, e2⟩
theorem RelDs.app : ∀ {ds es : List D} {vs ws : List V}, RelDs K ρ H ds vs → RelDs K ρ H es ws → RelDs K ρ H (ds ++ es) (vs ++ ws)
  | [], _, _, _, h, g => by simp only [RelDs] at h; subst h; exact g
  | d :: ds, _, _, _, h, g => by
    simp only [RelDs] at h
    obtain ⟨x, ys, rfl, q, r⟩ := h
    exact (by simp only [RelDs, List.cons_append]; exact ⟨x, _, rfl, q, RelDs.app r g⟩)
theorem RelDs.nil : RelDs K ρ H [] [] := by simp [RelDs]
theorem RelDs.cons {d : D} {ds : List D} {v : V} {vs : List V} (h : RelD K ρ H d v) (g : RelDs K ρ H ds vs) : RelDs K ρ H (d :: ds) (v :: vs) := by
  simp only [RelDs]; exact ⟨v, vs, rfl, h, g⟩
theorem RelDs.one {d : D} {v : V} (h : RelD K ρ H d v) : RelDs K ρ H [d] [v] := .cons h .nil
/-- place by place -/
theorem RelDs.of : ∀ {ds : List D} {vs : List V}, vs.length = ds.length → (∀ (i : Nat) (d : D) (v : V), ds[i]? = some d → vs[i]? = some v → RelD K ρ H d v) → RelDs K ρ H ds vs
  | [], [], _, _ => .nil
  | d :: ds, v :: vs, hl, h => .cons (h 0 d v rfl rfl) (RelDs.of (by simpa using hl) fun i d v e1 e2 => h (i + 1) d v (by simpa using e1) (by simpa using e2))
theorem RelDs.at {ds : List D} {vs : List V} {i : Nat} {d : D} {v : V} (h : RelDs K ρ H ds vs) (e1 : ds[i]? = some d) (e2 : vs[i]? = some v) : RelD K ρ H d v := by
  obtain ⟨w, e3, r⟩ := h.get e1
  rw [e2] at e3; cases e3; exact r
theorem RelDs.set {ds : List D} {vs : List V} {d : D} {v : V} (h : RelDs K ρ H ds vs) (r : RelD K ρ H d v) (i : Nat) : RelDs K ρ H (ds.set i d) (vs.set i v) := by
  refine RelDs.of (by simp [h.len]) fun j e w e1 e2 => ?_
  rw [List.getElem?_set] at e1 e2
  by_cases hij : i = j
  · subst hij
    rw [if_pos rfl] at e1 e2
    split at e1
    · split at e2
      · cases e1; cases e2; exact r
      · cases e2
    · cases e1
  · rw [if_neg hij] at e1 e2
    exact h.at e1 e2
theorem RelDs.take {ds : List D} {vs : List V} (h : RelDs K ρ H ds vs) (n : Nat) : RelDs K ρ H (ds.take n) (vs.take n) := by
  refine RelDs.of (by simp [h.len]) fun j e w e1 e2 => ?_
  rw [List.getElem?_take] at e1 e2
  split at e1
  · rename_i hj; rw [if_pos hj] at e2; exact h.at e1 e2
  · cases e1
theorem RelDs.drop {ds : List D} {vs : List V} (h : RelDs K ρ H ds vs) (n : Nat) : RelDs K ρ H (ds.drop n) (vs.drop n) := by
  refine RelDs.of (by simp [h.len]) fun j e w e1 e2 => ?_
  rw [List.getElem?_drop] at e1 e2
  exact h.at e1 e2
theorem RelDs.split {ds : List D} {vs : List V} (h : RelDs K ρ H ds vs) {n : Nat} {d : D} {e : List D} (hd : ds = d :: e) : ∃ v ws, vs = v :: ws ∧ RelD K ρ H d v ∧ RelDs K ρ H e ws := by
  subst hd; simpa [RelDs] using h
/-- a tree that is nothing of the store is the same of any -/
theorem RelD.int_ {i : Int} {v : V} (h : RelD K ρ H (.int i) v) : v = .int i := by simpa [RelD] using h
theorem RelD.bl_ {i : Bool} {v : V} (h : RelD K ρ H (.bl i) v) : v = .bl i := by simpa [RelD] using h
theorem RelD.non_ {v : V} (h : RelD K ρ H .non v) : v = .non := by simpa [RelD] using h
theorem RelD.str_ {x : Str} {v : V} (h : RelD K ρ H (.str x) v) : v = .str x := by simpa [RelD] using h
theorem RelD.ty_ {x : String} {v : V} (h : RelD K ρ H (.ty x) v) : v = .ty x := by simpa [RelD] using h
theorem RelD.ty (x : String) : RelD K ρ H (.ty x) (.ty x) := by simp [RelD]
theorem RelD.tup_ {ds : List D} {v : V} (h : RelD K ρ H (.tup ds) v) : ∃ a xs, v = .ref a ∧ H a = some (.tup xs) ∧ RelDs K ρ H ds xs := by simpa [RelD] using h
theorem RelD.fl_ {ds : List D} {v : V} (h : RelD K ρ H (.fl ds) v) : ∃ a xs, v = .ref a ∧ FzL K H a xs ∧ RelDs K ρ H ds xs := by simpa [RelD] using h
theorem RelD.loc_ {n : Nat} {v : V} (h : RelD K ρ H (.loc n) v) : ∃ a, ρ[n]? = some a ∧ v = .ref a := by simpa [RelD] using h
theorem RelD.int (i : Int) : RelD K ρ H (.int i) (.int i) := by simp [RelD]
theorem RelD.bl (i : Bool) : RelD K ρ H (.bl i) (.bl i) := by simp [RelD]
theorem RelD.non : RelD K ρ H .non .non := by simp [RelD]
theorem RelD.str (x : Str) : RelD K ρ H (.str x) (.str x) := by simp [RelD]
theorem RelD.tup {ds : List D} {a : Addr} {xs : List V} (h : H a = some (.tup xs)) (r : RelDs K ρ H ds xs) : RelD K ρ H (.tup ds) (.ref a) := by simp only [RelD]; exact ⟨a, xs, rfl, h, r⟩
theorem RelD.loc {n : Nat} {a : Addr} (h : ρ[n]? = some a) : RelD K ρ H (.loc n) (.ref a) := by simp only [RelD]; exact ⟨a, h, rfl⟩

theorem RelKV.mono {κ : Type} {kds : List (κ × D)} {kvs : List (κ × V)} (i : Imm H H') (p : ρ <+: ρ') (h : RelKV K ρ H kds kvs) : RelKV K ρ' H' kds kvs := ⟨h.1, h.2.mono i p⟩
theorem RelT.mono {τ : Tau} {σ : St} (i : Imm H H') (p : ρ <+: ρ') (h : RelT K ρ H τ σ) : RelT K ρ' H' τ σ :=
  ⟨h.1, fun j d e => let ⟨v, e1, r⟩ := h.2 j d e; ⟨v, e1, r.mono i p⟩⟩
theorem Post.refl (R : RelS K ρ S H) : Post K ρ H ρ H S := ⟨R, List.prefix_rfl, fun _ _ n h => ⟨n, h⟩, fun _ _ _ h => h⟩
theorem Post.trans {ρ2 : List Addr} {H2 : Hp} {S2 : Sto} (a : Post K ρ H ρ' H' S') (b : Post K ρ' H' ρ2 H2 S2) : Post K ρ H ρ2 H2 S2 :=
  ⟨b.rel, a.pre.trans b.pre, fun c o n h => let ⟨n', h'⟩ := a.keep c o n h; b.keep c o n' h', fun c o u h => b.lck c o u (a.lck c o u h)⟩
/-- an object's description in another heap -/
theorem ObjR.mono {a : Addr} {o : MO} (i : Imm H H') (p : ρ <+: ρ') (e : H' a = H a) (h : ObjR K ρ H a o) : ObjR K ρ' H' a o := by
  cases o with
  | lst ds => obtain ⟨xs, h1, h2⟩ := h; exact ⟨xs, by rw [e]; exact h1, h2.mono i p⟩
  | dK ds => obtain ⟨xs, h1, h2⟩ := h; exact ⟨xs, by rw [e]; exact h1, h2.mono i p⟩
  | dT ds => obtain ⟨xs, h1, h2⟩ := h; exact ⟨xs, by rw [e]; exact h1, h2.mono i p⟩
  | dN ds => obtain ⟨xs, h1, h2⟩ := h; exact ⟨xs, by rw [e]; exact h1, h2.mono i p⟩
  | lK ds => obtain ⟨xs, od, h1, h2⟩ := h; exact ⟨xs, od, by rw [e]; exact h1, h2.mono i p⟩
  | lT ds => obtain ⟨xs, od, h1, h2⟩ := h; exact ⟨xs, od, by rw [e]; exact h1, h2.mono i p⟩
  | lN ds => obtain ⟨xs, od, h1, h2⟩ := h; exact ⟨xs, od, by rw [e]; exact h1, h2.mono i p⟩
  | ins c fs => obtain ⟨C, dx, xs, h0, h1, h2⟩ := h; exact ⟨C, dx, xs, h0, by rw [e]; exact h1, h2.mono i p⟩
  | exn c fs =>
    obtain ⟨C, dO, h0, h1, h2⟩ := h
    refine ⟨C, dO, h0, by rw [e]; exact h1, h2.imp id ?_⟩
    rintro ⟨hne, d, o, kvs, e1, h3, r⟩
    exact ⟨hne, d, o, kvs, e1, i.frz _ _ _ rfl h3, r.mono i p⟩
/-- a new object of no place of the store -/
theorem RelS.side (R : RelS K ρ S H) {p : Addr} (hp : H p = none) (o : HO) : Post K ρ H ρ (upd H p o) S := by
  have hne : ∀ a, H a ≠ none → a ≠ p := fun a h e => h (e ▸ hp)
  have im : Imm H (upd H p o) := ⟨fun a xs h => by rw [upd_ne (hne a (by rw [h]; exact nofun))]; exact h, fun a ob u _ h => by rw [upd_ne (hne a (by rw [h]; exact nofun))]; exact h⟩
  refine ⟨⟨R.len, R.nd, fun n ob e => ?_⟩, List.prefix_rfl, fun a ob n h => ⟨n, by rw [upd_ne (hne a (by rw [h]; exact nofun))]; exact h⟩, fun a ob u h => by rw [upd_ne (hne a (by rw [h]; exact nofun))]; exact h⟩
  obtain ⟨a, ha, q⟩ := R.obj n ob e
  refine ⟨a, ha, ?_⟩
  have hap : a ≠ p := hne a (R.ne_n (List.mem_of_getElem? ha))
  exact q.mono im List.prefix_rfl (upd_ne hap)
theorem RelS.new_tup (R : RelS K ρ S H) {p : Addr} (hp : H p = none) {ds : List D} {xs : List V} (r : RelDs K ρ H ds xs) :
    Post K ρ H ρ (upd H p (.tup xs)) S ∧ RelD K ρ (upd H p (.tup xs)) (.tup ds) (.ref p) := by
  have P := R.side hp (.tup xs)
  exact ⟨P, RelD.tup upd_same (r.mono (P.imm R) List.prefix_rfl)⟩
/-- an object that changes is laid anew -/
theorem RelS.new (R : RelS K ρ S H) {p : Addr} (hp : H p = none) {o : MO} {ho : HO}
    (q : ObjR K (ρ ++ [p]) (upd H p ho) p o) : Post K ρ H (ρ ++ [p]) (upd H p ho) (S ++ [o]) ∧ RelD K (ρ ++ [p]) (upd H p ho) (.loc S.length) (.ref p) := by
  have hne : ∀ a, H a ≠ none → a ≠ p := fun a h e => h (e ▸ hp)
  have hpr : p ∉ ρ := fun m => R.ne_n m hp
  have P := R.side hp ho
  have im := P.imm R
  refine ⟨⟨⟨by simp [R.len], ?_, fun n ob e => ?_⟩, List.prefix_append _ _, fun a ob n h => ?_, fun a ob u h => by rw [upd_ne (hne a (by rw [h]; exact nofun))]; exact h⟩, RelD.loc ?_⟩
  · rw [List.nodup_append]
    refine ⟨R.nd, by simp, fun a ha b hb => ?_⟩
    simp at hb; subst hb
    exact fun e => hpr (e ▸ ha)
  · rw [List.getElem?_append] at e
    split at e
    · obtain ⟨a, ha, q'⟩ := R.obj n ob e
      have hap : a ≠ p := hne a (R.ne_n (List.mem_of_getElem? ha))
      exact ⟨a, prefix_get (List.prefix_append _ _) ha, q'.mono im (List.prefix_append _ _) (upd_ne hap)⟩
    · rename_i hn
      have hn' : n = S.length := by
        cases hk : n - S.length with
        | zero => omega
        | succ k => rw [hk] at e; simp at e
      subst hn'
      simp at e; subst e
      exact ⟨p, by rw [← R.len]; simp, q⟩
  · have hap : a ≠ p := hne a (by rw [h]; exact nofun)
    refine ⟨?_, by rw [upd_ne hap]; exact h⟩
    rw [List.mem_append]; rintro (m | m)
    · exact n m
    · simp at m; exact hap m
  · rw [← R.len]; simp
/-- the object at a place is changed -/
theorem RelS.put (R : RelS K ρ S H) {n : Nat} {a : Addr} (hn : ρ[n]? = some a) (mu : Mut (H a)) {o : MO} {ho : HO}
    (q : ObjR K ρ (upd H a ho) a o) : Post K ρ H ρ (upd H a ho) (S.set n o) := by
  have ma : a ∈ ρ := List.mem_of_getElem? hn
  have im : Imm H (upd H a ho) := ⟨fun b xs h => by
      have ne : b ≠ a := fun e => R.tup h (by rw [e]; exact ma)
      rw [upd_ne ne]; exact h, fun b o u hu h => by
      have ne : b ≠ a := fun e => R.frz hu h (by rw [e]; exact ma)
      rw [upd_ne ne]; exact h⟩
  refine ⟨⟨by simp [R.len], R.nd, fun m ob e => ?_⟩, List.prefix_rfl, fun b ob nb h => ⟨nb, by
    have ne : b ≠ a := fun e => nb (by rw [e]; exact ma)
    rw [upd_ne ne]; exact h⟩, fun b ob u h => by
    have ne : b ≠ a := fun e => by rw [← e, h] at mu; exact mu
    rw [upd_ne ne]; exact h⟩
  rw [List.getElem?_set] at e
  split at e
  · rename_i hnm; subst hnm
    split at e
    · cases e; exact ⟨a, hn, q⟩
    · cases e
  · rename_i hnm
    obtain ⟨b, hb, q'⟩ := R.obj m ob e
    refine ⟨b, hb, q'.mono im List.prefix_rfl (upd_ne fun e => hnm ?_)⟩
    subst e
    have l1 := (List.getElem?_eq_some_iff.mp hn).1
    have l2 := (List.getElem?_eq_some_iff.mp hb).1
    exact (List.getElem?_inj l1 R.nd).mp (by rw [hn, hb])
theorem RelS.lst (R : RelS K ρ S H) {n : Nat} {ds : List D} (h : S[n]? = some (.lst ds)) {v : V} (r : RelD K ρ H (.loc n) v) :
    ∃ a xs, v = .ref a ∧ ρ[n]? = some a ∧ H a = some (.lst xs) ∧ RelDs K ρ H ds xs := by
  obtain ⟨a, ha, rfl⟩ := r.loc_
  obtain ⟨b, hb, xs, e, q⟩ := R.obj n _ h
  rw [ha] at hb; cases hb
  exact ⟨a, xs, rfl, ha, e, q⟩
theorem RelS.dK (R : RelS K ρ S H) {n : Nat} {ds : List (Key × D)} (h : S[n]? = some (.dK ds)) {v : V} (r : RelD K ρ H (.loc n) v) :
    ∃ a xs, v = .ref a ∧ ρ[n]? = some a ∧ H a = some (.dK xs) ∧ RelKV K ρ H ds xs := by
  obtain ⟨a, ha, rfl⟩ := r.loc_
  obtain ⟨b, hb, xs, e, q⟩ := R.obj n _ h
  rw [ha] at hb; cases hb
  exact ⟨a, xs, rfl, ha, e, q⟩
theorem RelS.dT (R : RelS K ρ S H) {n : Nat} {ds : List (List Key × D)} (h : S[n]? = some (.dT ds)) {v : V} (r : RelD K ρ H (.loc n) v) :
    ∃ a xs, v = .ref a ∧ ρ[n]? = some a ∧ H a = some (.dT xs) ∧ RelKV K ρ H ds xs := by
  obtain ⟨a, ha, rfl⟩ := r.loc_
  obtain ⟨b, hb, xs, e, q⟩ := R.obj n _ h
  rw [ha] at hb; cases hb
  exact ⟨a, xs, rfl, ha, e, q⟩
theorem RelS.dN (R : RelS K ρ S H) {n : Nat} {ds : List (NestedKey × D)} (h : S[n]? = some (.dN ds)) {v : V} (r : RelD K ρ H (.loc n) v) :
    ∃ a xs, v = .ref a ∧ ρ[n]? = some a ∧ H a = some (dNO a xs) ∧ RelN K ρ H ds xs := by
  obtain ⟨a, ha, rfl⟩ := r.loc_
  obtain ⟨b, hb, xs, e, q⟩ := R.obj n _ h
  rw [ha] at hb; cases hb
  exact ⟨a, xs, rfl, ha, e, q⟩
theorem RelS.lK (R : RelS K ρ S H) {n : Nat} {ds : List (Key × D)} (h : S[n]? = some (.lK ds)) {v : V} (r : RelD K ρ H (.loc n) v) :
    ∃ a xs od, v = .ref a ∧ ρ[n]? = some a ∧ H a = some (.frz od (.dK xs)) ∧ RelKV K ρ H ds xs := by
  obtain ⟨a, ha, rfl⟩ := r.loc_
  obtain ⟨b, hb, xs, od, e, q⟩ := R.obj n _ h
  rw [ha] at hb; cases hb
  exact ⟨a, xs, od, rfl, ha, e, q⟩
theorem RelS.lT (R : RelS K ρ S H) {n : Nat} {ds : List (List Key × D)} (h : S[n]? = some (.lT ds)) {v : V} (r : RelD K ρ H (.loc n) v) :
    ∃ a xs od, v = .ref a ∧ ρ[n]? = some a ∧ H a = some (.frz od (.dT xs)) ∧ RelKV K ρ H ds xs := by
  obtain ⟨a, ha, rfl⟩ := r.loc_
  obtain ⟨b, hb, xs, od, e, q⟩ := R.obj n _ h
  rw [ha] at hb; cases hb
  exact ⟨a, xs, od, rfl, ha, e, q⟩
theorem RelS.lN (R : RelS K ρ S H) {n : Nat} {ds : List (NestedKey × D)} (h : S[n]? = some (.lN ds)) {v : V} (r : RelD K ρ H (.loc n) v) :
    ∃ a xs od, v = .ref a ∧ ρ[n]? = some a ∧ H a = some (.frz od (dNO a xs)) ∧ RelN K ρ H ds xs := by
  obtain ⟨a, ha, rfl⟩ := r.loc_
  obtain ⟨b, hb, xs, od, e, q⟩ := R.obj n _ h
  rw [ha] at hb; cases hb
  exact ⟨a, xs, od, rfl, ha, e, q⟩
theorem RelS.ins (R : RelS K ρ S H) {n : Nat} {c : String} {fs : List (Str × D)} (h : S[n]? = some (.ins c fs)) {v : V} (r : RelD K ρ H (.loc n) v) :
    ∃ a C dx kvs, v = .ref a ∧ ρ[n]? = some a ∧ PySem.W.nsIn K mainGlobals c = some (some (.ref C)) ∧ H a = some (.ins C dx kvs) ∧ RelKV K ρ H fs kvs := by
  obtain ⟨a, ha, rfl⟩ := r.loc_
  obtain ⟨b, hb, C, dx, kvs, e0, e, q⟩ := R.obj n _ h
  rw [ha] at hb; cases hb
  exact ⟨a, C, dx, kvs, rfl, ha, e0, e, q⟩
theorem RelS.exn (R : RelS K ρ S H) {n : Nat} {c : String} {fs : List (Str × D)} (h : S[n]? = some (.exn c fs)) {v : V} (r : RelD K ρ H (.loc n) v) :
    ∃ a C dO, v = .ref a ∧ ρ[n]? = some a ∧ PySem.W.nsIn K mainGlobals c = some (some (.ref C)) ∧ H a = some (exHO a C dO) ∧ (fs = [] ∧ dO = none ∨ fs ≠ [] ∧ ∃ d o kvs, dO = some d ∧ H d = some (.frz o (.xd kvs)) ∧ RelKV K ρ H fs kvs) := by
  obtain ⟨a, ha, rfl⟩ := r.loc_
  obtain ⟨b, hb, C, dO, e0, e, q⟩ := R.obj n _ h
  rw [ha] at hb; cases hb
  exact ⟨a, C, dO, rfl, ha, e0, e, q⟩
end
end SW
namespace SW
open PySem L2

abbrev EvE := Tau → Sto → Option (D × Sto)
abbrev EvT := Tau → Sto → Option (Bool × Sto)
abbrev EvA := Tau → Sto → Option (List D × Sto)
inductive Out where
  | nx (τ : Tau)
  | rt (d : D)
  | bk (τ : Tau)
  | ct (τ : Tau)
  /-- an exception of that class leaves, with what it has of its own -/
  | ex (c : String) (fs : List (Str × D)) (τ : Tau)
abbrev EvS := Tau → Sto → Option (Out × Sto)

section
variable (K : PySem.W.Frag)
/-- where one stands -/
structure At (ρ : List Addr) (τ : Tau) (S : Sto) (σ : St) (H : Hp) : Prop where
  s : RelS K ρ S H
  t : RelT K ρ H τ σ
def tE (f : EvE) : TE := fun σ H Q => ∃ ρ τ S d S', At K ρ τ S σ H ∧ f τ S = some (d, S') ∧ ∀ ρ' v H', Post K ρ H ρ' H' S' → RelD K ρ' H' d v → Q v H'
def tT (f : EvT) : TT := fun σ H Q => ∃ ρ τ S d S', At K ρ τ S σ H ∧ f τ S = some (d, S') ∧ ∀ ρ' H', Post K ρ H ρ' H' S' → Q d H'
def tA (f : EvA) : TA := fun σ H Q => ∃ ρ τ S d S', At K ρ τ S σ H ∧ f τ S = some (d, S') ∧ ∀ ρ' v H', Post K ρ H ρ' H' S' → RelDs K ρ' H' d v → Q v H'
/-- what an exception that leaves asks -/
def ExOk (E : XK) (ρ' : List Addr) (H' : Hp) (c : String) (fs : List (Str × D)) : Prop := ∀ C, PySem.W.nsIn K mainGlobals c = some (some (.ref C)) →
  (fs = [] → E (.ref C) none H') ∧ (fs ≠ [] → ∀ d kvs, H' d = none → RelKV K ρ' (upd H' d (.xd kvs)) fs kvs → E (.ref C) (some d) (upd H' d (.xd kvs)))
/-- what a statement's end asks -/
def OutOk (W : WX) (Dn : Ends) (ρ' : List Addr) (H' : Hp) : Out → Prop
  | .ex c fs τ' => ∀ σ', RelT K ρ' H' τ' σ' → ExOk K (fun cls d H2 => W cls d σ' H2) ρ' H' c fs
  | .nx τ' => ∀ σ', RelT K ρ' H' τ' σ' → Dn.nx σ' H'
  | .rt d => ∀ v, RelD K ρ' H' d v → Dn.rt v H'
  | .bk τ' => ∀ σ', RelT K ρ' H' τ' σ' → Dn.bk σ' H'
  | .ct τ' => ∀ σ', RelT K ρ' H' τ' σ' → Dn.ct σ' H'
def tS (W : WX) (f : EvS) : TS := fun Dn σ H => ∃ ρ τ S o S', At K ρ τ S σ H ∧ f τ S = some (o, S') ∧ ∀ ρ' H', Post K ρ H ρ' H' S' → OutOk K W Dn ρ' H' o
end
abbrev EE (X : Cx) (e : Expr) (f : EvE) : Prop := PE X e (tE X.K f)
abbrev ET (X : Cx) (e : Expr) (f : EvT) : Prop := PT X e (tT X.K f)
abbrev EW (X : Cx) (e : Expr) (f : EvT) : Prop := PW X e (tT X.K f)
abbrev EA (X : Cx) (es : List Expr) (f : EvA) : Prop := PA X es (tA X.K f)
abbrev ES (W : WX) (X : Cx) (s : Stmt) (f : EvS) : Prop := PS X s (tS X.K W f)
abbrev ESs (W : WX) (X : Cx) (s : List Stmt) (f : EvS) : Prop := PSs X s (tS X.K W f)

section
variable {X : Cx} {e : Expr} {es : List Expr} {st : Stmt} {sts : List Stmt}
theorem wkE {t t' : TE} (h : PE X e t) (k : ∀ σ H Q, t' σ H Q → t σ H Q) : PE X e t' := ⟨fun pins s σ H Q I q => h.run pins s σ H Q I (k σ H Q q)⟩
theorem wkT {t t' : TT} (h : PT X e t) (k : ∀ σ H Q, t' σ H Q → t σ H Q) : PT X e t' := ⟨fun pins s σ H Q I q => h.run pins s σ H Q I (k σ H Q q)⟩
theorem wkW {t t' : TT} (h : PW X e t) (k : ∀ σ H Q, t' σ H Q → t σ H Q) : PW X e t' := ⟨fun wh pins s σ H Q I q => h.run wh pins s σ H Q I (k σ H Q q)⟩
theorem wkA {t t' : TA} (h : PA X es t) (k : ∀ σ H Q, t' σ H Q → t σ H Q) : PA X es t' := ⟨fun pos pins s σ H Q I q => h.run pos pins s σ H Q I (k σ H Q q)⟩
theorem wkS {t t' : TS} (h : PS X st t) (k : ∀ D σ H, t' D σ H → t D σ H) : PS X st t' := ⟨fun pins s σ H D I q => h.run pins s σ H D I (k D σ H q)⟩
theorem wkSs {t t' : TS} (h : PSs X sts t) (k : ∀ D σ H, t' D σ H → t D σ H) : PSs X sts t' := ⟨fun pins s σ H D I q => h.run pins s σ H D I (k D σ H q)⟩
/-- two readings of one expression -/
theorem orE {t t' : TE} (h : PE X e t) (h' : PE X e t') : PE X e (fun σ H Q => t σ H Q ∨ t' σ H Q) := ⟨fun pins s σ H Q I q => q.elim (h.run pins s σ H Q I) (h'.run pins s σ H Q I)⟩
theorem orT {t t' : TT} (h : PT X e t) (h' : PT X e t') : PT X e (fun σ H Q => t σ H Q ∨ t' σ H Q) := ⟨fun pins s σ H Q I q => q.elim (h.run pins s σ H Q I) (h'.run pins s σ H Q I)⟩
theorem orO {f : Value → Value → Sem Value} {r r' : R2} (h : OpR X f r) (h' : OpR X f r') : OpR X f (fun x y H Q => r x y H Q ∨ r' x y H Q) :=
  fun pins s σ H x y v u Q I rx ry q => q.elim (h pins s σ H x y v u Q I rx ry) (h' pins s σ H x y v u Q I rx ry)
theorem orC {f : Value} {r r' : List V → Hp → VK → Prop} (h : CallR X f r) (h' : CallR X f r') : CallR X f (fun xs H Q => r xs H Q ∨ r' xs H Q) :=
  fun pins s σ H xs us Q I rx q => q.elim (h pins s σ H xs us Q I rx) (h' pins s σ H xs us Q I rx)
end

section
variable {K : PySem.W.Frag} {ρ ρ' : List Addr} {τ : Tau} {S S' : Sto} {σ : St} {H H' : Hp}
theorem At.go (a : At K ρ τ S σ H) (p : Post K ρ H ρ' H' S') : At K ρ' τ S' σ H' := ⟨p.rel, a.t.mono (p.imm a.s) p.pre⟩
/-- a part is reckoned, and what follows goes on from there -/
theorem goE {f : EvE} {d : D} (a : At K ρ τ S σ H) (e : f τ S = some (d, S')) {Q : VK} (h : ∀ ρ' v H', At K ρ' τ S' σ H' → Post K ρ H ρ' H' S' → RelD K ρ' H' d v → Q v H') : tE K f σ H Q :=
  ⟨ρ, τ, S, d, S', a, e, fun ρ' v H' p r => h ρ' v H' (a.go p) p r⟩
theorem goT {f : EvT} {d : Bool} (a : At K ρ τ S σ H) (e : f τ S = some (d, S')) {Q : Bool → Hp → Prop} (h : ∀ ρ' H', At K ρ' τ S' σ H' → Post K ρ H ρ' H' S' → Q d H') : tT K f σ H Q :=
  ⟨ρ, τ, S, d, S', a, e, fun ρ' H' p => h ρ' H' (a.go p) p⟩
theorem goA {f : EvA} {d : List D} (a : At K ρ τ S σ H) (e : f τ S = some (d, S')) {Q : List V → Hp → Prop} (h : ∀ ρ' v H', At K ρ' τ S' σ H' → Post K ρ H ρ' H' S' → RelDs K ρ' H' d v → Q v H') : tA K f σ H Q :=
  ⟨ρ, τ, S, d, S', a, e, fun ρ' v H' p r => h ρ' v H' (a.go p) p r⟩
theorem At.refl (a : At K ρ τ S σ H) : Post K ρ H ρ H S := Post.refl a.s
end

/-! ### the pieces of expressions -/
def cE (d : D) : EvE := fun _ S => some (d, S)
def vE (i : Nat) : EvE := fun τ S => (τ[i]?.join).map fun d => (d, S)
def b2E (g : D → D → Sto → Option (D × Sto)) (fa fb : EvE) : EvE := fun τ S => (fa τ S).bind fun p => (fb τ p.2).bind fun q => g p.1 q.1 q.2
def u1E (g : D → Sto → Option (D × Sto)) (fa : EvE) : EvE := fun τ S => (fa τ S).bind fun p => g p.1 p.2
def aE (g : List D → Sto → Option (D × Sto)) (fa : EvA) : EvE := fun τ S => (fa τ S).bind fun p => g p.1 p.2
def nilA : EvA := fun _ S => some ([], S)
def consA (fa : EvE) (fr : EvA) : EvA := fun τ S => (fa τ S).bind fun p => (fr τ p.2).bind fun q => some (p.1 :: q.1, q.2)
def tupD (ds : List D) (S : Sto) : Option (D × Sto) := if ds.length ≤ 10000000 then some (.tup ds, S) else none
def lstD (ds : List D) (S : Sto) : Option (D × Sto) := if ds.length ≤ 10000000 then some (.loc S.length, S ++ [.lst ds]) else none
def newD (o : MO) (S : Sto) : D × Sto := (.loc S.length, S ++ [o])
def tB (f : EvE) : EvT := fun τ S => (f τ S).bind fun p => match p.1 with | .bl b => some (b, p.2) | _ => none
def notT (f : EvT) : EvT := fun τ S => (f τ S).map fun p => (!p.1, p.2)
def andT (f g : EvT) : EvT := fun τ S => (f τ S).bind fun p => if p.1 then g τ p.2 else some (false, p.2)
def orT' (f g : EvT) : EvT := fun τ S => (f τ S).bind fun p => if p.1 then some (true, p.2) else g τ p.2
def iteE (c : EvT) (f g : EvE) : EvE := fun τ S => (c τ S).bind fun p => if p.1 then f τ p.2 else g τ p.2
def andE (f g : EvE) : EvE := fun τ S => (f τ S).bind fun p => match p.1 with | .bl b => if b then g τ p.2 else some (.bl false, p.2) | _ => none
def orE' (f g : EvE) : EvE := fun τ S => (f τ S).bind fun p => match p.1 with | .bl b => if b then some (.bl true, p.2) else g τ p.2 | _ => none
def notE (f : EvE) : EvE := fun τ S => (f τ S).bind fun p => match p.1 with | .bl b => some (.bl !b, p.2) | _ => none

/-- a two-place operation, by values: r is what HandS asks, g what is reckoned -/
def Op2 (K : PySem.W.Frag) (r : R2) (g : D → D → Sto → Option (D × Sto)) : Prop :=
  ∀ (ρ : List Addr) (S : Sto) (H : Hp) (x y : D) (v w : V) (d : D) (S' : Sto), RelS K ρ S H → RelD K ρ H x v → RelD K ρ H y w → g x y S = some (d, S') →
    ∀ Q : VK, (∀ ρ' u H', Post K ρ H ρ' H' S' → RelD K ρ' H' d u → Q u H') → r v w H Q
def OpA (K : PySem.W.Frag) (r : List V → Hp → VK → Prop) (g : List D → Sto → Option (D × Sto)) : Prop :=
  ∀ (ρ : List Addr) (S : Sto) (H : Hp) (x : List D) (v : List V) (d : D) (S' : Sto), RelS K ρ S H → RelDs K ρ H x v → g x S = some (d, S') →
    ∀ Q : VK, (∀ ρ' u H', Post K ρ H ρ' H' S' → RelD K ρ' H' d u → Q u H') → r v H Q

theorem bindE {α β : Type} {x : Option α} {f : α → Option β} {b : β} (h : x.bind f = some b) : ∃ a, x = some a ∧ f a = some b := Option.bind_eq_some_iff.mp h

section
variable {X : Cx} {a b c : Expr} {fa fb fc : EvE} {es : List Expr} {pos : Pos}
theorem ee_cE {e : Expr} {v : V} {d : D} (h : PE X e (tC v)) (hr : ∀ ρ H, RelD X.K ρ H d v) : EE X e (cE d) := wkE h fun σ H Q q => by
  obtain ⟨ρ, τ, S, d', S', A, e, k⟩ := q
  cases e
  exact k ρ v H A.refl (hr ρ H)
theorem ee_int {i : Int} {j pos} : EE X (.Constant (.int i) j pos) (cE (.int i)) := ee_cE pe_int fun _ _ => RelD.int i
theorem ee_bl {i : Bool} {j pos} : EE X (.Constant (.bool i) j pos) (cE (.bl i)) := ee_cE pe_bl fun _ _ => RelD.bl i
theorem ee_non {j pos} : EE X (.Constant .none j pos) (cE .non) := ee_cE pe_non fun _ _ => RelD.non
theorem ee_ty {x : Str} {n : String} (hg : Gl X x) (hm : X.mg x = none) (hv : bootBuiltins x = some (.type n)) (hn : x ≠ "__name__" := by decide) (hd : (x == ("__debug__" : Str)) = false := by decide) : EE X (.Name x pos) (cE (.ty n)) :=
  ee_cE (pe_bltn hg hm hv (v := .ty n) rfl hn hd) fun _ _ => RelD.ty n
theorem ee_v (i : Nat) {x : Str} (h : PE X (.Name x pos) (tVar i)) : EE X (.Name x pos) (vE i) := wkE h fun σ H Q q => by
  obtain ⟨ρ, τ, S, d', S', A, e, k⟩ := q
  cases et : τ[i]? with
  | none => simp [vE, et] at e
  | some o =>
    cases o with
    | none => simp [vE, et] at e
    | some d =>
      simp [vE, et] at e
      obtain ⟨rfl, rfl⟩ := e
      obtain ⟨v, e1, r⟩ := A.t.2 i d et
      exact ⟨v, e1, k ρ v H A.refl r⟩
theorem ee_b2 {r : R2} {g : D → D → Sto → Option (D × Sto)} {e : Expr} (h : PE X a (tE X.K fa) → PE X b (tE X.K fb) → PE X e (tOp r (tE X.K fa) (tE X.K fb))) (hg : Op2 X.K r g) (ha : EE X a fa) (hb : EE X b fb) : EE X e (b2E g fa fb) :=
  wkE (h ha hb) fun σ H Q q => by
    obtain ⟨ρ, τ, S, d, S', A, e, k⟩ := q
    obtain ⟨⟨x, S1⟩, e1, e⟩ := bindE e
    obtain ⟨⟨y, S2⟩, e2, e⟩ := bindE e
    refine goE A e1 fun ρ1 v1 H1 A1 P1 r1 => goE A1 e2 fun ρ2 v2 H2 A2 P2 r2 => ?_
    exact hg ρ2 S2 H2 x y v1 v2 d S' A2.s (r1.mono (P2.imm A1.s) P2.pre) r2 e Q fun ρ3 u H3 P3 r3 => k ρ3 u H3 ((P1.trans P2).trans P3) r3
theorem ee_op {op : Operator} {r : R2} {g : D → D → Sto → Option (D × Sto)} (ho : OpR X (binaryOp op) r) (hg : Op2 X.K r g) (ha : EE X a fa) (hb : EE X b fb) : EE X (.BinOp a op b pos) (b2E g fa fb) :=
  ee_b2 (pe_op ho) hg ha hb
theorem ee_cmp {op : CmpOp} {r : R2} {g : D → D → Sto → Option (D × Sto)} (ho : OpR X (compareOp op) r) (hg : Op2 X.K r g) (ha : EE X a fa) (hb : EE X b fb) (hm : behindInMarks op b = false) : EE X (.Compare a [op] [b] pos) (b2E g fa fb) :=
  ee_b2 (fun h1 h2 => pe_cmpR ho h1 h2 hm) hg ha hb
/-- a test that is a comparison -/
theorem et_cmp {op : CmpOp} {r : R2} {g : D → D → Sto → Option (D × Sto)} (ho : OpR X (compareOp op) r) (hg : Op2 X.K r g) (ha : EE X a fa) (hb : EE X b fb) (hm : behindInMarks op b = false) : ET X (.Compare a [op] [b] pos) (tB (b2E g fa fb)) :=
  wkT (pt_cmpR ho ha hb hm) fun σ H Q q => by
    obtain ⟨ρ, τ, S, d, S', A, e, k⟩ := q
    obtain ⟨⟨z, S3⟩, e0, ez⟩ := bindE e
    obtain ⟨⟨x, S1⟩, e1, e0⟩ := bindE e0
    obtain ⟨⟨y, S2⟩, e2, e0⟩ := bindE e0
    refine goE A e1 fun ρ1 v1 H1 A1 P1 r1 => goE A1 e2 fun ρ2 v2 H2 A2 P2 r2 => ?_
    refine hg ρ2 S2 H2 x y v1 v2 z S3 A2.s (r1.mono (P2.imm A1.s) P2.pre) r2 e0 _ fun ρ3 u H3 P3 r3 => ?_
    cases z with
    | bl b =>
      cases ez
      exact ⟨_, r3.bl_, k ρ3 H3 ((P1.trans P2).trans P3)⟩
    | _ => cases ez
/-! lists of arguments, displays -/
theorem ea_nil : EA X [] nilA := wkA pa_nil fun σ H Q q => by
  obtain ⟨ρ, τ, S, d, S', A, e, k⟩ := q
  cases e
  exact k ρ [] H A.refl .nil
theorem ea_cons {fr : EvA} (ha : EE X a fa) (hr : EA X es fr) (hs : starEach (a :: es) X.env = (false, eval a X.env) :: starEach es X.env := by rfl) : EA X (a :: es) (consA fa fr) := wkA (pa_cons ha hr hs) fun σ H Q q => by
  obtain ⟨ρ, τ, S, d, S', A, e, k⟩ := q
  obtain ⟨⟨x, S1⟩, e1, e⟩ := bindE e
  obtain ⟨⟨y, S2⟩, e2, e⟩ := bindE e
  cases e
  refine goE A e1 fun ρ1 v1 H1 A1 P1 r1 => goA A1 e2 fun ρ2 v2 H2 A2 P2 r2 => ?_
  exact k ρ2 _ H2 (P1.trans P2) (.cons (r1.mono (P2.imm A1.s) P2.pre) r2)
theorem line_of {n : Nat} (h : n ≤ 10000000) : n ≤ sizeLine := by rw [sizeLine_eq]; omega
theorem ee_tup {x1} {fr : EvA} (h : EA X es fr) : EE X (.Tuple es x1 pos) (aE tupD fr) := wkE (pe_tup h) fun σ H Q q => by
  obtain ⟨ρ, τ, S, d, S', A, e, k⟩ := q
  obtain ⟨⟨x, S1⟩, e1, e⟩ := bindE e
  simp only [tupD] at e
  split at e
  · rename_i hl
    cases e
    refine goA A e1 fun ρ1 vs H1 A1 P1 r1 => ⟨line_of (by rw [r1.len]; exact hl), fun p hp => ?_⟩
    obtain ⟨P2, r2⟩ := A1.s.new_tup hp r1
    exact k ρ1 _ _ (P1.trans P2) r2
  · cases e
theorem new_lst {K : PySem.W.Frag} {ρ : List Addr} {S : Sto} {H : Hp} (R : RelS K ρ S H) {p : Addr} (hp : H p = none) {ds : List D} {xs : List V} (r : RelDs K ρ H ds xs) :
    Post K ρ H (ρ ++ [p]) (upd H p (.lst xs)) (S ++ [.lst ds]) ∧ RelD K (ρ ++ [p]) (upd H p (.lst xs)) (.loc S.length) (.ref p) :=
  R.new hp ⟨xs, upd_same, r.mono ((R.side hp _).imm R) (List.prefix_append _ _)⟩
theorem ee_lst {fr : EvA} (h : EA X es fr) : EE X (.List es pos) (aE lstD fr) := wkE (pe_lst h) fun σ H Q q => by
  obtain ⟨ρ, τ, S, d, S', A, e, k⟩ := q
  obtain ⟨⟨x, S1⟩, e1, e⟩ := bindE e
  simp only [lstD] at e
  split at e
  · rename_i hl
    cases e
    refine goA A e1 fun ρ1 vs H1 A1 P1 r1 => ⟨line_of (by rw [r1.len]; exact hl), fun p hp => ?_⟩
    obtain ⟨P2, r2⟩ := new_lst A1.s hp r1
    exact k _ _ _ (P1.trans P2) r2
  · cases e
/-- {} whose keys will be ints and texts; whose keys will be tuples -/
def nK : EvE := fun _ S => some (newD (.dK []) S)
def nT : EvE := fun _ S => some (newD (.dT []) S)
theorem ee_nK : EE X (.Dict [] [] pos) nK := wkE pe_dnewK fun σ H Q q => by
  obtain ⟨ρ, τ, S, d, S', A, e, k⟩ := q
  cases e
  intro p hp
  obtain ⟨P2, r2⟩ := A.s.new (o := .dK []) (ho := .dK []) hp ⟨[], upd_same, rfl, .nil⟩
  exact k _ _ _ P2 r2
theorem ee_nT : EE X (.Dict [] [] pos) nT := wkE pe_dnewT fun σ H Q q => by
  obtain ⟨ρ, τ, S, d, S', A, e, k⟩ := q
  cases e
  intro p hp
  obtain ⟨P2, r2⟩ := A.s.new (o := .dT []) (ho := .dT []) hp ⟨[], upd_same, rfl, .nil⟩
  exact k _ _ _ P2 r2
/-! tests, and, or, not, if else -/
theorem et_val {e : Expr} {f : EvE} (h : EE X e f) (he : ∀ whole, isTrue e X.env whole = (do let v ← whole; standAt e.pos; holding [v] (truthy v)) := by intro _; rfl) : ET X e (tB f) := wkT (pt_val h he) fun σ H Q q => by
  obtain ⟨ρ, τ, S, d, S', A, e, k⟩ := q
  obtain ⟨⟨x, S1⟩, e1, e⟩ := bindE e
  refine goE A e1 fun ρ1 v1 H1 A1 P1 r1 => ?_
  cases x with
  | bl b => cases e; exact ⟨_, r1.bl_, k _ _ P1⟩
  | _ => cases e
theorem et_not {f : EvT} (h : ET X a f) : ET X (.UnaryOp .Not a pos) (notT f) := wkT (pt_not h) fun σ H Q q => by
  obtain ⟨ρ, τ, S, d, S', A, e, k⟩ := q
  simp only [notT, Option.map_eq_some_iff] at e
  obtain ⟨⟨x, S1⟩, e1, e⟩ := e
  cases e
  exact goT A e1 fun ρ1 H1 A1 P1 => k ρ1 H1 P1
theorem ew_or1 {f : EvT} (h : ET X a f) : EW X (.BoolOp .Or [a] pos) f := pw_or1 h
theorem ew_or {f g : EvT} {rest : List Expr} (h : ET X a f) (h2 : EW X (.BoolOp .Or (b :: rest) pos) g) : EW X (.BoolOp .Or (a :: b :: rest) pos) (orT' f g) := wkW (pw_or h h2) fun σ H Q q => by
  obtain ⟨ρ, τ, S, d, S', A, e, k⟩ := q
  obtain ⟨⟨x, S1⟩, e1, e⟩ := bindE e
  refine goT A e1 fun ρ1 H1 A1 P1 => ?_
  cases x with
  | false => exact goT A1 e fun ρ2 H2 A2 P2 => k ρ2 H2 (P1.trans P2)
  | true => cases e; exact k _ _ P1
theorem et_w {e : Expr} {f : EvT} (h : EW X e f) : ET X e f := h.pt
theorem ee_ite {f : EvT} (hc : ET X c f) (ha : EE X a fa) (hb : EE X b fb) : EE X (.IfExp c a b pos) (iteE f fa fb) := wkE (pe_ifExp hc ha hb) fun σ H Q q => by
  obtain ⟨ρ, τ, S, d, S', A, e, k⟩ := q
  obtain ⟨⟨x, S1⟩, e1, e⟩ := bindE e
  refine goT A e1 fun ρ1 H1 A1 P1 => ?_
  cases x with
  | true => exact goE A1 e fun ρ2 v2 H2 A2 P2 r2 => k ρ2 v2 H2 (P1.trans P2) r2
  | false => exact goE A1 e fun ρ2 v2 H2 A2 P2 r2 => k ρ2 v2 H2 (P1.trans P2) r2
theorem ee_one {op} {f : EvE} (h : EE X a f) : EE X (.BoolOp op [a] pos) f := pe_one h
theorem ee_and {rest : List Expr} {g : EvE} (ha : EE X a fa) (hb : EE X (.BoolOp .And (b :: rest) pos) g) : EE X (.BoolOp .And (a :: b :: rest) pos) (andE fa g) := wkE (pe_and ha hb) fun σ H Q q => by
  obtain ⟨ρ, τ, S, d, S', A, e, k⟩ := q
  obtain ⟨⟨x, S1⟩, e1, e⟩ := bindE e
  refine goE A e1 fun ρ1 v1 H1 A1 P1 r1 => ?_
  cases x with
  | bl b =>
    refine ⟨b, r1.bl_, ?_⟩
    cases b with
    | true => exact goE A1 e fun ρ2 v2 H2 A2 P2 r2 => k ρ2 v2 H2 (P1.trans P2) r2
    | false => cases e; exact k _ _ _ P1 (RelD.bl _)
  | _ => cases e
theorem ee_not (ha : EE X a fa) : EE X (.UnaryOp .Not a pos) (notE fa) := wkE (pe_not ha) fun σ H Q q => by
  obtain ⟨ρ, τ, S, d, S', A, e, k⟩ := q
  obtain ⟨⟨x, S1⟩, e1, e⟩ := bindE e
  refine goE A e1 fun ρ1 v1 H1 A1 P1 r1 => ?_
  cases x with
  | bl b => cases e; exact ⟨b, r1.bl_, k _ _ _ P1 (RelD.bl _)⟩
  | _ => cases e
end
end SW
/-! Dicts whose keys are tuples of any depth: what the machine does with them. -/
namespace SW
open PySem L2 PyProof.Rows

mutual
theorem plainK_hash (w w' : World) : ∀ k : NestedKey, plainK k = true → k.hash w = k.hash w'
  | .none, _ => rfl
  | .num _, _ => rfl
  | .text _, h => by simp [plainK] at h
  | .tup ks, h => by
    simp only [plainK] at h
    simp only [NestedKey.hash, plainKs_hash w w' ks h]
theorem plainKs_hash (w w' : World) : ∀ ks : List NestedKey, plainKs ks = true → NestedKey.hashes w ks = NestedKey.hashes w' ks
  | [], _ => rfl
  | k :: ks, h => by
    simp only [plainKs, Bool.and_eq_true] at h
    simp only [NestedKey.hashes, plainK_hash w w' k h.1, plainKs_hash w w' ks h.2]
end
section
variable {P : Program} {w : World} {H : Hp} {h : Heap} {a : Addr}
mutual
theorem NkV.is (ok : HOk P w H h) : ∀ {k : NestedKey} {v : V} {u : Value}, NkV H k v → RelV v u → NestedIs h k u
  | .none, v, u, q, r => by
    have q : v = .non := by simpa [NkV] using q
    subst q
    obtain rfl : u = Value.none := r
    exact .none
  | .num i, v, u, q, r => by
    have q : v = .int i := by simpa [NkV] using q
    subst q
    obtain ⟨t, rfl⟩ := r
    exact .int i t
  | .text x, v, u, q, r => by
    have q : v = .str x := by simpa [NkV] using q
    subst q
    obtain ⟨t, rfl⟩ := r
    exact .text x t
  | .tup ks, v, u, q, r => by
    simp only [NkV] at q
    obtain ⟨b, xs, rfl, e, q⟩ := q
    obtain rfl : u = Value.ref b := r
    obtain ⟨_, its, rs, o, h1, h2, n, h3⟩ := (show ObjOk P w H h b (.tup xs) from ok b _ e)
    exact .tup h1 h2 h3 (by simpa using NkVs.is ok q rs)
theorem NkVs.is (ok : HOk P w H h) : ∀ {ks : List NestedKey} {vs : List V} {us : List Value}, NkVs H ks vs → Vals vs us → NestedAll h ks us
  | [], vs, us, q, r => by
    have q : vs = [] := by simpa [NkVs] using q
    subst q
    cases r
    exact .nil
  | k :: ks, vs, us, q, r => by
    simp only [NkVs] at q
    obtain ⟨y, ys, rfl, q1, q2⟩ := q
    cases r with
    | cons r1 r2 => exact .cons (NkV.is ok q1 r1) (NkVs.is ok q2 r2)
end
/-! entries -/
def valN (xs : List NEnt) (k : NestedKey) : Option V := (xs.find? fun x => decide (x.1 = k)).map (·.2.2)
def setN (k : NestedKey) (v : V) (x : NEnt) : NEnt := if x.1 = k then (x.1, x.2.1, v) else x
def putN (xs : List NEnt) (k : NestedKey) (b : Addr) (v : V) : List NEnt := if (valN xs k).isSome then xs.map (setN k v) else xs ++ [(k, b, v)]
abbrev Ents := Paired entOk
theorem Ents.val {xs : List NEnt} {ys : List (NestedKey × Addr × Value)} (r : Ents xs ys) (k : NestedKey) : RelO (valN xs k) ((atKey ys k).map (·.2)) := by
  induction r with
  | nil => exact True.intro
  | @cons p q ps qs e t ih =>
    obtain ⟨e1, e2, e3⟩ := e
    unfold valN atKey at ih ⊢
    rw [List.find?_cons, List.find?_cons, ← e1]
    by_cases z : p.1 = k
    · simp only [z, decide_true, Option.map_some]; exact e3
    · simp only [z, decide_false]; exact ih
theorem Ents.setAll {xs : List NEnt} {ys : List (NestedKey × Addr × Value)} (r : Ents xs ys) (k : NestedKey) {v : V} {u : Value} (rv : RelV v u) : Ents (xs.map (setN k v)) (ys.map (putAt k u)) := by
  induction r with
  | nil => exact .nil
  | @cons p q ps qs e t ih =>
    rw [List.map_cons, List.map_cons]
    refine .cons ?_ ih
    obtain ⟨e1, e2, e3⟩ := e
    unfold setN putAt
    rw [← e1]
    by_cases z : p.1 = k
    · rw [if_pos z, if_pos z]; exact ⟨rfl, e2, rv⟩
    · rw [if_neg z, if_neg z]; exact ⟨e1, e2, e3⟩
theorem Ents.snoc {xs : List NEnt} {ys : List (NestedKey × Addr × Value)} (r : Ents xs ys) {p : NEnt} {q : NestedKey × Addr × Value} (e : entOk p q) : Ents (xs ++ [p]) (ys ++ [q]) := by
  induction r with
  | nil => exact .cons e .nil
  | cons e1 _ ih => exact .cons e1 ih
theorem Ents.put {xs : List NEnt} {ys : List (NestedKey × Addr × Value)} (r : Ents xs ys) (k : NestedKey) (b : Addr) {v : V} {u : Value} (rv : RelV v u) : Ents (putN xs k b v) (storedH ys k b u) := by
  have e := (r.val k).isSome_eq
  rw [Option.isSome_map] at e
  unfold putN storedH
  rw [e]
  split
  · exact r.setAll k rv
  · exact r.snoc ⟨rfl, rfl, rv⟩
theorem putN_len {xs : List NEnt} {k : NestedKey} {b : Addr} {v : V} : (putN xs k b v).length ≤ xs.length + 1 := by
  unfold putN
  split <;> simp
theorem putN_ok {xs : List NEnt} {k : NestedKey} {b : Addr} {v : V} (ok : ∀ x ∈ xs, NOk H x) (hk : NOk H (k, b, v)) : ∀ x ∈ putN xs k b v, NOk H x := by
  intro x hx
  unfold putN at hx
  split at hx
  · obtain ⟨y, hy, rfl⟩ := List.mem_map.mp hx
    have := ok y hy
    unfold setN
    split
    · exact this
    · exact this
  · rcases List.mem_append.mp hx with hx | hx
    · exact ok x hx
    · simp at hx; subst hx; exact hk
/-- a dict that may be read: its entries, and what the machine has of them -/
structure DN (H : Hp) (a : Addr) (xs : List NEnt) : Prop where
  rd : Rd H a (dNO a xs) ∨ (xs = [] ∧ Rd H a (.dK []))
  ok : ∀ x ∈ xs, NOk H x
/-- one that may be written; the empty dict is of any kind -/
structure DW (H : Hp) (a : Addr) (xs : List NEnt) : Prop where
  wr : H a = some (dNO a xs) ∨ (xs = [] ∧ H a = some (.dK []))
  ok : ∀ x ∈ xs, NOk H x
theorem DW.dn (d : DW H a xs) : DN H a xs := ⟨d.wr.elim (fun h => .inl (.inl h)) fun h => .inr ⟨h.1, .inl h.2⟩, d.ok⟩
theorem DW.mut (d : DW H a xs) : Mut (H a) := by
  rcases d.wr with h | ⟨_, h⟩ <;> rw [h] <;> exact True.intro
theorem DN.at (D : DN H a xs) (ok : HOk P w H h) : xs.length ≤ sizeLine ∧ (a == sysModules) = false ∧ ∃ ys, Ents xs ys ∧ h.DictOfH (nestedKind P w) a ys := by
  rcases D.rd with rd | ⟨rfl, rd⟩
  rotate_left
  · obtain ⟨z, y, vs, r, o, es, ep, h1, h2, h3, _, h5, _⟩ := (show ObjOk P w H h a (.dK []) from rd.ok ok)
    cases r
    have : es.toList = [] := by cases q : es.toList with | nil => rfl | cons _ _ => rw [q] at h5; cases h5
    exact ⟨Nat.zero_le _, y, [], .nil, o, es, ep, h1, h2, h3, this, fun x hx => by simp at hx, List.nodup_nil⟩
  obtain ⟨⟨z, y, ys, r, nd, o, es, ep, h1, h2, h3, h4⟩, _, _⟩ := (show ObjOk P w H h a (dNO a xs) from rd.ok ok)
  refine ⟨z, y, ys, r, o, es, ep, h1, h2, h3, h4 w, fun x hx => ?_, nd⟩
  have all : ∀ {l : List NEnt} {m : List (NestedKey × Addr × Value)}, Ents l m → (∀ x ∈ l, NOk H x) → ∀ x ∈ m, (nestedKind P w).is h x.1 x.2.1 := by
    intro l m q
    induction q with
    | nil => intro _ x hx; simp at hx
    | @cons p q ps qs hq t ih =>
      intro okl x hx
      rcases List.mem_cons.mp hx with e | hx
      · subst e
        obtain ⟨n1, n2, _⟩ := okl p List.mem_cons_self
        refine ⟨?_, by rw [← hq.1]; exact n2⟩
        rw [← hq.1, ← hq.2.1]
        exact NkV.is ok n1 rfl
      · exact ih (fun y hy => okl y (List.mem_cons_of_mem _ hy)) x hx
  exact all r D.ok x hx
theorem dNO_mk {xs : List NEnt} {ys : List (NestedKey × Addr × Value)} (z : xs.length ≤ sizeLine) (hd : (a == sysModules) = false) (r : Ents xs ys) (pl : ∀ x ∈ xs, plainK x.1 = true) (D : h.DictOfH (nestedKind P w) a ys) : ObjOk P w H h a (dNO a xs) := by
  obtain ⟨o, es, ep, h1, h2, h3, h4, _, nd⟩ := D
  refine ⟨⟨z, hd, ys, r, nd, o, es, ep, h1, h2, h3, fun w' => ?_⟩, ⟨o, h1⟩, ?_⟩
  · rw [h4]
    refine List.map_congr_left fun y hy => ?_
    have : plainK y.1 = true := by
      have all : ∀ {l : List NEnt} {m : List (NestedKey × Addr × Value)}, Ents l m → (∀ x ∈ l, plainK x.1 = true) → ∀ x ∈ m, plainK x.1 = true := by
        intro l m q
        induction q with
        | nil => intro _ x hx; simp at hx
        | @cons p q ps qs hq t ih =>
          intro okl x hx
          rcases List.mem_cons.mp hx with e | hx
          · subst e
            rw [← hq.1]; exact okl p List.mem_cons_self
          · exact ih (fun y hy => okl y (List.mem_cons_of_mem _ hy)) x hx
      exact all r pl y hy
    show (⟨y.1.hash w, .ref y.2.1, y.2.2⟩ : DictEntry) = _
    rw [plainK_hash w w' y.1 this]
  · rintro h1 h2 ⟨z, hd, ys, r, nd, o, es, ep, g1, g2, g3, g4⟩ st
    exact ⟨z, hd, ys, r, nd, o, es, ep, st o g1, g2, g3, g4⟩
end
section
variable {X : Cx} {pins : List (Addr × Obj)} {σ : L2.St} {H : Hp} {s : Shared} {a b : Addr} {xs : List NEnt} {k : NestedKey} {A : Around} {E : Value → Shared → Prop}
/-- a value that is such a key -/
structure KN (H : Hp) (k : NestedKey) (y : V) (b : Addr) : Prop where
  ref : y = .ref b
  nk : NkV H k (.ref b)
  dep : k.depth ≤ 8
  pl : plainK k = true
theorem KN.is {P : Program} {w : World} {h : Heap} {y : V} (q : KN H k y b) (ok : HOk P w H h) : (nestedKind P w).is h k b := ⟨NkV.is ok q.nk rfl, q.dep⟩
theorem room8 (hu : A.units + 65 < cLine) : (nestedKind X.prog X.w).room A.in1 := by
  show A.in1.units + 8 < cLine
  have : A.in1.units = A.units + 1 := rfl
  omega
def DGN (H : Hp) (a : Addr) (y : V) (r : Option V) : Prop := ∃ xs k b, DN H a xs ∧ KN H k y b ∧ r = valN xs k
theorem n_get {y v : V} {u : Value} {Q : Value → Shared → Prop} (hu : A.units + 65 < cLine) (I : Inv X pins σ H s) (g : DGN H a y (some v)) (ry : RelV y u) (q : ∀ u' s', Inv X pins σ H s' → RelV v u' → Q u' s') : wpAny (model X.prog X.w) A (getItem (.ref a) u) Q E s := by
  obtain ⟨xs, k, b, D, kn, l⟩ := g
  rw [kn.ref] at ry
  obtain rfl : u = Value.ref b := ry
  obtain ⟨_, _, ys, r, dd⟩ := D.at I.hok
  have rv := r.val k
  rw [← l] at rv
  obtain ⟨u', e, ru⟩ := RelO.some_of rv
  obtain ⟨p, hp, hp2⟩ := Option.map_eq_some_iff.mp e
  refine wpAny_getItem_heap (room8 hu) (kn.is I.hok) dd hp ?_
  rw [hp2]
  exact q u' _ (I.tok _) ru
theorem n_notin {y : V} {u : Value} {o : Option V} {Q : Value → Shared → Prop} (hu : A.units + 65 < cLine) (I : Inv X pins σ H s) (g : DGN H a y o) (ry : RelV y u) (q : ∀ s', Inv X pins σ H s' → Q (.bool (!o.isSome)) s') : wpAny (model X.prog X.w) A (compareOp .NotIn u (.ref a)) Q E s := by
  obtain ⟨xs, k, b, D, kn, l⟩ := g
  rw [kn.ref] at ry
  obtain rfl : u = Value.ref b := ry
  obtain ⟨_, hd, ys, r, dd⟩ := D.at I.hok
  refine wpAny_notIn_heap (room8 hu) (kn.is I.hok) hd dd ?_
  have rv := (r.val k).isSome_eq
  rw [Option.isSome_map, ← l] at rv
  rw [← rv]
  exact q _ (I.tok _)
theorem n_type (I : Inv X pins σ H s) (D : DN H a xs) : s.TypeIs (.ref a) "dict" ∧ (∀ b, Value.ref a = .ref b → ∃ ob, s.heap.get? b = some ob ∧ ob.dict = none) ∧ (a == sysModules) = false := by
  obtain ⟨_, hd, ys, _, dd⟩ := D.at I.hok
  refine ⟨dd.typeIs, fun b e => ?_, hd⟩
  cases e
  obtain ⟨ob, _, _, h1, h2, _⟩ := dd
  exact ⟨ob, h1, h2.2.1⟩
/-- the object at a is another one now -/
theorem n_write {h' : Heap} {t' : Nat} {k : NestedKey} {v : V} {u : Value} {ys : List (NestedKey × Addr × Value)} (I : Inv X pins σ H s) (W : DW H a xs) (kn : NOk H (k, b, v)) (r : Ents xs ys) (rv : RelV v u) (hl : xs.length < sizeLine) (hd : (a == sysModules) = false)
    (dd : h'.DictOfH (nestedKind X.prog X.w) a (storedH ys k b u)) (hs : Heap.SameBut a s.heap h') : Inv X pins σ (upd H a (dNO a (putN xs k b v))) { s with heap := h', toks := t' } := by
  have he : ∃ q, h'.get? a = some q := let ⟨q, _, _, hq, _⟩ := dd; ⟨q, hq⟩
  refine d_write I W.mut hs he (dNO_mk (by have := putN_len (xs := xs) (k := k) (b := b) (v := v); omega) hd (r.put k b rv) (fun x hx => ?_) dd)
  exact (putN_ok W.ok kn x hx).2.2
def DPN (H : Hp) (a : Addr) (y v : V) (H' : Hp) : Prop := ∃ xs k b, DW H a xs ∧ KN H k y b ∧ xs.length < sizeLine ∧ H' = upd H a (dNO a (putN xs k b v))
theorem n_put {y v : V} {u t : Value} {H' : Hp} {Q : Unit → Shared → Prop} (hu : A.units + 65 < cLine) (I : Inv X pins σ H s) (g : DPN H a y v H') (ry : RelV y u) (rv : RelV v t) (q : ∀ s', Inv X pins σ H' s' → Q () s') : wpAny (model X.prog X.w) A (setItem (.ref a) u t) Q E s := by
  obtain ⟨xs, k, b, W, kn, hl, rfl⟩ := g
  rw [kn.ref] at ry
  obtain rfl : u = Value.ref b := ry
  obtain ⟨z, hd, ys, r, dd⟩ := W.dn.at I.hok
  refine wpAny_setItem_heap (hsz := by rw [← Paired.length r]; exact z) (room8 hu) (kn.is I.hok) dd fun h' dd' hs => q _ ?_
  exact n_write I W ⟨kn.nk, kn.dep, kn.pl⟩ r rv hl hd dd' hs
theorem n_len {Q : Value → Shared → Prop} (I : Inv X pins σ H s) (D : DN H a xs) (q : ∀ t s', Inv X pins σ H s' → Q (.int xs.length t) s') : wpAny (model X.prog X.w) A (call (.builtin "len") [.ref a]) Q E s := by
  obtain ⟨z, hd, ys, r, dd⟩ := D.at I.hok
  have hl : xs.length = ys.length := Paired.length r
  refine call_len_dictH hd dd (by rw [← hl]; rw [sizeLine_eq] at z; omega) ?_
  have := q (s.toks + 1) _ (I.tok (s.toks + 1 + 1))
  rw [hl] at this
  exact this
end
/-! ### readings -/
def rGetN : R2 := fun x y H Q => ∃ a v, x = .ref a ∧ DGN H a y (some v) ∧ Q v H
def rInN (n : Bool → Bool) : R2 := fun y x H Q => ∃ a o, x = .ref a ∧ DGN H a y o ∧ Q (.bl (n o.isSome)) H
def rSetN : V → V → V → Hp → (Hp → Prop) → Prop := fun o i v H Q => ∃ a H4, o = .ref a ∧ DPN H a i v H4 ∧ Q H4
def tOpN (r : R2) (tx ty : TE) : TE := fun σ H Q => tx σ H fun x H1 => ty σ H1 fun y H2 => r x y H2 Q
section
variable {X : Cx} {o i e f : Expr} {pos apos cpos : Pos} {td ty tx : TE}
theorem pe_nget (hu : X.A.units + 65 < cLine) (ho : PE X o td) (hi : PE X i ty) (hs : NoSl i) : PE X (.Subscript o i pos) (tOpN rGetN td ty) := ⟨fun pins s σ H Q I h => by
  refine subD_of PySem.F.slot_dict_getitem.lookup hs (thn (ho.run pins s σ H _ I h) fun u s1 m1 => ?_)
  obtain ⟨x, H1, I1, rx, m1⟩ := m1
  refine thn (hi.run pins s1 σ H1 _ I1 m1) fun iv s2 m2 => ?_
  obtain ⟨y, H2, I2, ry, a, v, rfl, g, m2⟩ := m2
  obtain rfl : u = Value.ref a := rx
  obtain ⟨xs, k, b, D, _, _⟩ := id g
  exact ⟨(n_type I2 D).1, n_get hu I2 g ry fun w' s3 I3 rw' => ⟨v, H2, I3, rw', m2⟩⟩⟩
theorem pc_nnotin (hu : X.A.units + 65 < cLine) (hi : PE X i ty) (ho : PE X o td) : PC X .NotIn i o (tOpN (rInN not) ty td) := ⟨fun pins s σ H Q I h => by
  refine thn (hi.run pins s σ H _ I h) fun iv s1 m1 => ?_
  obtain ⟨y, H1, I1, ry, m1⟩ := m1
  refine thn (ho.run pins s1 σ H1 _ I1 m1) fun u s2 m2 => ?_
  obtain ⟨x, H2, I2, rx, a, ov, rfl, g, m2⟩ := m2
  obtain rfl : u = Value.ref a := rx
  exact n_notin hu I2 g ry fun s3 I3 => ⟨.bl (!ov.isSome), H2, I3, rfl, m2⟩⟩
theorem set_dN (hu : X.A.units + 65 < cLine) : PSet X rSetN := by
  intro pins s σ H o i v ov iv u Q I ro ri rv h
  obtain ⟨a, H4, rfl, g, q⟩ := h
  cases ro
  exact n_put hu I g ri rv fun s' I' => ⟨H4, I', q⟩
end
end SW
set_option maxHeartbeats 4000000
/-! a tuple, once or not at all -/
namespace SW
open PySem L2 PySem.Spec PyProof.Rows

theorem tuple_mul1 (l : Addr) (items : Array Value) (n : Nat) (sl : Array (Option Value)) (dd : Option Addr) (u : Tok) :
    Meets (Builtin.«tuple.__mul__» ⟨[.ref l, .int 1 u], []⟩) (fun _ R s => s.heap.get? l = some { cls := .type "tuple", dict := dd, data := .seq items n, slots := sl } ∧
      R (.ok (.ret (Value.ref l))) s) :=
  .of_wp fun prog w A R s h => by
    obtain ⟨hp, g, d, tk, os⟩ := s
    obtain ⟨hl, h⟩ := h
    have f1 := AutoSeq1.idx_int
    have c1 : (items.isEmpty || (1 : Int) == 1) = true := by simp
    wp_walk using wpAny_loadPart' hl
    repeat (first
      | (refine wpAny_ite_false (decide_eq_false (by decide)) ?_; wp_walk using wpAny_loadPart' hl)
      | (refine wpAny_ite_true (decide_eq_true c1) ?_; wp_walk using wpAny_loadPart' hl)
      | (refine wpAny_ite_true (by simp) ?_; wp_walk using wpAny_loadPart' hl))
    exact ⟨_, rfl, h⟩
theorem tuple_mul0 (l : Addr) (items : Array Value) (n : Nat) (sl : Array (Option Value)) (dd : Option Addr) (u : Tok) (he : items.isEmpty = false) :
    Meets (Builtin.«tuple.__mul__» ⟨[.ref l, .int 0 u], []⟩) (fun _ R s => s.heap.get? l = some { cls := .type "tuple", dict := dd, data := .seq items n, slots := sl } ∧
      R (.ok (.ret (Value.ref s.heap.objs.size))) { s with heap := s.heap.push { cls := Value.type "tuple", data := Data.seq #[] }, toks := s.toks }) :=
  .of_wp fun prog w A R s h => by
    obtain ⟨hp, g, d, tk, os⟩ := s
    obtain ⟨hl, h⟩ := h
    have f1 := AutoSeq1.idx_int
    have c1 : (items.isEmpty || (0 : Int) == 1) = false := by rw [he]; rfl
    wp_walk using wpAny_loadPart' hl
    repeat (first
      | (refine wpAny_ite_false (decide_eq_false (by rw [c1]; exact Bool.false_ne_true)) ?_; wp_walk using wpAny_loadPart' hl)
      | (refine wpAny_ite_false (decide_eq_false (by decide)) ?_; wp_walk using wpAny_loadPart' hl)
      | (refine wpAny_ite_true (decide_eq_true (by simp)) ?_; wp_walk using wpAny_loadPart' hl))
    exact ⟨_, rfl, h⟩
def rRep01 (K : PySem.W.Frag) : R2 := fun x y H Q => ∃ l k xs, x = .ref l ∧ y = .int k ∧ SqT K H l xs ∧ xs ≠ [] ∧ ((k = 1 ∧ Q (.ref l) H) ∨ (k = 0 ∧ ∀ p, H p = none → Q (.ref p) (upd H p (.tup []))))
theorem op_rep01 {X : Cx} : OpR X (binaryOp .Mult) (rRep01 X.K) := by
  intro pins s σ H x y v u Q I rx ry h
  obtain ⟨l, k, xs, rfl, rfl, hT, hne, q⟩ := h
  cases rx
  obtain ⟨t, rfl⟩ := ry
  obtain ⟨its, r, ⟨⟨cls, dd, data, sl⟩, ho, hc, n, hd⟩, hs⟩ := I.tuple hT
  simp only at hc hd
  subst hc hd
  have hle : its.length = xs.length := r.length.symm
  have hi : its.toArray.isEmpty = false := by
    cases its with
    | nil => exact absurd (List.eq_nil_of_length_eq_zero hle.symm) hne
    | cons a b => rfl
  rcases q with ⟨rfl, q⟩ | ⟨rfl, q⟩
  · exact wpAny_binaryOp_repeat_ref (T := "tuple") (U := "int") (by decide) ⟨_, ho, rfl⟩ (fun s' => typeIs_int s' 1 t) noFill_tuple_mul F.fills_int_mul F.slot_int_rmul repeat_tuple F.slot_int_index.lookup
      (call_meets F.slot_int_rmul (typeIs_int s 1 t) F.entry_int_rmul (F.args_int_rmul_2 _ _) (int_rmul_tuple 1 t l its.toArray n dd sl)
        ⟨ho, rfl, ⟨_, ho, rfl⟩, call_meets F.slot_tuple_mul ⟨_, ho, rfl⟩ F.entry_tuple_mul (F.args_tuple_mul_2 _ _) (tuple_mul1 l its.toArray n sl dd t) ⟨ho, ⟨.ref l, H, I, rfl, q⟩⟩⟩)
  · refine wpAny_binaryOp_repeat_ref (T := "tuple") (U := "int") (by decide) ⟨_, ho, rfl⟩ (fun s' => typeIs_int s' 0 t) noFill_tuple_mul F.fills_int_mul F.slot_int_rmul repeat_tuple F.slot_int_index.lookup
      (call_meets F.slot_int_rmul (typeIs_int s 0 t) F.entry_int_rmul (F.args_int_rmul_2 _ _) (int_rmul_tuple 0 t l its.toArray n dd sl)
        ⟨ho, rfl, ⟨_, ho, rfl⟩, call_meets F.slot_tuple_mul ⟨_, ho, rfl⟩ F.entry_tuple_mul (F.args_tuple_mul_2 _ _) (tuple_mul0 l its.toArray n sl dd t hi) ⟨ho, ?_⟩⟩)
    refine ⟨.ref s.heap.objs.size, _, I.laid (t' := s.toks) (o := .tup []) (fun b ob q => Heap.get?_push_of_some _ q) (Nat.le_refl _) ?_, rfl, q _ (I.hok.fresh (Nat.le_refl _))⟩
    exact ⟨by rw [sizeLine_eq]; simp, [], .nil, IsTup.new _ _⟩
end SW
namespace SW
open PySem L2

/-- where rules may be used: nothing is being handled, and there is room for k calls -/
structure Ok (X : Cx) (k : Nat) : Prop where
  calm : X.calm = true
  room : Room k X.A
theorem Ok.blk {X : Cx} {k : Nat} (o : Ok X k) {s : Shared} {H : Hp} {scope : Scope} {cenv : Env} {fp : List Addr} : Ok (X.blk s H scope cenv fp) k := ⟨o.calm, o.room⟩
theorem Ok.units {X : Cx} {k : Nat} (o : Ok X k) : X.A.units + 65 < cLine := by have := o.room.un; omega

/-! ### integers, texts, lists, tuples by operators -/
def small64 (i : Int) : Bool := decide (-(2 ^ 64) < i) && decide (i < 2 ^ 64)
def intsOf : List D → Option (List Int)
  | [] => some []
  | .int i :: ds => (intsOf ds).map (i :: ·)
  | _ => none
def isNilD : List D → Bool
  | [] => true
  | _ => false
def addD : D → D → Sto → Option (D × Sto)
  | .int i, .int j, S => some (.int (i + j), S)
  | .str x, .str y, S => if x.length + y.length ≤ 10000000 then some (.str (x ++ y), S) else none
  | .tup a, .tup b, S => if a.length + b.length ≤ 10000000 then some (.tup (a ++ b), S) else none
  | .loc m, .loc n, S => match S[m]?, S[n]? with
    | some (.lst a), some (.lst b) => if a.length + b.length ≤ 10000000 then some (newD (.lst (a ++ b)) S) else none
    | _, _ => none
  | .fl a, .loc n, S => match S[n]? with
    | some (.lst b) => if a.length + b.length ≤ 10000000 then some (newD (.lst (a ++ b)) S) else none
    | _ => none
  | _, _, _ => none
def subD : D → D → Sto → Option (D × Sto)
  | .int i, .int j, S => some (.int (i - j), S)
  | _, _, _ => none
def mulD : D → D → Sto → Option (D × Sto)
  | .int i, .int j, S => if small64 i || small64 j then some (.int (i * j), S) else none
  | .loc m, .int k, S => match S[m]? with
    | some (.lst a) => if -(2 ^ 63) ≤ k ∧ k < 2 ^ 63 ∧ a.length * k.toNat ≤ 10000000 then some (newD (.lst (List.replicate k.toNat a).flatten) S) else none
    | _ => none
  | .tup ds, .int k, S => if isNilD ds then none else if k = 1 then some (.tup ds, S) else if k = 0 then some (.tup [], S) else none
  | _, _, _ => none
def modD : D → D → Sto → Option (D × Sto)
  | .int i, .int j, S => if 0 < j then some (.int (i % j), S) else none
  | _, _, _ => none
def fdivD : D → D → Sto → Option (D × Sto)
  | .int i, .int j, S => if 0 < j ∧ j < 1073741824 then some (.int (i / j), S) else none
  | _, _, _ => none
def powD : D → D → Sto → Option (D × Sto)
  | .int i, .int j, S => if 0 ≤ j ∧ j ≤ 1000000 ∧ i.natAbs < 2 ^ 64 then some (.int (i ^ j.toNat), S) else none
  | _, _, _ => none
/-! comparisons -/
def ltD : D → D → Sto → Option (D × Sto)
  | .int i, .int j, S => some (.bl (decide (i < j)), S)
  | .tup a, .tup b, S => match intsOf a, intsOf b with
    | some ns, some ms => some (.bl (HT.lexLt ns ms), S)
    | _, _ => none
  | _, _, _ => none
def gtD : D → D → Sto → Option (D × Sto)
  | .int i, .int j, S => some (.bl (decide (j < i)), S)
  | _, _, _ => none
def geD : D → D → Sto → Option (D × Sto)
  | .int i, .int j, S => some (.bl (decide (j ≤ i)), S)
  | _, _, _ => none
def lexLe (ns ms : List Int) : Bool := Ob.lexAt (fun j => decide (ns.getD j 0 = ms.getD j 0)) (fun j => decide (ns.getD j 0 ≤ ms.getD j 0)) (decide (ns.length ≤ ms.length)) 0 (min ns.length ms.length)
def leD : D → D → Sto → Option (D × Sto)
  | .int i, .int j, S => some (.bl (decide (i ≤ j)), S)
  | .tup a, .tup b, S => match intsOf a, intsOf b with
    | some ns, some ms => some (.bl (lexLe ns ms), S)
    | _, _ => none
  | _, _, _ => none
def isNonD : D → Bool
  | .non => true
  | _ => false
/-- is, is not: None, or two truths -/
def isD : D → D → Sto → Option (D × Sto)
  | x, .non, S => some (.bl (isNonD x), S)
  | .bl a, .bl b, S => some (.bl (decide (a = b)), S)
  | _, _, _ => none
def isNotD : D → D → Sto → Option (D × Sto)
  | x, .non, S => some (.bl (!isNonD x), S)
  | .bl a, .bl b, S => some (.bl (!decide (a = b)), S)
  | _, _, _ => none
/-! data as the model's own trees: lists are looked up in the store, n deep -/
mutual
def pyD (g : Nat → Option PyData) : D → Option PyData
  | .non => some .none
  | .bl b => some (.bool b)
  | .int i => some (.int i)
  | .str x => some (.str x)
  | .tup ds => (pyDs g ds).map .tuple
  | .fl ds => (pyDs g ds).map .list
  | .loc n => g n
  | .ty _ => none
def pyDs (g : Nat → Option PyData) : List D → Option (List PyData)
  | [] => some []
  | d :: ds => (pyD g d).bind fun p => (pyDs g ds).map (p :: ·)
end
def pyL (S : Sto) : Nat → Nat → Option PyData
  | 0, _ => none
  | n + 1, k => match S[k]? with
    | some (.lst ds) => (pyDs (pyL S n) ds).map .list
    | _ => none
def pyOf (S : Sto) (d : D) : Option PyData := (pyD (pyL S 4) d).bind fun p => if SeqAt.shaped p then some p else none
def eqD (x y : D) (S : Sto) : Option (D × Sto) := (pyOf S x).bind fun p => (pyOf S y).map fun q => (.bl (PyData.eqv p q), S)
def neD (x y : D) (S : Sto) : Option (D × Sto) := (pyOf S x).bind fun p => (pyOf S y).map fun q => (.bl (!PyData.eqv p q), S)

section
variable {X : Cx} {K : PySem.W.Frag} {ρ : List Addr} {S : Sto} {H : Hp}
mutual
theorem dp_of {g : Nat → Option PyData} (R : RelS K ρ S H) (hg : ∀ n p v, g n = some p → RelD K ρ H (.loc n) v → Dp K H v p) : ∀ (d : D) (v : V) (p : PyData), RelD K ρ H d v → pyD g d = some p → Dp K H v p
  | .non, _, _, r, e => by rw [r.non_]; cases e; exact .non
  | .bl b, _, _, r, e => by rw [r.bl_]; cases e; exact .bl b
  | .int b, _, _, r, e => by rw [r.int_]; cases e; exact .int b
  | .str b, _, _, r, e => by rw [r.str_]; cases e; exact .str b
  | .ty b, _, _, r, e => by cases e
  | .loc n, _, _, r, e => hg n _ _ e r
  | .tup ds, _, _, r, e => by
    obtain ⟨a, xs, rfl, h, q⟩ := r.tup_
    simp only [pyD, Option.map_eq_some_iff] at e
    obtain ⟨ps, e, rfl⟩ := e
    exact .tup (SqT.of h) (dps_of R hg ds xs ps q e)
  | .fl ds, _, _, r, e => by
    obtain ⟨a, xs, rfl, h, q⟩ := r.fl_
    simp only [pyD, Option.map_eq_some_iff] at e
    obtain ⟨ps, e, rfl⟩ := e
    exact .lst h.sqL (dps_of R hg ds xs ps q e)
theorem dps_of {g : Nat → Option PyData} (R : RelS K ρ S H) (hg : ∀ n p v, g n = some p → RelD K ρ H (.loc n) v → Dp K H v p) : ∀ (ds : List D) (vs : List V) (ps : List PyData), RelDs K ρ H ds vs → pyDs g ds = some ps → DpAll K H vs ps
  | [], _, _, r, e => by cases e; simp only [RelDs] at r; subst r; exact .nil
  | d :: ds, _, _, r, e => by
    simp only [RelDs] at r
    obtain ⟨x, ys, rfl, r1, r2⟩ := r
    simp only [pyDs] at e
    obtain ⟨p, e1, e⟩ := bindE e
    rw [Option.map_eq_some_iff] at e
    obtain ⟨ps, e2, rfl⟩ := e
    exact .cons (dp_of R hg d x p r1 e1) (dps_of R hg ds ys ps r2 e2)
end
theorem dp_L (R : RelS K ρ S H) : ∀ (m n : Nat) (p : PyData) (v : V), pyL S m n = some p → RelD K ρ H (.loc n) v → Dp K H v p
  | 0, _, _, _, e, _ => by cases e
  | m + 1, n, p, v, e, r => by
    simp only [pyL] at e
    split at e
    · rename_i ds eo
      rw [Option.map_eq_some_iff] at e
      obtain ⟨ps, e, rfl⟩ := e
      obtain ⟨a, xs, rfl, _, h, q⟩ := R.lst eo r
      exact .lst (SqL.of h) (dps_of R (fun n p v => dp_L R m n p v) ds xs ps q e)
    · cases e
theorem dp_py (R : RelS K ρ S H) {d : D} {v : V} {p : PyData} (r : RelD K ρ H d v) (e : pyOf S d = some p) : Dp K H v p ∧ SeqAt.shaped p = true := by
  obtain ⟨q, e1, e⟩ := bindE e
  split at e
  · cases e
    rename_i h
    exact ⟨dp_of R (fun n p v => dp_L R 4 n p v) d v _ r e1, h⟩
  · cases e
theorem op2_eq : Op2 K (rEqD K) eqD := fun ρ S H x y v w d S' R r1 r2 e Q k => by
  obtain ⟨p, e1, e⟩ := bindE e
  rw [Option.map_eq_some_iff] at e
  obtain ⟨q, e2, e⟩ := e
  cases e
  obtain ⟨h1, s1⟩ := dp_py R r1 e1
  obtain ⟨h2, s2⟩ := dp_py R r2 e2
  exact ⟨p, q, h1, h2, s1, s2, k _ _ _ (Post.refl R) (RelD.bl _)⟩
theorem op2_ne : Op2 K (rNeD K) neD := fun ρ S H x y v w d S' R r1 r2 e Q k => by
  obtain ⟨p, e1, e⟩ := bindE e
  rw [Option.map_eq_some_iff] at e
  obtain ⟨q, e2, e⟩ := e
  cases e
  obtain ⟨h1, s1⟩ := dp_py R r1 e1
  obtain ⟨h2, s2⟩ := dp_py R r2 e2
  exact ⟨p, q, h1, h2, s1, s2, k _ _ _ (Post.refl R) (RelD.bl _)⟩
theorem intsOf_rel {ds : List D} : ∀ {xs : List V} {ns : List Int}, RelDs K ρ H ds xs → intsOf ds = some ns → xs = ns.map V.int := by
  induction ds with
  | nil => intro xs ns r e; cases e; simp only [RelDs] at r; subst r; rfl
  | cons d ds ih =>
    intro xs ns r e
    cases d with
    | int i =>
      simp only [intsOf, Option.map_eq_some_iff] at e
      obtain ⟨ns, e, rfl⟩ := e
      simp only [RelDs] at r
      obtain ⟨x, ys, rfl, r1, r2⟩ := r
      rw [r1.int_, ih r2 e]; rfl
    | _ => cases e
/-- an answer that is flat, the store as it was -/
abbrev kRefl (R : RelS K ρ S H) {Q : VK} {v : V} {d : D} (k : ∀ ρ' u H', Post K ρ H ρ' H' S → RelD K ρ' H' d u → Q u H') (r : RelD K ρ H d v) : Q v H := k ρ v H (Post.refl R) r

/-- a list that is read (frozen too) and one that is tracked -/
def rCatF (K : PySem.W.Frag) : R2 := fun x y H Q => ∃ l b xs zs, x = .ref l ∧ y = .ref b ∧ SqL K H l xs ∧ H b = some (.lst zs) ∧ xs.length + zs.length ≤ sizeLine ∧ ∀ p, H p = none → Q (.ref p) (upd H p (.lst (xs ++ zs)))
theorem op_catF : OpR X (binaryOp .Add) (rCatF X.K) := by
  intro pins s σ H x y v u Q I rx ry h
  obtain ⟨l, b, xs, zs, rfl, rfl, hH, hB, hz, q⟩ := h
  cases rx
  cases ry
  obtain ⟨its, r, ⟨⟨cls, dd, data, sl⟩, n, e, hc, _, hd⟩, hl⟩ := I.list hH
  obtain ⟨its2, r2, ⟨⟨cls2, dd2, data2, sl2⟩, n2, e2, hc2, _, hd2⟩, hl2⟩ := I.list (SqL.of hB)
  simp only at hc hd hc2 hd2
  subst hc hd hc2 hd2
  have z1 := r.length
  have z2 := r2.length
  refine concat_meets ⟨_, e, rfl⟩ ⟨_, e2, rfl⟩ noFill_list_add seq_list_add PySem.F.slot_list_add PySem.F.entry_list_add (PySem.F.args_list_add_2 _ _) (PyProof.Rows.list_addW l b its.toArray its2.toArray n n2 dd dd2 sl sl2 (by rw [List.size_toArray, List.size_toArray]; omega)) ⟨e, e2, ?_⟩
  have ea : its.toArray ++ its2.toArray = (its ++ its2).toArray := by simp
  rw [ea]
  exact ⟨.ref _, _, I.lnew (t' := s.toks) (r.append r2) (by rw [List.length_append]; omega), rfl, q _ I.fresh⟩
def rAddE (K : PySem.W.Frag) : R2 := fun x y H Q => (rI0 (fun i j => .int (i + j)) x y H Q ∨ (∃ i j, x = .str i ∧ y = .str j ∧ i.length + j.length ≤ sizeLine ∧ Q (.str (i ++ j)) H)) ∨ (rCatA K x y H Q ∨ (rCat x y H Q ∨ rCatF K x y H Q))
theorem opr_add : OpR X (binaryOp .Add) (rAddE X.K) := orO (orO op_add op_add_str) (orO op_catA (orO op_cat op_catF))
theorem op2_add : Op2 K (rAddE K) addD := fun ρ S H x y v w d S' R r1 r2 e Q k => by
  cases x <;> cases y <;> simp only [addD] at e <;> try cases e
  · rw [r1.int_, r2.int_]
    exact .inl (.inl ⟨_, _, rfl, rfl, kRefl R k (RelD.int _)⟩)
  · split at e
    · rename_i hl; cases e
      rw [r1.str_, r2.str_]
      exact .inl (.inr ⟨_, _, rfl, rfl, line_of hl, kRefl R k (RelD.str _)⟩)
    · cases e
  · split at e
    · rename_i hl; cases e
      obtain ⟨a, xs, rfl, h1, q1⟩ := r1.tup_
      obtain ⟨b, ys, rfl, h2, q2⟩ := r2.tup_
      have l1 := q1.len
      have l2 := q2.len
      refine .inr (.inl ⟨a, b, xs, ys, rfl, rfl, SqT.of h1, SqT.of h2, line_of (by omega), fun z => ?_, fun z1 z2 => ?_, fun z1 z2 p hp => ?_⟩)
      · subst z
        have q := q1.app q2
        exact kRefl R k (RelD.tup h2 q)
      · subst z2
        have q := q1.app q2
        rw [List.append_nil] at q
        exact kRefl R k (RelD.tup h1 q)
      · obtain ⟨P, r⟩ := R.new_tup hp (q1.app q2)
        exact k _ _ _ P r
    · cases e
  · split at e
    · rename_i b e2
      split at e
      · rename_i hl; cases e
        obtain ⟨a', xs, rfl, h1, q1⟩ := r1.fl_
        obtain ⟨b', ys, rfl, _, h2, q2⟩ := R.lst e2 r2
        have l1 := q1.len
        have l2 := q2.len
        refine .inr (.inr (.inr ⟨a', b', xs, ys, rfl, rfl, h1.sqL, h2, line_of (by omega), fun p hp => ?_⟩))
        obtain ⟨P, r⟩ := new_lst R hp (q1.app q2)
        exact k _ _ _ P r
      · cases e
    · cases e
  · split at e
    · rename_i a b e1 e2
      split at e
      · rename_i hl; cases e
        obtain ⟨a', xs, rfl, _, h1, q1⟩ := R.lst e1 r1
        obtain ⟨b', ys, rfl, _, h2, q2⟩ := R.lst e2 r2
        have l1 := q1.len
        have l2 := q2.len
        refine .inr (.inr (.inl ⟨a', b', xs, ys, rfl, rfl, h1, h2, line_of (by omega), fun p hp => ?_⟩))
        obtain ⟨P, r⟩ := new_lst R hp (q1.app q2)
        exact k _ _ _ P r
      · cases e
    · cases e
theorem op2_sub : Op2 K (rI0 fun i j => .int (i - j)) subD := fun ρ S H x y v w d S' R r1 r2 e Q k => by
  cases x <;> cases y <;> simp only [subD] at e <;> try cases e
  rw [r1.int_, r2.int_]
  exact ⟨_, _, rfl, rfl, kRefl R k (RelD.int _)⟩
def rMulE (K : PySem.W.Frag) : R2 := fun x y H Q => (rI CMul (fun i j => .int (i * j)) x y H Q ∨ rRep x y H Q) ∨ rRep01 K x y H Q
theorem opr_mul : OpR X (binaryOp .Mult) (rMulE X.K) := orO (orO op_mul op_rep) op_rep01
theorem rep_rel {ds : List D} {xs : List V} (h : RelDs K ρ H ds xs) : ∀ n : Nat, RelDs K ρ H (List.replicate n ds).flatten (List.replicate n xs).flatten
  | 0 => .nil
  | n + 1 => by simp only [List.replicate_succ, List.flatten_cons]; exact h.app (rep_rel h n)
theorem op2_mul : Op2 K (rMulE K) mulD := fun ρ S H x y v w d S' R r1 r2 e Q k => by
  cases x <;> cases y <;> simp only [mulD] at e <;> try cases e
  · split at e
    · rename_i hl; cases e
      rw [r1.int_, r2.int_]
      refine .inl (.inl ⟨_, _, rfl, rfl, ?_, kRefl R k (RelD.int _)⟩)
      simp only [small64, Bool.or_eq_true, Bool.and_eq_true, decide_eq_true_eq] at hl
      exact hl
    · cases e
  · rename_i ds kk
    split at e
    · cases e
    · rename_i hne
      obtain ⟨a', xs, rfl, h1, q1⟩ := r1.tup_
      rw [r2.int_]
      have hx : xs ≠ [] := fun z => hne (by
        subst z
        cases ds with
        | nil => rfl
        | cons d ds => simp [RelDs] at q1)
      split at e
      · rename_i h
        subst h; cases e
        exact .inr ⟨a', 1, xs, rfl, rfl, SqT.of h1, hx, .inl ⟨rfl, kRefl R k r1⟩⟩
      · split at e
        · rename_i h
          subst h; cases e
          refine .inr ⟨a', 0, xs, rfl, rfl, SqT.of h1, hx, .inr ⟨rfl, fun p hp => ?_⟩⟩
          obtain ⟨P, r⟩ := R.new_tup hp (ds := []) (xs := []) .nil
          exact k _ _ _ P r
        · cases e
  · split at e
    · rename_i a e1
      split at e
      · rename_i hl; cases e
        obtain ⟨a', xs, rfl, _, h1, q1⟩ := R.lst e1 r1
        rw [r2.int_]
        refine .inl (.inr ⟨a', _, xs, rfl, rfl, h1, hl.1, hl.2.1, line_of (by rw [q1.len]; exact hl.2.2), fun p hp => ?_⟩)
        obtain ⟨P, r⟩ := new_lst R hp (rep_rel q1 _)
        exact k _ _ _ P r
      · cases e
    · cases e
theorem op2_mod : Op2 K (rI (fun _ j => j ≠ 0) fun i j => .int (i.fmod j)) modD := fun ρ S H x y v w d S' R r1 r2 e Q k => by
  cases x <;> cases y <;> simp only [modD] at e <;> try cases e
  split at e
  · rename_i i j hl; cases e
    rw [r1.int_, r2.int_]
    exact ⟨_, _, rfl, rfl, by omega, by
      show Q (.int (i.fmod j)) H
      rw [Int.fmod_eq_emod_of_nonneg _ (by omega)]; exact kRefl R k (RelD.int _)⟩
  · cases e
theorem op2_fdiv : Op2 K (rI CDiv fun i j => .int (i / j)) fdivD := fun ρ S H x y v w d S' R r1 r2 e Q k => by
  cases x <;> cases y <;> simp only [fdivD] at e <;> try cases e
  split at e
  · rename_i hl; cases e
    rw [r1.int_, r2.int_]
    exact ⟨_, _, rfl, rfl, hl, kRefl R k (RelD.int _)⟩
  · cases e
theorem op2_pow : Op2 K (rI CPow fun i j => .int (i ^ j.toNat)) powD := fun ρ S H x y v w d S' R r1 r2 e Q k => by
  cases x <;> cases y <;> simp only [powD] at e <;> try cases e
  split at e
  · rename_i hl; cases e
    rw [r1.int_, r2.int_]
    exact ⟨_, _, rfl, rfl, hl, kRefl R k (RelD.int _)⟩
  · cases e
def rLtE (K : PySem.W.Frag) : R2 := fun x y H Q => rI0 (fun i j => .bl (decide (i < j))) x y H Q ∨ rLtT K x y H Q
theorem opr_lt {k : Nat} (hc : Ok X k) : OpR X (compareOp .Lt) (rLtE X.K) := orO op_lt (op_ltT hc.room.units0)
theorem op2_lt : Op2 K (rLtE K) ltD := fun ρ S H x y v w d S' R r1 r2 e Q k => by
  cases x <;> cases y <;> simp only [ltD] at e <;> try cases e
  · rw [r1.int_, r2.int_]
    exact .inl ⟨_, _, rfl, rfl, kRefl R k (RelD.bl _)⟩
  · split at e
    · rename_i ns ms e1 e2; cases e
      obtain ⟨a, xs, rfl, h1, q1⟩ := r1.tup_
      obtain ⟨b, ys, rfl, h2, q2⟩ := r2.tup_
      rw [intsOf_rel q1 e1] at h1
      rw [intsOf_rel q2 e2] at h2
      exact .inr ⟨a, b, ns, ms, rfl, rfl, SqT.of h1, SqT.of h2, kRefl R k (RelD.bl _)⟩
    · cases e
def rLeE (K : PySem.W.Frag) : R2 := fun x y H Q => rI0 (fun i j => .bl (decide (i ≤ j))) x y H Q ∨ rLeT K x y H Q
theorem opr_le {k : Nat} (hc : Ok X k) : OpR X (compareOp .LtE) (rLeE X.K) := orO op_le (op_leT hc.room.units0)
theorem op2_le : Op2 K (rLeE K) leD := fun ρ S H x y v w d S' R r1 r2 e Q k => by
  cases x <;> cases y <;> simp only [leD] at e <;> try cases e
  · rw [r1.int_, r2.int_]
    exact .inl ⟨_, _, rfl, rfl, kRefl R k (RelD.bl _)⟩
  · split at e
    · rename_i ns ms e1 e2; cases e
      obtain ⟨a, xs, rfl, h1, q1⟩ := r1.tup_
      obtain ⟨b, ys, rfl, h2, q2⟩ := r2.tup_
      rw [intsOf_rel q1 e1] at h1
      rw [intsOf_rel q2 e2] at h2
      exact .inr ⟨a, b, ns, ms, rfl, rfl, SqT.of h1, SqT.of h2, kRefl R k (RelD.bl _)⟩
    · cases e
theorem op2_gt : Op2 K (rI0 fun i j => .bl (decide (j < i))) gtD := fun ρ S H x y v w d S' R r1 r2 e Q k => by
  cases x <;> cases y <;> simp only [gtD] at e <;> try cases e
  rw [r1.int_, r2.int_]
  exact ⟨_, _, rfl, rfl, kRefl R k (RelD.bl _)⟩
theorem op2_ge : Op2 K (rI0 fun i j => .bl (decide (j ≤ i))) geD := fun ρ S H x y v w d S' R r1 r2 e Q k => by
  cases x <;> cases y <;> simp only [geD] at e <;> try cases e
  rw [r1.int_, r2.int_]
  exact ⟨_, _, rfl, rfl, kRefl R k (RelD.bl _)⟩
theorem isNon_rel {d : D} {v : V} (r : RelD K ρ H d v) : decide (v = .non) = isNonD d := by
  cases d with
  | non => rw [r.non_]; rfl
  | bl b => rw [r.bl_]; rfl
  | int b => rw [r.int_]; rfl
  | str b => rw [r.str_]; rfl
  | ty b => rw [r.ty_]; rfl
  | tup b => obtain ⟨a, xs, rfl, _⟩ := r.tup_; rfl
  | fl b => obtain ⟨a, xs, rfl, _⟩ := r.fl_; rfl
  | loc b => obtain ⟨a, _, rfl⟩ := r.loc_; rfl
def rIsE : R2 := fun x y H Q => (y = .non ∧ Q (.bl (decide (x = .non))) H) ∨ ∃ a b, x = .bl a ∧ y = .bl b ∧ Q (.bl (decide (a = b))) H
theorem opr_is : OpR X (compareOp .Is) rIsE := orO op_isN op_is_bl
theorem op2_is : Op2 K rIsE isD := fun ρ S H x y v w d S' R r1 r2 e Q k => by
  cases y with
  | non =>
    have e' : some ((D.bl (isNonD x)), S) = some (d, S') := by rw [← e]; cases x <;> rfl
    cases e'
    exact .inl ⟨r2.non_, by rw [isNon_rel r1]; exact kRefl R k (RelD.bl _)⟩
  | bl b =>
    cases x <;> try cases e
    rw [r1.bl_, r2.bl_]
    exact .inr ⟨_, _, rfl, rfl, kRefl R k (RelD.bl _)⟩
  | _ => cases x <;> cases e
def rIsNotE : R2 := fun x y H Q => (y = .non ∧ Q (.bl (!decide (x = .non))) H) ∨ ∃ a b, x = .bl a ∧ y = .bl b ∧ Q (.bl (!decide (a = b))) H
theorem opr_isnot : OpR X (compareOp .IsNot) rIsNotE := orO op_notN op_isnot_bl
theorem op2_isnot : Op2 K rIsNotE isNotD := fun ρ S H x y v w d S' R r1 r2 e Q k => by
  cases y with
  | non =>
    have e' : some ((D.bl (!isNonD x)), S) = some (d, S') := by rw [← e]; cases x <;> rfl
    cases e'
    exact .inl ⟨r2.non_, by rw [isNon_rel r1]; exact kRefl R k (RelD.bl _)⟩
  | bl b =>
    cases x <;> try cases e
    rw [r1.bl_, r2.bl_]
    exact .inr ⟨_, _, rfl, rfl, kRefl R k (RelD.bl _)⟩
  | _ => cases x <;> cases e
def negD : D → Sto → Option (D × Sto)
  | .int i, S => some (.int (-i), S)
  | _, _ => none
end
end SW
namespace SW
open PySem L2

/-! ### dicts -/
section
variable {κ : Type} [DecidableEq κ]
def lk (kvs : List (κ × D)) (k : κ) : Option D := (kvs.find? fun kv => decide (kv.1 = k)).map (·.2)
def ptK (kvs : List (κ × D)) (k : κ) (v : D) : List (κ × D) :=
  if (kvs.any fun kv => decide (kv.1 = k)) = true then kvs.map (fun kv => if kv.1 = k then (kv.1, v) else kv) else kvs ++ [(k, v)]
variable {K : PySem.W.Frag} {ρ : List Addr} {H : Hp}
theorem RelKV.nil : RelKV K ρ H ([] : List (κ × D)) [] := ⟨rfl, .nil⟩
theorem RelKV.split {k : κ} {d : D} {kds : List (κ × D)} {kvs : List (κ × V)} (h : RelKV K ρ H ((k, d) :: kds) kvs) : ∃ v r, kvs = (k, v) :: r ∧ RelD K ρ H d v ∧ RelKV K ρ H kds r := by
  obtain ⟨h1, h2⟩ := h
  cases kvs with
  | nil => simp at h1
  | cons p r =>
    simp only [List.map_cons, List.cons.injEq] at h1
    simp only [List.map_cons, RelDs] at h2
    obtain ⟨x, ys, e, r1, r2⟩ := h2
    cases e
    obtain ⟨a, b⟩ := p
    obtain ⟨rfl, h1⟩ := h1
    exact ⟨b, r, rfl, r1, h1, r2⟩
theorem RelKV.cons {k : κ} {d : D} {v : V} {kds : List (κ × D)} {kvs : List (κ × V)} (r : RelD K ρ H d v) (h : RelKV K ρ H kds kvs) : RelKV K ρ H ((k, d) :: kds) ((k, v) :: kvs) :=
  ⟨by simp [h.1], by simp only [List.map_cons, RelDs]; exact ⟨v, _, rfl, r, h.2⟩⟩
theorem RelKV.nil_ {kvs : List (κ × V)} (h : RelKV K ρ H ([] : List (κ × D)) kvs) : kvs = [] := by
  have := h.1; simpa using this
theorem RelKV.lk {k : κ} : ∀ {kds : List (κ × D)} {kvs : List (κ × V)}, RelKV K ρ H kds kvs → (∀ d, SW.lk kds k = some d → ∃ v, valV kvs k = some v ∧ RelD K ρ H d v) ∧ (SW.lk kds k = none → valV kvs k = none)
  | [], kvs, h => by rw [h.nil_]; exact ⟨fun d e => (nomatch e), fun _ => rfl⟩
  | (j, d) :: kds, kvs, h => by
    obtain ⟨v, r, rfl, h1, h2⟩ := h.split
    have ih := RelKV.lk (k := k) h2
    by_cases e : j = k
    · have e1 : SW.lk ((j, d) :: kds) k = some d := by simp [SW.lk, List.find?_cons, e]
      have e2 : valV ((j, v) :: r) k = some v := valV_pos (p := (j, v)) e
      rw [e1, e2]
      refine ⟨fun d' q => ?_, fun q => nomatch q⟩
      cases q
      exact ⟨v, rfl, h1⟩
    · have e1 : SW.lk ((j, d) :: kds) k = SW.lk kds k := by simp [SW.lk, List.find?_cons, e]
      have e2 : valV ((j, v) :: r) k = valV r k := valV_neg (p := (j, v)) e
      rw [e1, e2]
      exact ih
theorem RelKV.isSome {k : κ} {kds : List (κ × D)} {kvs : List (κ × V)} (h : RelKV K ρ H kds kvs) : (valV kvs k).isSome = (SW.lk kds k).isSome := by
  obtain ⟨h1, h2⟩ := h.lk (k := k)
  cases e : SW.lk kds k with
  | none => rw [h2 e]; rfl
  | some d => obtain ⟨v, ev, _⟩ := h1 d e; rw [ev]; rfl
theorem RelKV.any {k : κ} {kds : List (κ × D)} {kvs : List (κ × V)} (h : RelKV K ρ H kds kvs) : (kvs.any fun kv => decide (kv.1 = k)) = (kds.any fun kv => decide (kv.1 = k)) := by
  have h1 : (kvs.map (·.1)).any (fun x => decide (x = k)) = (kds.map (·.1)).any (fun x => decide (x = k)) := by rw [h.1]
  rw [List.any_map, List.any_map] at h1
  exact h1
theorem RelKV.app {as bs : List (κ × D)} {vs ws : List (κ × V)} (h : RelKV K ρ H as vs) (g : RelKV K ρ H bs ws) : RelKV K ρ H (as ++ bs) (vs ++ ws) :=
  ⟨by simp [h.1, g.1], by rw [List.map_append, List.map_append]; exact h.2.app g.2⟩
theorem RelKV.upd {k : κ} {d : D} {v : V} (r : RelD K ρ H d v) : ∀ {kds : List (κ × D)} {kvs : List (κ × V)}, RelKV K ρ H kds kvs →
    RelKV K ρ H (kds.map fun kv => if kv.1 = k then (kv.1, d) else kv) (kvs.map fun kv => if kv.1 = k then (kv.1, v) else kv)
  | [], kvs, h => by rw [h.nil_]; exact .nil
  | (j, e) :: kds, kvs, h => by
    obtain ⟨w, r', rfl, h1, h2⟩ := h.split
    have ih := RelKV.upd (k := k) r h2
    simp only [List.map_cons]
    by_cases e : j = k
    · rw [if_pos e, if_pos e]; exact .cons r ih
    · rw [if_neg e, if_neg e]; exact .cons h1 ih
theorem RelKV.put {k : κ} {d : D} {v : V} {kds : List (κ × D)} {kvs : List (κ × V)} (h : RelKV K ρ H kds kvs) (r : RelD K ρ H d v) : RelKV K ρ H (ptK kds k d) (putK kvs k v) := by
  unfold ptK putK
  rw [h.any]
  split
  · exact h.upd r
  · exact h.app (.cons r .nil)
theorem RelKV.len {kds : List (κ × D)} {kvs : List (κ × V)} (h : RelKV K ρ H kds kvs) : kvs.length = kds.length := by
  have := congrArg List.length h.1; simpa using this
end
def kOf : D → Option Key
  | .int i => some (.inl i)
  | .str x => some (.inr x)
  | _ => none
def ksOf : List D → Option (List Key)
  | [] => some []
  | d :: ds => (kOf d).bind fun k => (ksOf ds).map (k :: ·)
def tOf : D → Option (List Key)
  | .tup ds => ksOf ds
  | _ => none
section
variable {X : Cx} {K : PySem.W.Frag} {ρ : List Addr} {S : Sto} {H : Hp}
theorem kOf_rel {d : D} {v : V} {k : Key} (r : RelD K ρ H d v) (e : kOf d = some k) : v = kV k := by
  cases d <;> cases e
  · exact r.int_
  · exact r.str_
theorem ksOf_rel {ds : List D} : ∀ {vs : List V} {ks : List Key}, RelDs K ρ H ds vs → ksOf ds = some ks → vs = ks.map kV := by
  induction ds with
  | nil => intro vs ks r e; cases e; simp only [RelDs] at r; subst r; rfl
  | cons d ds ih =>
    intro vs ks r e
    obtain ⟨k, e1, e⟩ := bindE e
    rw [Option.map_eq_some_iff] at e
    obtain ⟨ks', e2, rfl⟩ := e
    simp only [RelDs] at r
    obtain ⟨x, ys, rfl, r1, r2⟩ := r
    rw [kOf_rel r1 e1, ih r2 e2]; rfl
theorem tOf_rel {d : D} {v : V} {ks : List Key} (r : RelD K ρ H d v) (e : tOf d = some ks) : ∃ b, v = .ref b ∧ H b = some (.tup (ks.map kV)) := by
  cases d <;> simp only [tOf] at e <;> try cases e
  obtain ⟨a, xs, rfl, h, q⟩ := r.tup_
  rw [ksOf_rel q e] at h
  exact ⟨a, rfl, h⟩

/-! ### o[i] -/
def ixD : D → D → Sto → Option (D × Sto)
  | .tup ds, .int i, S => (atI ds i).map fun d => (d, S)
  | .fl ds, .int i, S => (atI ds i).map fun d => (d, S)
  | .str z, .int i, S => if z.length ≤ 10000000 then (atI z.cps.toList i).map fun c => (.str ⟨#[c]⟩, S) else none
  | .loc n, .int i, S => match S[n]? with
    | some (.lst ds) => (atI ds i).map fun d => (d, S)
    | _ => none
  | _, _, _ => none
def dgD : D → D → Sto → Option (D × Sto)
  | .loc n, y, S => match S[n]? with
    | some (.dK kvs) => (kOf y).bind fun k => (lk kvs k).map fun d => (d, S)
    | some (.dT kvs) => (tOf y).bind fun k => (lk kvs k).map fun d => (d, S)
    | some (.lK kvs) => (kOf y).bind fun k => (lk kvs k).map fun d => (d, S)
    | some (.lT kvs) => (tOf y).bind fun k => (lk kvs k).map fun d => (d, S)
    | _ => none
  | _, _, _ => none
theorem at_rel {ds : List D} {xs : List V} {i : Int} {d : D} (q : RelDs K ρ H ds xs) (e : atI ds i = some d) : ∃ v, atI xs i = some v ∧ RelD K ρ H d v := by
  unfold atI at e ⊢
  obtain ⟨j, e1, e2⟩ := bindE e
  obtain ⟨v, e3, r⟩ := q.get e2
  rw [q.len, e1]
  exact ⟨v, e3, r⟩
theorem op2_ix : Op2 K (rIx K) ixD := fun ρ S H x y v w d S' R r1 r2 e Q k => by
  cases y with
  | int i =>
    rw [r2.int_]
    cases x <;> simp only [ixD] at e <;> try cases e
    · split at e
      · rename_i hl
        rw [Option.map_eq_some_iff] at e
        obtain ⟨c, e1, e2⟩ := e
        cases e2
        rw [r1.str_]
        exact .inr (.inr ⟨_, _, _, rfl, rfl, line_of hl, e1, kRefl R k (RelD.str _)⟩)
      · cases e
    · rw [Option.map_eq_some_iff] at e
      obtain ⟨c, e1, e2⟩ := e
      cases e2
      obtain ⟨a, xs, rfl, h1, q1⟩ := r1.tup_
      obtain ⟨u, e3, r⟩ := at_rel q1 e1
      exact .inr (.inl ⟨a, xs, _, u, rfl, rfl, SqT.of h1, e3, kRefl R k r⟩)
    · rw [Option.map_eq_some_iff] at e
      obtain ⟨c, e1, e2⟩ := e
      cases e2
      obtain ⟨a, xs, rfl, h1, q1⟩ := r1.fl_
      obtain ⟨u, e3, r⟩ := at_rel q1 e1
      exact .inl ⟨a, xs, _, u, rfl, rfl, h1.sqL, e3, kRefl R k r⟩
    · split at e
      · rename_i ds eo
        rw [Option.map_eq_some_iff] at e
        obtain ⟨c, e1, e2⟩ := e
        cases e2
        obtain ⟨a, xs, rfl, _, h1, q1⟩ := R.lst eo r1
        obtain ⟨u, e3, r⟩ := at_rel q1 e1
        exact .inl ⟨a, xs, _, u, rfl, rfl, SqL.of h1, e3, kRefl R k r⟩
      · cases e
  | _ => cases x <;> cases e
/-- what a dict holds -/
def dHas (n : Nat) (y : D) (S : Sto) : Option (Option D) := match S[n]? with
  | some (.dK kvs) => (kOf y).map fun k => lk kvs k
  | some (.dT kvs) => (tOf y).map fun k => lk kvs k
  | some (.lK kvs) => (kOf y).map fun k => lk kvs k
  | some (.lT kvs) => (tOf y).map fun k => lk kvs k
  | _ => none
theorem dHas_rel (R : RelS K ρ S H) {n : Nat} {y : D} {v w : V} {o : Option D} (r1 : RelD K ρ H (.loc n) v) (r2 : RelD K ρ H y w) (e : dHas n y S = some o) :
    ∃ a u, v = .ref a ∧ DGet H a w u ∧ u.isSome = o.isSome ∧ ∀ d, o = some d → ∃ z, u = some z ∧ RelD K ρ H d z := by
  unfold dHas at e
  split at e
  · rename_i kvs eo
    rw [Option.map_eq_some_iff] at e
    obtain ⟨k, e1, rfl⟩ := e
    obtain ⟨a, xs, rfl, _, h, q⟩ := R.dK eo r1
    rw [kOf_rel r2 e1]
    refine ⟨a, _, rfl, DGet.k h, q.isSome, fun d e => ?_⟩
    obtain ⟨z, e3, r⟩ := (q.lk (k := k)).1 d e
    exact ⟨z, e3, r⟩
  · rename_i kvs eo
    rw [Option.map_eq_some_iff] at e
    obtain ⟨k, e1, rfl⟩ := e
    obtain ⟨a, xs, rfl, _, h, q⟩ := R.dT eo r1
    obtain ⟨b, rfl, hb⟩ := tOf_rel r2 e1
    refine ⟨a, _, rfl, DGet.t h hb, q.isSome, fun d e => ?_⟩
    obtain ⟨z, e3, r⟩ := (q.lk (k := k)).1 d e
    exact ⟨z, e3, r⟩
  · rename_i kvs eo
    rw [Option.map_eq_some_iff] at e
    obtain ⟨k, e1, rfl⟩ := e
    obtain ⟨a, xs, od, rfl, _, h, q⟩ := R.lK eo r1
    rw [kOf_rel r2 e1]
    refine ⟨a, _, rfl, .inl ⟨xs, k, .inr ⟨od, h⟩, rfl, rfl⟩, q.isSome, fun d e => ?_⟩
    obtain ⟨z, e3, r⟩ := (q.lk (k := k)).1 d e
    exact ⟨z, e3, r⟩
  · rename_i kvs eo
    rw [Option.map_eq_some_iff] at e
    obtain ⟨k, e1, rfl⟩ := e
    obtain ⟨a, xs, od, rfl, _, h, q⟩ := R.lT eo r1
    obtain ⟨b, rfl, hb⟩ := tOf_rel r2 e1
    refine ⟨a, _, rfl, .inr ⟨xs, k, b, .inr ⟨od, h⟩, rfl, hb, rfl⟩, q.isSome, fun d e => ?_⟩
    obtain ⟨z, e3, r⟩ := (q.lk (k := k)).1 d e
    exact ⟨z, e3, r⟩
  · cases e
/-! keys of any depth -/
mutual
def nkOf : D → Option NestedKey
  | .non => some .none
  | .int i => some (.num i)
  | .tup ds => (nksOf ds).map .tup
  | _ => none
def nksOf : List D → Option (List NestedKey)
  | [] => some []
  | d :: ds => (nkOf d).bind fun k => (nksOf ds).map (k :: ·)
end
mutual
theorem nkOf_rel : ∀ {d : D} {v : V} {k : NestedKey}, RelD K ρ H d v → nkOf d = some k → NkV H k v ∧ plainK k = true
  | .non, _, _, r, e => by
    simp only [nkOf, Option.some.injEq] at e
    subst e
    exact ⟨by simp only [NkV]; exact r.non_, rfl⟩
  | .int i, _, _, r, e => by
    simp only [nkOf, Option.some.injEq] at e
    subst e
    exact ⟨by simp only [NkV]; exact r.int_, rfl⟩
  | .tup ds, _, _, r, e => by
    simp only [nkOf, Option.map_eq_some_iff] at e
    obtain ⟨ks, e, rfl⟩ := e
    obtain ⟨a, xs, rfl, h, q⟩ := r.tup_
    obtain ⟨h1, h2⟩ := nksOf_rel q e
    exact ⟨by simp only [NkV]; exact ⟨a, xs, rfl, h, h1⟩, by simp only [plainK]; exact h2⟩
  | .bl _, _, _, _, e => by simp [nkOf] at e
  | .str _, _, _, _, e => by simp [nkOf] at e
  | .fl _, _, _, _, e => by simp [nkOf] at e
  | .loc _, _, _, _, e => by simp [nkOf] at e
  | .ty _, _, _, _, e => by simp [nkOf] at e
theorem nksOf_rel : ∀ {ds : List D} {vs : List V} {ks : List NestedKey}, RelDs K ρ H ds vs → nksOf ds = some ks → NkVs H ks vs ∧ plainKs ks = true
  | [], _, _, r, e => by
    simp only [nksOf, Option.some.injEq] at e
    subst e
    simp only [RelDs] at r
    exact ⟨by simp only [NkVs]; exact r, rfl⟩
  | d :: ds, _, _, r, e => by
    simp only [nksOf] at e
    obtain ⟨k, e1, e⟩ := bindE e
    obtain ⟨ks, e2, rfl⟩ := Option.map_eq_some_iff.mp e
    simp only [RelDs] at r
    obtain ⟨x, ys, rfl, r1, r2⟩ := r
    obtain ⟨h1, h2⟩ := nkOf_rel r1 e1
    obtain ⟨h3, h4⟩ := nksOf_rel r2 e2
    exact ⟨by simp only [NkVs]; exact ⟨x, ys, rfl, h1, h3⟩, by simp only [plainKs, h2, h4, Bool.and_self]⟩
end
def nkT (d : D) : Option NestedKey := match d with
  | .tup ds => (nksOf ds).bind fun ks => if (NestedKey.tup ks).depth ≤ 8 then some (.tup ks) else none
  | _ => none
theorem nkT_rel {d : D} {v : V} {k : NestedKey} (r : RelD K ρ H d v) (e : nkT d = some k) : ∃ b, KN H k v b := by
  cases d <;> simp only [nkT] at e <;> try cases e
  obtain ⟨ks, e1, e⟩ := bindE e
  split at e
  · rename_i hd
    cases e
    obtain ⟨a, xs, rfl, h, q⟩ := r.tup_
    obtain ⟨h1, h2⟩ := nksOf_rel q e1
    exact ⟨a, rfl, by simp only [NkV]; exact ⟨a, xs, rfl, h, h1⟩, hd, by simp only [plainK]; exact h2⟩
  · cases e
theorem RelN.dn {a : Addr} {kds : List (NestedKey × D)} {xs : List NEnt} (q : RelN K ρ H kds xs) (h : Rd H a (dNO a xs)) : DN H a xs := ⟨.inl h, q.2.2⟩
theorem RelN.split {k : NestedKey} {d : D} {kds : List (NestedKey × D)} {xs : List NEnt} (q : RelN K ρ H ((k, d) :: kds) xs) : ∃ b v r, xs = (k, b, v) :: r ∧ RelD K ρ H d v ∧ RelN K ρ H kds r := by
  obtain ⟨h1, h2, h3⟩ := q
  cases xs with
  | nil => simp at h1
  | cons p r =>
    obtain ⟨k', b, v⟩ := p
    simp only [List.map_cons, List.cons.injEq] at h1
    obtain ⟨rfl, h1⟩ := h1
    simp only [List.map_cons, RelDs] at h2
    obtain ⟨x, ys, e, r1, r2⟩ := h2
    cases e
    exact ⟨b, v, r, rfl, r1, h1, r2, fun x hx => h3 x (List.mem_cons_of_mem _ hx)⟩
theorem RelN.lk {k : NestedKey} : ∀ {kds : List (NestedKey × D)} {xs : List NEnt}, RelN K ρ H kds xs → (∀ d, SW.lk kds k = some d → ∃ v, valN xs k = some v ∧ RelD K ρ H d v) ∧ (SW.lk kds k = none → valN xs k = none)
  | [], xs, h => by
    have : xs = [] := by have := h.1; simpa using this
    subst this
    exact ⟨fun d e => (nomatch e), fun _ => rfl⟩
  | (j, d) :: kds, xs, h => by
    obtain ⟨b, v, r, rfl, h1, h2⟩ := h.split
    have ih := RelN.lk (k := k) h2
    by_cases e : j = k
    · have e1 : SW.lk ((j, d) :: kds) k = some d := by simp [SW.lk, List.find?_cons, e]
      have e2 : valN ((j, b, v) :: r) k = some v := by simp [valN, List.find?_cons, e]
      rw [e1, e2]
      exact ⟨fun d' q => by cases q; exact ⟨v, rfl, h1⟩, fun q => nomatch q⟩
    · have e1 : SW.lk ((j, d) :: kds) k = SW.lk kds k := by simp [SW.lk, List.find?_cons, e]
      have e2 : valN ((j, b, v) :: r) k = valN r k := by simp [valN, List.find?_cons, e]
      rw [e1, e2]
      exact ih
theorem RelN.isSome {k : NestedKey} {kds : List (NestedKey × D)} {xs : List NEnt} (h : RelN K ρ H kds xs) : (valN xs k).isSome = (SW.lk kds k).isSome := by
  obtain ⟨h1, h2⟩ := h.lk (k := k)
  cases e : SW.lk kds k with
  | none => rw [h2 e]; rfl
  | some d => obtain ⟨v, ev, _⟩ := h1 d e; rw [ev]; rfl
theorem RelN.nil0 : RelN K ρ H [] [] := ⟨rfl, .nil, fun x hx => by simp at hx⟩
/-- a dict of the store with such keys, to be read -/
def nAt : MO → Option (List (NestedKey × D))
  | .dN kvs => some kvs
  | .lN kvs => some kvs
  | .dK [] => some []
  | .lK [] => some []
  | _ => none
/-- .. to be written -/
def nWr : MO → Option (List (NestedKey × D))
  | .dN kvs => some kvs
  | .dK [] => some []
  | _ => none
theorem nAt_rel (R : RelS K ρ S H) {n : Nat} {o : MO} {kvs : List (NestedKey × D)} {v : V} (ho : S[n]? = some o) (e : nAt o = some kvs) (r : RelD K ρ H (.loc n) v) : ∃ a xs, v = .ref a ∧ DN H a xs ∧ RelN K ρ H kvs xs := by
  unfold nAt at e
  split at e
  · cases e
    obtain ⟨a, xs, rfl, _, h, q⟩ := R.dN ho r
    exact ⟨a, xs, rfl, q.dn (.inl h), q⟩
  · cases e
    obtain ⟨a, xs, od, rfl, _, h, q⟩ := R.lN ho r
    exact ⟨a, xs, rfl, q.dn (.inr ⟨od, h⟩), q⟩
  · cases e
    obtain ⟨a, xs, rfl, _, h, q⟩ := R.dK ho r
    rw [q.nil_] at h
    exact ⟨a, [], rfl, ⟨.inr ⟨rfl, .inl h⟩, fun x hx => by simp at hx⟩, .nil0⟩
  · cases e
    obtain ⟨a, xs, od, rfl, _, h, q⟩ := R.lK ho r
    rw [q.nil_] at h
    exact ⟨a, [], rfl, ⟨.inr ⟨rfl, .inr ⟨od, h⟩⟩, fun x hx => by simp at hx⟩, .nil0⟩
  · cases e
theorem nWr_rel (R : RelS K ρ S H) {n : Nat} {o : MO} {kvs : List (NestedKey × D)} {v : V} (ho : S[n]? = some o) (e : nWr o = some kvs) (r : RelD K ρ H (.loc n) v) : ∃ a xs, v = .ref a ∧ ρ[n]? = some a ∧ DW H a xs ∧ RelN K ρ H kvs xs := by
  unfold nWr at e
  split at e
  · cases e
    obtain ⟨a, xs, rfl, hn, h, q⟩ := R.dN ho r
    exact ⟨a, xs, rfl, hn, ⟨.inl h, q.2.2⟩, q⟩
  · cases e
    obtain ⟨a, xs, rfl, hn, h, q⟩ := R.dK ho r
    rw [q.nil_] at h
    exact ⟨a, [], rfl, hn, ⟨.inr ⟨rfl, h⟩, fun x hx => by simp at hx⟩, .nil0⟩
  · cases e
/-- what such a dict holds -/
def nHas (n : Nat) (y : D) (S : Sto) : Option (Option D) := (S[n]?).bind fun o => (nAt o).bind fun kvs => (nkT y).map fun k => lk kvs k
theorem nHas_rel (R : RelS K ρ S H) {n : Nat} {y : D} {v w : V} {o : Option D} (r1 : RelD K ρ H (.loc n) v) (r2 : RelD K ρ H y w) (e : nHas n y S = some o) :
    ∃ a u, v = .ref a ∧ DGN H a w u ∧ u.isSome = o.isSome ∧ ∀ d, o = some d → ∃ z, u = some z ∧ RelD K ρ H d z := by
  obtain ⟨ob, eo, e⟩ := bindE e
  obtain ⟨kvs, ek, e⟩ := bindE e
  obtain ⟨k, e1, rfl⟩ := Option.map_eq_some_iff.mp e
  obtain ⟨a, xs, rfl, dn, q⟩ := nAt_rel R eo ek r1
  obtain ⟨b, kn⟩ := nkT_rel r2 e1
  exact ⟨a, _, rfl, ⟨xs, k, b, dn, kn, rfl⟩, q.isSome, fun d e => (q.lk (k := k)).1 d e⟩
def gnD : D → D → Sto → Option (D × Sto)
  | .loc n, y, S => (nHas n y S).bind fun o => o.map fun d => (d, S)
  | _, _, _ => none
theorem op2_gn : Op2 K rGetN gnD := fun ρ S H x y v w d S' R r1 r2 e Q k => by
  cases x <;> simp only [gnD] at e <;> try cases e
  obtain ⟨o, e1, e⟩ := bindE e
  obtain ⟨d', rfl, e⟩ := Option.map_eq_some_iff.mp e
  cases e
  obtain ⟨a, u, rfl, g, _, hz⟩ := nHas_rel R r1 r2 e1
  obtain ⟨z, rfl, r⟩ := hz d rfl
  exact ⟨a, z, rfl, g, kRefl R k r⟩
def inDN (n : Bool → Bool) (x y : D) (S : Sto) : Option (D × Sto) := match y with
  | .loc m => (nHas m x S).map fun o => (.bl (n o.isSome), S)
  | _ => none
theorem op2_inDN {n : Bool → Bool} : Op2 K (rInN n) (inDN n) := fun ρ S H x y v w d S' R r1 r2 e Q k => by
  cases y <;> try cases e
  rename_i m
  simp only [inDN, Option.map_eq_some_iff] at e
  obtain ⟨o, e1, e⟩ := e
  cases e
  obtain ⟨a, u, rfl, g, hs, _⟩ := nHas_rel R r2 r1 e1
  exact ⟨a, u, rfl, g, by rw [hs]; exact kRefl R k (RelD.bl _)⟩
def rDg : R2 := fun x y H Q => ∃ a v, x = .ref a ∧ DGet H a y (some v) ∧ Q v H
theorem op2_dg : Op2 K rDg dgD := fun ρ S H x y v w d S' R r1 r2 e Q k => by
  cases x <;> simp only [dgD] at e <;> try cases e
  rename_i n
  have e' : ∃ o, dHas n y S = some o ∧ o = some d ∧ S = S' := by
    unfold dHas
    split at e
    · rename_i eo
      obtain ⟨k, e1, e⟩ := bindE e
      rw [Option.map_eq_some_iff] at e
      obtain ⟨c, e1', e2⟩ := e
      cases e2
      simp only [eo, e1, Option.map_some]
      exact ⟨_, rfl, e1', trivial⟩
    · rename_i eo
      obtain ⟨k, e1, e⟩ := bindE e
      rw [Option.map_eq_some_iff] at e
      obtain ⟨c, e1', e2⟩ := e
      cases e2
      simp only [eo, e1, Option.map_some]
      exact ⟨_, rfl, e1', trivial⟩
    · rename_i eo
      obtain ⟨k, e1, e⟩ := bindE e
      rw [Option.map_eq_some_iff] at e
      obtain ⟨c, e1', e2⟩ := e
      cases e2
      simp only [eo, e1, Option.map_some]
      exact ⟨_, rfl, e1', trivial⟩
    · rename_i eo
      obtain ⟨k, e1, e⟩ := bindE e
      rw [Option.map_eq_some_iff] at e
      obtain ⟨c, e1', e2⟩ := e
      cases e2
      simp only [eo, e1, Option.map_some]
      exact ⟨_, rfl, e1', trivial⟩
    · cases e
  obtain ⟨o, e1, rfl, rfl⟩ := e'
  obtain ⟨a, u, rfl, g, _, hz⟩ := dHas_rel R r1 r2 e1
  obtain ⟨z, rfl, r⟩ := hz d rfl
  exact ⟨a, z, rfl, g, kRefl R k r⟩

/-- a subscript: of a list, a tuple, a text; of a dict -/
def sbD (x y : D) (S : Sto) : Option (D × Sto) := (ixD x y S).orElse fun _ => (dgD x y S).orElse fun _ => gnD x y S
/-! ### one reading or another -/
variable {fa fb : EvE} {a b e : Expr} {pos : Pos}
theorem b2_or {g g1 g2 : D → D → Sto → Option (D × Sto)} (hs : ∀ x y S o, g x y S = some o → g1 x y S = some o ∨ g2 x y S = some o) {σ : St} {H : Hp} {Q : VK} (h : tE K (b2E g fa fb) σ H Q) : tE K (b2E g1 fa fb) σ H Q ∨ tE K (b2E g2 fa fb) σ H Q := by
  obtain ⟨ρ, τ, S, d, S', A, e, k⟩ := h
  obtain ⟨⟨x, S1⟩, e1, e⟩ := bindE e
  obtain ⟨⟨y, S2⟩, e2, e⟩ := bindE e
  rcases hs _ _ _ _ e with q | q
  · exact .inl ⟨ρ, τ, S, d, S', A, by show ((fa τ S).bind fun p => (fb τ p.2).bind fun q => g1 p.1 q.1 q.2) = _; rw [e1]; show ((fb τ S1).bind fun q => g1 x q.1 q.2) = _; rw [e2]; exact q, k⟩
  · exact .inr ⟨ρ, τ, S, d, S', A, by show ((fa τ S).bind fun p => (fb τ p.2).bind fun q => g2 p.1 q.1 q.2) = _; rw [e1]; show ((fb τ S1).bind fun q => g2 x q.1 q.2) = _; rw [e2]; exact q, k⟩
theorem b2_orT {g g1 g2 : D → D → Sto → Option (D × Sto)} (hs : ∀ x y S o, g x y S = some o → g1 x y S = some o ∨ g2 x y S = some o) {σ : St} {H : Hp} {Q : Bool → Hp → Prop} (h : tT K (tB (b2E g fa fb)) σ H Q) : tT K (tB (b2E g1 fa fb)) σ H Q ∨ tT K (tB (b2E g2 fa fb)) σ H Q := by
  obtain ⟨ρ, τ, S, d, S', A, e, k⟩ := h
  obtain ⟨⟨z, S3⟩, e0, ez⟩ := bindE e
  obtain ⟨⟨x, S1⟩, e1, e⟩ := bindE e0
  obtain ⟨⟨y, S2⟩, e2, e⟩ := bindE e
  rcases hs _ _ _ _ e with q | q
  · refine .inl ⟨ρ, τ, S, d, S', A, ?_, k⟩
    have : b2E g1 fa fb τ S = some (z, S3) := by
      show ((fa τ S).bind fun p => (fb τ p.2).bind fun q => g1 p.1 q.1 q.2) = _; rw [e1]; show ((fb τ S1).bind fun q => g1 x q.1 q.2) = _; rw [e2]; exact q
    show (Option.bind _ _) = _
    rw [this]; exact ez
  · refine .inr ⟨ρ, τ, S, d, S', A, ?_, k⟩
    have : b2E g2 fa fb τ S = some (z, S3) := by
      show ((fa τ S).bind fun p => (fb τ p.2).bind fun q => g2 p.1 q.1 q.2) = _; rw [e1]; show ((fb τ S1).bind fun q => g2 x q.1 q.2) = _; rw [e2]; exact q
    show (Option.bind _ _) = _
    rw [this]; exact ez
theorem orElse_some {α : Type} {x : Option α} {y : Unit → Option α} {o : α} (h : x.orElse y = some o) : x = some o ∨ y () = some o := by
  cases x with
  | none => exact .inr h
  | some z => exact .inl h
theorem ee_sub {k : Nat} (hc : Ok X k) (ha : EE X a fa) (hb : EE X b fb) (hs : PlainIx b := by exact fun _ _ => rfl) : EE X (.Subscript a b pos) (b2E sbD fa fb) :=
  wkE (orE (ee_b2 (fun h1 h2 => pe_ix ix_seq h1 h2 hs) op2_ix ha hb) (wkE (orE (ee_b2 (r := rDg) (fun h1 h2 => pe_dget (by have := hc.units; omega) h1 h2 hs) op2_dg ha hb) (ee_b2 (r := rGetN) (fun h1 h2 => pe_nget hc.units h1 h2 hs) op2_gn ha hb)) fun σ H Q q =>
    b2_or (g := fun x y S => (dgD x y S).orElse fun _ => gnD x y S) (fun x y S o h => orElse_some h) q)) fun σ H Q q => b2_or (fun x y S o h => orElse_some h) q

/-! ### in, not in -/
def flV : D → Option V
  | .non => some .non
  | .bl b => some (.bl b)
  | .int i => some (.int i)
  | .str x => some (.str x)
  | _ => none
def flVs : List D → Option (List V)
  | [] => some []
  | d :: ds => (flV d).bind fun v => (flVs ds).map (v :: ·)
theorem flV_rel {d : D} {v w : V} (r : RelD K ρ H d v) (e : flV d = some w) : v = w ∧ flatV w = true := by
  cases d <;> cases e
  · exact ⟨r.non_, rfl⟩
  · exact ⟨r.bl_, rfl⟩
  · exact ⟨r.int_, rfl⟩
  · exact ⟨r.str_, rfl⟩
theorem flVs_rel {ds : List D} : ∀ {vs ws : List V}, RelDs K ρ H ds vs → flVs ds = some ws → vs = ws ∧ ws.all flatV = true := by
  induction ds with
  | nil => intro vs ks r e; cases e; simp only [RelDs] at r; subst r; exact ⟨rfl, rfl⟩
  | cons d ds ih =>
    intro vs ks r e
    obtain ⟨k, e1, e⟩ := bindE e
    rw [Option.map_eq_some_iff] at e
    obtain ⟨ks', e2, rfl⟩ := e
    simp only [RelDs] at r
    obtain ⟨x, ys, rfl, r1, r2⟩ := r
    obtain ⟨rfl, f1⟩ := flV_rel r1 e1
    obtain ⟨rfl, f2⟩ := ih r2 e2
    exact ⟨rfl, by simp [f1, f2]⟩
/-- in a list, a tuple; the answer through a function (not) -/
def inSq (n : Bool → Bool) (x y : D) (S : Sto) : Option (D × Sto) := match y with
  | .tup ds => (flV x).bind fun v => (flVs ds).map fun vs => (.bl (n (inV v vs)), S)
  | y => (pyOf S x).bind fun p => (pyOf S y).bind fun q => match q with
    | .list qs => some (.bl (n (qs.any fun z => PyData.eqv z p)), S)
    | _ => none
def inDc (n : Bool → Bool) (x y : D) (S : Sto) : Option (D × Sto) := match y with
  | .loc m => (dHas m x S).map fun o => (.bl (n o.isSome), S)
  | _ => none
def inDd (n : Bool → Bool) (x y : D) (S : Sto) : Option (D × Sto) := (inDc n x y S).orElse fun _ => inDN n x y S
def notInD (x y : D) (S : Sto) : Option (D × Sto) := (inSq not x y S).orElse fun _ => inDd not x y S
theorem op2_notInSq : Op2 K (fun x y H Q => rNotInD K x y H Q ∨ rIn K true x y H Q) (inSq not) := fun ρ S H x y v w d S' R r1 r2 e Q k => by
  have lst : ((pyOf S x).bind fun p => (pyOf S y).bind fun q => match q with
    | .list qs => some (D.bl (not (qs.any fun z => PyData.eqv z p)), S)
    | _ => none) = some (d, S') → rNotInD K v w H Q := fun e => by
    obtain ⟨p, e1, e⟩ := bindE e
    obtain ⟨q, e2, e⟩ := bindE e
    obtain ⟨h1, s1⟩ := dp_py R r1 e1
    obtain ⟨h2, s2⟩ := dp_py R r2 e2
    cases q <;> cases e
    exact ⟨p, _, h1, h2, s1, s2, kRefl R k (RelD.bl _)⟩
  cases y with
  | tup ds =>
    obtain ⟨u, e1, e⟩ := bindE e
    rw [Option.map_eq_some_iff] at e
    obtain ⟨us, e2, e⟩ := e
    cases e
    obtain ⟨a, xs, rfl, h, q⟩ := r2.tup_
    obtain ⟨rfl, f1⟩ := flV_rel r1 e1
    obtain ⟨rfl, f2⟩ := flVs_rel q e2
    exact .inr ⟨a, xs, rfl, .inr (SqT.of h), f1, f2, kRefl R k (RelD.bl _)⟩
  | _ => exact .inl (lst e)
def rDIn (n : Bool → Bool) : R2 := fun y x H Q => ∃ a o, x = .ref a ∧ DGet H a y o ∧ Q (.bl (n o.isSome)) H
theorem op2_inDc {n : Bool → Bool} : Op2 K (rDIn n) (inDc n) := fun ρ S H x y v w d S' R r1 r2 e Q k => by
  cases y <;> try cases e
  rename_i m
  simp only [inDc, Option.map_eq_some_iff] at e
  obtain ⟨o, e1, e⟩ := e
  cases e
  obtain ⟨a, u, rfl, g, hs, _⟩ := dHas_rel R r2 r1 e1
  exact ⟨a, u, rfl, g, by rw [hs]; exact kRefl R k (RelD.bl _)⟩
/-- a test that is a comparison, from its form as a test -/
theorem et_b2 {r : R2} {g : D → D → Sto → Option (D × Sto)} (h : PE X a (tE X.K fa) → PE X b (tE X.K fb) → PT X e (tTest (tOp r (tE X.K fa) (tE X.K fb)))) (hg : Op2 X.K r g) (ha : EE X a fa) (hb : EE X b fb) : ET X e (tB (b2E g fa fb)) :=
  wkT (h ha hb) fun σ H Q q => by
    obtain ⟨ρ, τ, S, d, S', A, e, k⟩ := q
    obtain ⟨⟨z, S3⟩, e0, ez⟩ := bindE e
    obtain ⟨⟨x, S1⟩, e1, e0⟩ := bindE e0
    obtain ⟨⟨y, S2⟩, e2, e0⟩ := bindE e0
    refine goE A e1 fun ρ1 v1 H1 A1 P1 r1 => goE A1 e2 fun ρ2 v2 H2 A2 P2 r2 => ?_
    refine hg ρ2 S2 H2 x y v1 v2 z S3 A2.s (r1.mono (P2.imm A1.s) P2.pre) r2 e0 _ fun ρ3 u H3 P3 r3 => ?_
    cases z with
    | bl b =>
      cases ez
      exact ⟨_, r3.bl_, k ρ3 H3 ((P1.trans P2).trans P3)⟩
    | _ => cases ez
theorem et_notin {k : Nat} (hc : Ok X k) (ha : EE X a fa) (hb : EE X b fb) (hm : behindInMarks .NotIn b = false := by rfl) : ET X (.Compare a [.NotIn] [b] pos) (tB (b2E notInD fa fb)) :=
  wkT (orT (et_b2 (fun h1 h2 => pt_cmpR (orO (op_notInD hc.units) op_notIn_seq) h1 h2 hm) op2_notInSq ha hb) (wkT (orT (et_b2 (r := rDIn not) (fun h1 h2 => pt_cmp (pc_dnotin (by have := hc.units; omega) h1 h2) hm) op2_inDc ha hb) (et_b2 (r := rInN not) (fun h1 h2 => pt_cmp (pc_nnotin hc.units h1 h2) hm) op2_inDN ha hb)) fun σ H Q q => b2_orT (g := inDd not) (fun x y S o h => orElse_some h) q)) fun σ H Q q =>
    b2_orT (fun x y S o h => orElse_some h) q
end
end SW
namespace SW
open PySem L2

/-! ### slots -/
def wipeT (τ : Tau) : List Nat → Tau
  | [] => τ
  | v :: vs => (wipeT τ vs).set v none
section
variable {X : Cx} {W : WX} {K : PySem.W.Frag} {ρ ρ' : List Addr} {S S' : Sto} {H H' : Hp} {τ : Tau} {σ : St}
theorem RelT.set (h : RelT K ρ H τ σ) {d : D} {v : V} (r : RelD K ρ H d v) (i : Nat) : RelT K ρ H (τ.set i (some d)) (σ.set i (some v)) := by
  refine ⟨by simp [h.1], fun j e q => ?_⟩
  rw [List.getElem?_set] at q
  split at q
  · rename_i hij; subst hij
    split at q
    · rename_i hl; cases q
      exact ⟨v, by rw [List.getElem?_set_self (by rw [← h.1]; exact hl)], r⟩
    · cases q
  · rename_i hij
    obtain ⟨w, e1, r1⟩ := h.2 j e q
    exact ⟨w, by rw [List.getElem?_set_ne hij]; exact e1, r1⟩
theorem RelT.unset (h : RelT K ρ H τ σ) (i : Nat) : RelT K ρ H (τ.set i none) (σ.set i none) := by
  refine ⟨by simp [h.1], fun j e q => ?_⟩
  rw [List.getElem?_set] at q
  split at q
  · split at q <;> cases q
  · rename_i hij
    obtain ⟨w, e1, r1⟩ := h.2 j e q
    exact ⟨w, by rw [List.getElem?_set_ne hij]; exact e1, r1⟩
theorem RelT.wipe (h : RelT K ρ H τ σ) : ∀ vs : List Nat, RelT K ρ H (wipeT τ vs) (L2.wipe σ vs)
  | [] => h
  | v :: vs => by unfold wipeT L2.wipe; exact (RelT.wipe h vs).unset v
theorem wipe_set (σ : St) (i : Nat) (o : Option V) : ∀ {vs : List Nat}, i ∈ vs → wipe (σ.set i o) vs = wipe σ vs
  | v :: vs, h => by
    unfold L2.wipe
    by_cases e : i ∈ vs
    · rw [wipe_set σ i o e]
    · have hv : i = v := by
        rcases List.mem_cons.mp h with q | q
        · exact q
        · exact absurd q e
      subst hv
      have : ∀ vs : List Nat, i ∉ vs → wipe (σ.set i o) vs = (wipe σ vs).set i o := by
        intro vs
        induction vs with
        | nil => intro _; rfl
        | cons w ws ih =>
          intro hn
          simp only [List.mem_cons, not_or] at hn
          unfold L2.wipe
          rw [ih hn.2, List.set_comm _ _ (fun z => hn.1 z)]
      rw [this vs e, List.set_set]
theorem wipe_wipe (σ : St) (vs : List Nat) : ∀ ws : List Nat, (∀ w ∈ ws, w ∈ vs) → wipe (wipe σ ws) vs = wipe σ vs
  | [], _ => rfl
  | w :: ws, h => by
    have e : wipe σ (w :: ws) = (wipe σ ws).set w none := rfl
    rw [e, wipe_set _ w none (h w (by simp)), wipe_wipe σ vs ws fun z hz => h z (by simp [hz])]

/-! ### targets made of names -/
inductive Pat where
  | nm (i : Nat)
  | tp (ps : List Pat)
mutual
def Pat.bind : Pat → D → Tau → Option Tau
  | .nm i, d, τ => some (τ.set i (some d))
  | .tp ps, .tup ds, τ => Pat.binds ps ds τ
  | .tp _, _, _ => none
def Pat.binds : List Pat → List D → Tau → Option Tau
  | [], [], τ => some τ
  | p :: ps, d :: ds, τ => (Pat.bind p d τ).bind (Pat.binds ps ds)
  | _, _, _ => none
end
mutual
def trP (K : PySem.W.Frag) : Pat → TG
  | .nm i => gName i
  | .tp ps => gTup K ps.length (trPs K ps)
def trPs (K : PySem.W.Frag) : List Pat → TGs
  | [] => gNil
  | p :: ps => gCons (trP K p) (trPs K ps)
end
mutual
def Pat.slots : Pat → List Nat
  | .nm i => [i]
  | .tp ps => Pat.slotss ps
def Pat.slotss : List Pat → List Nat
  | [] => []
  | p :: ps => Pat.slots p ++ Pat.slotss ps
end
mutual
theorem pat_ok : ∀ (p : Pat) (d : D) (v : V) (τ τ' : Tau) (σ : St), RelD K ρ H d v → Pat.bind p d τ = some τ' → RelT K ρ H τ σ →
    ∃ σ', (∀ Q, Q σ' H → trP K p v σ H Q) ∧ RelT K ρ H τ' σ' ∧ ∀ vs : List Nat, (∀ i ∈ p.slots, i ∈ vs) → wipe σ' vs = wipe σ vs
  | .nm i, d, v, τ, τ', σ, r, e, t => by
    simp only [Pat.bind, Option.some.injEq] at e
    subst e
    exact ⟨σ.set i (some v), fun Q q => by simp only [trP]; exact q, t.set r i, fun vs h => wipe_set σ i _ (h i (by simp [Pat.slots]))⟩
  | .tp ps, d, v, τ, τ', σ, r, e, t => by
    cases d <;> simp only [Pat.bind] at e <;> try cases e
    obtain ⟨a, xs, rfl, h, q⟩ := r.tup_
    obtain ⟨σ', k1, k2, k3, k4⟩ := pats_ok ps _ xs τ τ' σ q e t
    refine ⟨σ', fun Q z => ?_, k2, fun vs hv => k4 vs (by simpa [Pat.slots] using hv)⟩
    simp only [trP]
    exact ⟨a, xs, rfl, SqT.of h, k3, k1 Q z⟩
theorem pats_ok : ∀ (ps : List Pat) (ds : List D) (vs : List V) (τ τ' : Tau) (σ : St), RelDs K ρ H ds vs → Pat.binds ps ds τ = some τ' → RelT K ρ H τ σ →
    ∃ σ', (∀ Q, Q σ' H → trPs K ps vs σ H Q) ∧ RelT K ρ H τ' σ' ∧ vs.length = ps.length ∧ ∀ ws : List Nat, (∀ i ∈ Pat.slotss ps, i ∈ ws) → wipe σ' ws = wipe σ ws
  | [], ds, vs, τ, τ', σ, r, e, t => by
    cases ds with
    | nil =>
      simp only [Pat.binds, Option.some.injEq] at e
      subst e
      simp only [RelDs] at r; subst r
      exact ⟨σ, fun Q q => by simp only [trPs]; exact ⟨rfl, q⟩, t, rfl, fun _ _ => rfl⟩
    | cons d ds => simp [Pat.binds] at e
  | p :: ps, ds, vs, τ, τ', σ, r, e, t => by
    cases ds with
    | nil => simp [Pat.binds] at e
    | cons d ds =>
      simp only [Pat.binds] at e
      obtain ⟨τ1, e1, e2⟩ := bindE e
      simp only [RelDs] at r
      obtain ⟨x, ys, rfl, r1, r2⟩ := r
      obtain ⟨σ1, a1, a2, a3⟩ := pat_ok p d x τ τ1 σ r1 e1 t
      obtain ⟨σ2, b1, b2, b3, b4⟩ := pats_ok ps ds ys τ1 τ' σ1 r2 e2 a2
      refine ⟨σ2, fun Q q => ?_, b2, by simp [b3], fun ws hw => ?_⟩
      · simp only [trPs]
        exact ⟨x, ys, rfl, a1 _ (b1 Q q)⟩
      · rw [b4 ws fun i hi => hw i (by simp [Pat.slotss, hi]), a3 ws fun i hi => hw i (by simp [Pat.slotss, hi])]
end
theorem eg_nm {i : Nat} {x : Str} {pos : Pos} (h : PG X (.Name x pos) (gName i)) : PG X (.Name x pos) (trP X.K (.nm i)) := by simp only [trP]; exact h
theorem egs_nil : PGs X [] (trPs X.K []) := by simp only [trPs]; exact pgs_nil
theorem egs_cons {e : Expr} {es : List Expr} {p : Pat} {ps : List Pat} (h1 : PG X e (trP X.K p)) (h2 : PGs X es (trPs X.K ps))
    (hs : (assignEach (e :: es) X.env).map (·.2) = assign e X.env :: (assignEach es X.env).map (·.2) := by rfl) : PGs X (e :: es) (trPs X.K (p :: ps)) := by
  simp only [trPs]; exact pgs_cons h1 h2 hs
theorem eg_tp {es : List Expr} {k : Nat} {ps : List Pat} {pos : Pos} (hc : X.calm = true) (h : PGs X es (trPs X.K ps))
    (hn : (assignEach es X.env).length = ps.length := by rfl) (hst : (assignEach es X.env).findIdx? (·.1) = none := by rfl) : PG X (.Tuple es k pos) (trP X.K (.tp ps)) := by
  simp only [trP]; exact pg_tup hc h hn hst

/-! ### targets -/
abbrev EvG := D → Tau → Sto → Option (Tau × Sto)
abbrev EvGs := List D → Tau → Sto → Option (Tau × Sto)
def tG (K : PySem.W.Frag) (g : EvG) : TG := fun v σ H Q => ∃ ρ τ S d τ' S', At K ρ τ S σ H ∧ RelD K ρ H d v ∧ g d τ S = some (τ', S') ∧ ∀ ρ' σ' H', Post K ρ H ρ' H' S' → RelT K ρ' H' τ' σ' → Q σ' H'
theorem wkG {e : Expr} {t t' : TG} (h : PG X e t) (k : ∀ v σ H Q, t' v σ H Q → t v σ H Q) : PG X e t' := ⟨fun pins s σ H v u Q I r q => h.run pins s σ H v u Q I r (k v σ H Q q)⟩
def patG (p : Pat) : EvG := fun d τ S => (p.bind d τ).map fun τ' => (τ', S)
theorem eG_pat {e : Expr} {p : Pat} (h : PG X e (trP X.K p)) : PG X e (tG X.K (patG p)) := wkG h fun v σ H Q q => by
  obtain ⟨ρ, τ, S, d, τ', S', A, r, e, k⟩ := q
  simp only [patG, Option.map_eq_some_iff] at e
  obtain ⟨τ1, e1, e2⟩ := e
  cases e2
  obtain ⟨σ', k1, k2, _⟩ := pat_ok p d v τ _ σ r e1 A.t
  exact k1 Q (k ρ σ' H A.refl k2)
def nilG : EvGs := fun ds τ S => match ds with | [] => some (τ, S) | _ => none
def consG (g : EvG) (gs : EvGs) : EvGs := fun ds τ S => match ds with | d :: ds => (g d τ S).bind fun p => gs ds p.1 p.2 | _ => none
def tupG (gs : EvGs) : EvG := fun d τ S => match d with | .tup ds => gs ds τ S | _ => none
/-! o[i] = v -/
def stD (o i v : D) (S : Sto) : Option Sto := match o with
  | .loc n => match S[n]? with
    | some (.lst ds) => (match i with | .int k => some k | _ => none).bind fun k => (ixN ds.length k).map fun j => S.set n (.lst (ds.set j v))
    | some (.dK kvs) => match kOf i with
      | some k => if kvs.length ≤ 10000000 then some (S.set n (.dK (ptK kvs k v))) else none
      | none => if kvs.isEmpty then (nkT i).map fun k => S.set n (.dN (ptK [] k v)) else none
    | some (.dT kvs) => (tOf i).bind fun k => if kvs.length ≤ 10000000 then some (S.set n (.dT (ptK kvs k v))) else none
    | some (.dN kvs) => (nkT i).bind fun k => if kvs.length ≤ 10000000 then some (S.set n (.dN (ptK kvs k v))) else none
    | _ => none
  | _ => none
def rSetD : V → V → V → Hp → (Hp → Prop) → Prop := fun o i v H Q => ∃ a H4, o = .ref a ∧ DPut H a i v H4 ∧ Q H4
theorem set_dict {k : Nat} (hc : Ok X k) : PSet X rSetD := by
  intro pins s σ H o i v ov iv u Q I ro ri rv h
  obtain ⟨a, H4, rfl, g, q⟩ := h
  cases ro
  exact d_setItem (by have := hc.units; omega) I g ri rv fun s' I' => ⟨H4, I', q⟩
theorem set_any {k : Nat} (hc : Ok X k) : PSet X (fun o i v H Q => rSetL o i v H Q ∨ rSetD o i v H Q ∨ rSetN o i v H Q) := by
  intro pins s σ H o i v ov iv u Q I ro ri rv h
  rcases h with h | h | h
  · exact set_list pins s σ H o i v ov iv u Q I ro ri rv h
  · exact set_dict hc pins s σ H o i v ov iv u Q I ro ri rv h
  · exact set_dN hc.units pins s σ H o i v ov iv u Q I ro ri rv h
theorem line_lt {n : Nat} (h : n ≤ 10000000) : n < sizeLine := by rw [sizeLine_eq]; omega
theorem immPut (R : RelS K ρ S H) {n : Nat} {a : Addr} (hn : ρ[n]? = some a) (ho : HO) : Imm H (upd H a ho) := by
  have ma : a ∈ ρ := List.mem_of_getElem? hn
  refine ⟨fun b xs h => ?_, fun b o u hu h => ?_⟩
  · have ne : b ≠ a := fun e => R.tup h (by rw [e]; exact ma)
    rw [upd_ne ne]; exact h
  · have ne : b ≠ a := fun e => R.frz hu h (by rw [e]; exact ma)
    rw [upd_ne ne]; exact h
theorem put_lst (R : RelS K ρ S H) {n : Nat} {a : Addr} (hn : ρ[n]? = some a) (mu : Mut (H a)) {ds : List D} {xs : List V} (r : RelDs K ρ H ds xs) : Post K ρ H ρ (upd H a (.lst xs)) (S.set n (.lst ds)) :=
  R.put hn mu ⟨xs, upd_same, r.mono (immPut R hn _) List.prefix_rfl⟩
theorem RelN.len {kds : List (NestedKey × D)} {xs : List NEnt} (q : RelN K ρ H kds xs) : xs.length = kds.length := by
  have := congrArg List.length q.1
  simpa using this
theorem RelN.put {kds : List (NestedKey × D)} {xs : List NEnt} {kk : NestedKey} {b : Addr} {w y : V} {d : D} (q : RelN K ρ H kds xs) (r : RelD K ρ H d w) (kn : KN H kk y b) : RelN K ρ H (ptK kds kk d) (putN xs kk b w) := by
  have hs := q.isSome (k := kk)
  have ha : (kds.any fun kv => decide (kv.1 = kk)) = (SW.lk kds kk).isSome := by
    clear hs q
    induction kds with
    | nil => rfl
    | cons p l ih =>
      rw [List.any_cons, ih]
      by_cases e : p.1 = kk <;> simp [SW.lk, List.find?_cons, e]
  have ok : ∀ x ∈ putN xs kk b w, NOk H x := putN_ok q.2.2 ⟨kn.nk, kn.dep, kn.pl⟩
  by_cases hc : (SW.lk kds kk).isSome = true
  · have e1 : putN xs kk b w = xs.map (setN kk w) := by unfold putN; rw [hs, if_pos hc]
    have e2 : ptK kds kk d = kds.map fun kv => if kv.1 = kk then (kv.1, d) else kv := by unfold ptK; rw [ha, if_pos hc]
    refine ⟨?_, ?_, ok⟩
    · rw [e1, e2, List.map_map, List.map_map]
      have e1 : xs.map ((fun x => x.1) ∘ setN kk w) = xs.map (·.1) := List.map_congr_left fun x _ => by
        show (setN kk w x).1 = x.1
        unfold setN; split <;> rfl
      have e2 : kds.map ((fun x => x.1) ∘ fun kv => if kv.1 = kk then (kv.1, d) else kv) = kds.map (·.1) := List.map_congr_left fun x _ => by
        show (if x.1 = kk then (x.1, d) else x).1 = x.1
        split <;> rfl
      rw [e1, e2]; exact q.1
    · rw [e1, e2]
      clear hs ha ok hc e1 e2
      induction kds generalizing xs with
      | nil =>
        have : xs = [] := by have := q.1; simpa using this
        subst this; exact .nil
      | cons p l ih =>
        obtain ⟨p1, p2⟩ := p
        obtain ⟨b', v', r', rfl, h1, h2⟩ := q.split
        have := ih h2
        simp only [List.map_cons]
        unfold setN
        by_cases e : p1 = kk
        · simp only [e, if_true]; exact .cons r this
        · simp only [e, if_false]; exact .cons h1 this
  · have e1 : putN xs kk b w = xs ++ [(kk, b, w)] := by unfold putN; rw [hs, if_neg hc]
    have e2 : ptK kds kk d = kds ++ [(kk, d)] := by unfold ptK; rw [ha, if_neg hc]
    refine ⟨?_, ?_, ok⟩
    · rw [e1, e2, List.map_append, List.map_append, q.1]; rfl
    · rw [e1, e2, List.map_append, List.map_append]
      exact q.2.1.app (.one r)
theorem stD_ok (R : RelS K ρ S H) {o i v : D} {x y z : V} (r1 : RelD K ρ H o x) (r2 : RelD K ρ H i y) (r3 : RelD K ρ H v z) (e : stD o i v S = some S') {Q : Hp → Prop} (k : ∀ H', Post K ρ H ρ H' S' → Q H') :
    rSetL x y z H Q ∨ rSetD x y z H Q ∨ rSetN x y z H Q := by
  cases o <;> simp only [stD] at e <;> try cases e
  split at e
  · rename_i ds eo
    obtain ⟨kk, e1, e⟩ := bindE e
    obtain rfl : i = .int kk := by
      split at e1
      · cases e1; rfl
      · cases e1
    obtain ⟨j, e2, e⟩ := Option.map_eq_some_iff.mp e
    subst e
    obtain ⟨a, xs, rfl, hn, h, q⟩ := R.lst eo r1
    rw [r2.int_]
    exact .inl ⟨a, xs, _, j, rfl, rfl, h, by rw [q.len]; exact e2, k _ (put_lst R hn (by rw [h]; trivial) (q.set r3 j))⟩
  · rename_i kvs eo
    split at e
    rotate_left
    · split at e
      · rename_i hk
        obtain ⟨kk, e1, e⟩ := Option.map_eq_some_iff.mp e
        subst e
        have hk : kvs = [] := List.isEmpty_iff.mp hk
        subst hk
        obtain ⟨a, xs, rfl, hn, W, q⟩ := nWr_rel R eo rfl r1
        obtain ⟨b, kn⟩ := nkT_rel r2 e1
        exact .inr (.inr ⟨a, _, rfl, ⟨xs, kk, b, W, kn, line_lt (by rw [q.len]; simp), rfl⟩, k _ (R.put hn W.mut (o := .dN (ptK [] kk v)) ⟨_, upd_same, (q.put r3 kn).mono (immPut R hn _) List.prefix_rfl⟩)⟩)
      · cases e
    rename_i kk e1
    split at e
    · rename_i hl; cases e
      obtain ⟨a, xs, rfl, hn, h, q⟩ := R.dK eo r1
      rw [kOf_rel r2 e1]
      exact .inr (.inl ⟨a, _, rfl, DPut.k h (line_lt (by rw [q.len]; exact hl)), k _ (R.put hn (by rw [h]; trivial) ⟨_, upd_same, (q.put r3).mono (immPut R hn _) List.prefix_rfl⟩)⟩)
    · cases e
  · rename_i kvs eo
    obtain ⟨kk, e1, e⟩ := bindE e
    split at e
    · rename_i hl; cases e
      obtain ⟨a, xs, rfl, hn, h, q⟩ := R.dT eo r1
      obtain ⟨b, rfl, hb⟩ := tOf_rel r2 e1
      exact .inr (.inl ⟨a, _, rfl, DPut.t h hb (line_lt (by rw [q.len]; exact hl)), k _ (R.put hn (by rw [h]; trivial) ⟨_, upd_same, (q.put r3).mono (immPut R hn _) List.prefix_rfl⟩)⟩)
    · cases e
  · rename_i kvs eo
    obtain ⟨kk, e1, e⟩ := bindE e
    split at e
    · rename_i hl; cases e
      obtain ⟨a, xs, rfl, hn, h, q⟩ := R.dN eo r1
      obtain ⟨b, kn⟩ := nkT_rel r2 e1
      exact .inr (.inr ⟨a, _, rfl, ⟨xs, kk, b, ⟨.inl h, q.2.2⟩, kn, line_lt (by rw [q.len]; exact hl), rfl⟩, k _ (R.put hn (by rw [h]; trivial) ⟨_, upd_same, (q.put r3 kn).mono (immPut R hn _) List.prefix_rfl⟩)⟩)
    · cases e
  · cases e
def subG (fo fi : EvE) : EvG := fun d τ S => (fo τ S).bind fun p => (fi τ p.2).bind fun q => (stD p.1 q.1 d q.2).map fun S' => (τ, S')
theorem eG_sub {k : Nat} {o i : Expr} {fo fi : EvE} {pos : Pos} (hc : Ok X k) (ho : EE X o fo) (hi : EE X i fi)
    (ha : ∀ v, assign (.Subscript o i pos) X.env v = (do
      let ov ← holding [v] (eval o X.env)
      let iv ← holding [v, ov] (eval i X.env)
      standAt pos
      holding [v, ov, iv] (setItem ov iv v)
      release [v, ov, iv] []) := by intro _; rfl) : PG X (.Subscript o i pos) (tG X.K (subG fo fi)) := wkG (pg_sub ho hi (set_any hc) ha) fun v σ H Q q => by
  obtain ⟨ρ, τ, S, d, τ', S', A, r, e, k⟩ := q
  obtain ⟨⟨x, S1⟩, e1, e⟩ := bindE e
  obtain ⟨⟨y, S2⟩, e2, e⟩ := bindE e
  rw [Option.map_eq_some_iff] at e
  obtain ⟨S3, e3, e⟩ := e
  cases e
  refine goE A e1 fun ρ1 v1 H1 A1 P1 r1 => goE A1 e2 fun ρ2 v2 H2 A2 P2 r2 => ?_
  have P12 := P1.trans P2
  refine stD_ok A2.s (r1.mono (P2.imm A1.s) P2.pre) r2 (r.mono (P12.imm A.s) P12.pre) e3 fun H3 P3 => ?_
  exact k ρ2 σ H3 (P12.trans P3) (A2.t.mono (P3.imm A2.s) P3.pre)

/-! ### statements -/
def nxS : EvS := fun τ S => some (.nx τ, S)
def brS : EvS := fun τ S => some (.bk τ, S)
def ctS : EvS := fun τ S => some (.ct τ, S)
def seqS (f g : EvS) : EvS := fun τ S => (f τ S).bind fun p => match p.1 with | .nx τ' => g τ' p.2 | o => some (o, p.2)
def exS (f : EvE) : EvS := fun τ S => (f τ S).map fun p => (.nx τ, p.2)
def rtS (f : EvE) : EvS := fun τ S => (f τ S).map fun p => (.rt p.1, p.2)
def ifS (c : EvT) (f g : EvS) : EvS := fun τ S => (c τ S).bind fun p => if p.1 then f τ p.2 else g τ p.2
def asS (f : EvE) (g : EvG) : EvS := fun τ S => (f τ S).bind fun p => (g p.1 τ p.2).map fun q => (.nx q.1, q.2)
/-- a, b = e1, e2: two names, no pair is made -/
def parS (i j : Nat) (f : EvA) : EvS := fun τ S => (f τ S).bind fun p => match p.1 with | [v, w] => some (.nx ((τ.set i (some v)).set j (some w)), p.2) | _ => none
theorem es_continue {pos} : ES W X (.Continue pos) ctS := wkS ps_continue fun D σ H q => by
  obtain ⟨ρ, τ, S, o, S', A, e, k⟩ := q
  cases e
  exact k ρ H A.refl σ A.t
theorem ess_nil : ESs W X [] nxS := wkSs pss_nil fun D σ H q => by
  obtain ⟨ρ, τ, S, o, S', A, e, k⟩ := q
  cases e
  exact k ρ H A.refl σ A.t
theorem ess_one {st : Stmt} {f : EvS} (h : ES W X st f) : ESs W X [st] f := pss_one h
theorem ess_cons {st : Stmt} {rest : List Stmt} {f g : EvS} (h : ES W X st f) (h2 : ESs W X rest g) : ESs W X (st :: rest) (seqS f g) := wkSs (pss_cons h h2) fun D σ H q => by
  obtain ⟨ρ, τ, S, o, S', A, e, k⟩ := q
  obtain ⟨⟨o1, S1⟩, e1, e⟩ := bindE e
  refine ⟨ρ, τ, S, o1, S1, A, e1, fun ρ1 H1 P1 => ?_⟩
  cases o1 with
  | nx τ1 => exact fun σ1 t1 => ⟨ρ1, τ1, S1, o, S', ⟨P1.rel, t1⟩, e, fun ρ2 H2 P2 => k ρ2 H2 (P1.trans P2)⟩
  | rt d => cases e; exact k ρ1 H1 P1
  | bk τ1 => cases e; exact k ρ1 H1 P1
  | ct τ1 => cases e; exact k ρ1 H1 P1
  | ex c fs τ1 => cases e; exact k ρ1 H1 P1
theorem es_expr {e : Expr} {f : EvE} {pos : Pos} (h : EE X e f) (hs : swapsWith e none pos.line X.env = pure false := by rfl) : ES W X (.Expr e pos) (exS f) := wkS (ps_expr h hs) fun D σ H q => by
  obtain ⟨ρ, τ, S, o, S', A, e, k⟩ := q
  simp only [exS, Option.map_eq_some_iff] at e
  obtain ⟨⟨x, S1⟩, e1, e⟩ := e
  cases e
  exact goE A e1 fun ρ1 v1 H1 A1 P1 r1 => k ρ1 H1 P1 σ A1.t
theorem es_ret {e : Expr} {f : EvE} {pos : Pos} (h : EE X e f) : ES W X (.Return (some e) pos) (rtS f) := wkS (ps_ret h) fun D σ H q => by
  obtain ⟨ρ, τ, S, o, S', A, e, k⟩ := q
  simp only [rtS, Option.map_eq_some_iff] at e
  obtain ⟨⟨x, S1⟩, e1, e⟩ := e
  cases e
  exact goE A e1 fun ρ1 v1 H1 A1 P1 r1 => k ρ1 H1 P1 v1 r1
def retN : EvS := fun _ S => some (.rt .non, S)
theorem es_if {c : Expr} {a b : List Stmt} {f : EvT} {g h : EvS} {pos : Pos} (hc : ET X c f) (ha : ESs W X a g) (hb : ESs W X b h) : ES W X (.If c a b pos) (ifS f g h) := wkS (ps_if hc ha hb) fun D σ H q => by
  obtain ⟨ρ, τ, S, o, S', A, e, k⟩ := q
  obtain ⟨⟨x, S1⟩, e1, e⟩ := bindE e
  refine goT A e1 fun ρ1 H1 A1 P1 => ?_
  cases x with
  | true => exact ⟨ρ1, τ, S1, o, S', A1, e, fun ρ2 H2 P2 => k ρ2 H2 (P1.trans P2)⟩
  | false => exact ⟨ρ1, τ, S1, o, S', A1, e, fun ρ2 H2 P2 => k ρ2 H2 (P1.trans P2)⟩
theorem asS_ok {f : EvE} {g : EvG} {t : TE} {D : Ends} {σ : St} {H : Hp} (ht : ∀ σ H Q, tE K f σ H Q → t σ H Q) (q : tS K W (asS f g) D σ H) : tAsg t (tG K g) D σ H := by
  obtain ⟨ρ, τ, S, o, S', A, e, k⟩ := q
  obtain ⟨⟨x, S1⟩, e1, e⟩ := bindE e
  rw [Option.map_eq_some_iff] at e
  obtain ⟨⟨τ2, S2⟩, e2, e⟩ := e
  cases e
  refine ht σ H _ (goE A e1 fun ρ1 v1 H1 A1 P1 r1 => ?_)
  exact ⟨ρ1, τ, S1, x, τ2, _, A1, r1, e2, fun ρ2 σ2 H2 P2 t2 => k ρ2 H2 (P1.trans P2) σ2 t2⟩
theorem es_asg {tg e : Expr} {f : EvE} {g : EvG} {pos : Pos} (he : EE X e f) (hg : PG X tg (tG X.K g)) (hs : swapsWithSole [tg] e pos.line X.env = pure false := by rfl) (hw : swappedStores [tg] e X.env = pure none := by rfl)
    (h1 : (assignEach [tg] X.env).map (·.2) = [assign tg X.env] := by rfl) : ES W X (.Assign [tg] e pos) (asS f g) := wkS (ps_asg he hg hs hw h1) fun D σ H q => asS_ok (fun _ _ _ z => z) q
theorem nameG {i : Nat} {v : V} {σ : St} {H : Hp} {Q : St → Hp → Prop} (h : tG K (patG (.nm i)) v σ H Q) : gName i v σ H Q := by
  obtain ⟨ρ, τ, S, d, τ', S', A, r, e, k⟩ := h
  simp only [patG, Pat.bind, Option.map_some, Option.some.injEq] at e
  cases e
  exact k ρ _ H A.refl (A.t.set r i)
theorem tAsg_mono {t : TE} {g g' : TG} {D : Ends} {σ : St} {H : Hp} (hm : ∀ σ H (Q Q' : VK), (∀ v H', Q v H' → Q' v H') → t σ H Q → t σ H Q') (hg : ∀ v σ H Q, g v σ H Q → g' v σ H Q) (h : tAsg t g D σ H) : tAsg t g' D σ H :=
  hm σ H _ _ (fun v H' q => hg v σ H' _ q) h
theorem tE_mono {f : EvE} (σ : St) (H : Hp) (Q Q' : VK) (h : ∀ v H', Q v H' → Q' v H') (q : tE K f σ H Q) : tE K f σ H Q' := by
  obtain ⟨ρ, τ, S, d, S', A, e, k⟩ := q
  exact ⟨ρ, τ, S, d, S', A, e, fun ρ' v H' P r => h v H' (k ρ' v H' P r)⟩
/-- name = e -/
def stS (i : Nat) (f : EvE) : EvS := asS f (patG (.nm i))
theorem es_set {i : Nat} {x : Str} {e : Expr} {f : EvE} {pos pos' : Pos} (hN : X.N.Nodup) (hi : X.N[i]? = some x) (hx : Loc X.env.scope x) (he : EE X e f) (hs : swapsWith e (some (.Name x pos')) pos.line X.env = pure false := by rfl) (hf : X.fn x = true ∨ X.env.scope.names.lookup x = some .local := by first | exact .inl rfl | exact .inr rfl | assumption) :
    ES W X (.Assign [.Name x pos'] e pos) (stS i f) := wkS (ps_set hN hi hx he hs hf) fun D σ H q =>
  tAsg_mono tE_mono (fun v σ H Q => nameG) (asS_ok (t := tE X.K f) (fun _ _ _ z => z) q)
theorem es_par {i j : Nat} {x y : Str} {a b : Expr} {f : EvA} {px py pt pos : Pos} {kt k2 pt2} (h : PS X (.Assign [.Tuple [.Name x px, .Name y py] kt pt] (.Tuple [a, b] k2 pt2) pos) (tPar i j (tA X.K f))) :
    ES W X (.Assign [.Tuple [.Name x px, .Name y py] kt pt] (.Tuple [a, b] k2 pt2) pos) (parS i j f) := wkS h fun D σ H q => by
  obtain ⟨ρ, τ, S, o, S', A, e, k⟩ := q
  obtain ⟨⟨x, S1⟩, e1, e⟩ := bindE e
  refine goA A e1 fun ρ1 v1 H1 A1 P1 r1 => ?_
  rcases x with _ | ⟨d1, _ | ⟨d2, _ | ⟨d3, r⟩⟩⟩ <;> cases e
  simp only [RelDs] at r1
  obtain ⟨x1, y1, rfl, q1, x2, y2, rfl, q2, rfl⟩ := r1
  exact ⟨x1, x2, rfl, k ρ1 H1 P1 _ ((A1.t.set q1 i).set q2 j)⟩
/-- name op= e -/
def augS (i : Nat) (g : D → D → Sto → Option (D × Sto)) (f : EvE) : EvS := fun τ S => (τ[i]?.join).bind fun x => (f τ S).bind fun p => (g x p.1 p.2).map fun q => (.nx (τ.set i (some q.1)), q.2)
theorem es_aug {i : Nat} {st : Stmt} {f : EvE} {r : R2} {g : D → D → Sto → Option (D × Sto)} (h : PS X st (tAug i (tE X.K f) r)) (hg : Op2 X.K r g) : ES W X st (augS i g f) := wkS h fun D σ H q => by
  obtain ⟨ρ, τ, S, o, S', A, e, k⟩ := q
  obtain ⟨x, e0, e⟩ := bindE e
  obtain ⟨⟨y, S1⟩, e1, e⟩ := bindE e
  rw [Option.map_eq_some_iff] at e
  obtain ⟨⟨z, S2⟩, e2, e⟩ := e
  cases e
  have e0' : τ[i]? = some (some x) := by
    cases q : τ[i]? with
    | none => rw [q] at e0; cases e0
    | some o => rw [q] at e0; cases o <;> cases e0; rfl
  obtain ⟨v, ev, rv⟩ := A.t.2 i x e0'
  refine ⟨v, ev, goE A e1 fun ρ1 v1 H1 A1 P1 r1 => ?_⟩
  refine hg ρ1 S1 H1 x y v v1 z _ A1.s (rv.mono (P1.imm A.s) P1.pre) r1 e2 _ fun ρ2 u H2 P2 r2 => ?_
  exact k ρ2 H2 (P1.trans P2) _ ((A1.t.mono (P2.imm A1.s) P2.pre).set r2 i)
/-! while -/
def whE (c : EvT) (b : EvS) : Nat → Tau → Sto → Option (Out × Sto)
  | 0, _, _ => none
  | n + 1, τ, S => (c τ S).bind fun p => if p.1 then (b τ p.2).bind fun q => (match q.1 with
      | .nx τ2 => whE c b n τ2 q.2
      | .ct τ2 => whE c b n τ2 q.2
      | .bk τ2 => some (.nx τ2, q.2)
      | .rt d => some (.rt d, q.2)
      | .ex c fs τ2 => some (.ex c fs τ2, q.2)) else some (.nx τ, p.2)
def fuel : Nat := 1000000
def whS (c : EvT) (b : EvS) : EvS := whE c b fuel
theorem es_while {c : Expr} {body : List Stmt} {fc : EvT} {fb : EvS} {pos : Pos} (hp : PassesOwn (model X.prog X.w) X.A X.env X.xe) (hc : ET X c fc) (hb : ESs W X body fb) : ES W X (.While c body [] pos) (whS fc fb) := wkS (ps_while hp hc hb) fun D σ H q => by
  obtain ⟨ρ, τ, S, o, S', A, e, k⟩ := q
  refine ⟨fun m σ1 H1 => ∃ ρ1 τ1 S1, At X.K ρ1 τ1 S1 σ1 H1 ∧ Post X.K ρ H ρ1 H1 S1 ∧ whE fc fb m τ1 S1 = some (o, S'), ⟨fuel, ρ, τ, S, A, A.refl, e⟩, ?_⟩
  rintro m σ1 H1 ⟨ρ1, τ1, S1, A1, P1, e1⟩
  cases m with
  | zero => cases e1
  | succ m =>
    obtain ⟨⟨x, S2⟩, e2, e1⟩ := bindE e1
    refine goT A1 e2 fun ρ2 H2 A2 P2 => ?_
    cases x with
    | false => cases e1; exact k ρ2 H2 (P1.trans P2) σ1 A2.t
    | true =>
      rw [if_pos rfl] at e1 ⊢
      obtain ⟨⟨o3, S3⟩, e3, e1⟩ := bindE e1
      refine ⟨fun σ' H' => ∃ ρ1 τ1 S1, At X.K ρ1 τ1 S1 σ' H' ∧ Post X.K ρ H ρ1 H' S1 ∧ whE fc fb m τ1 S1 = some (o, S'), fun σ' H' q => ⟨m, Nat.lt_succ_self m, q⟩, ρ2, τ1, S2, o3, S3, A2, e3, fun ρ3 H3 P3 => ?_⟩
      have PP := (P1.trans P2).trans P3
      cases o3 with
      | nx τ3 => exact fun σ3 t3 => ⟨ρ3, τ3, S3, ⟨P3.rel, t3⟩, PP, e1⟩
      | ct τ3 => exact fun σ3 t3 => ⟨ρ3, τ3, S3, ⟨P3.rel, t3⟩, PP, e1⟩
      | bk τ3 => cases e1; exact fun σ3 t3 => k ρ3 H3 PP σ3 t3
      | rt d => cases e1; exact fun v r => k ρ3 H3 PP v r
      | ex c fs τ3 => cases e1; exact fun σ3 t3 => k ρ3 H3 PP σ3 t3
end
end SW
namespace SW
open PySem L2

/-! ### what is walked -/
structure Src where
  len : Nat
  get : Sto → Nat → Option D
  fin : Sto → Bool
abbrev EvI := Tau → Sto → Option (Src × Sto)
def Src.fixed (ds : List D) : Src := ⟨ds.length, fun _ i => ds[i]?, fun _ => true⟩
def lenAt (S : Sto) (n : Nat) : Option Nat := match S[n]? with | some (.lst ds) => some ds.length | _ => none
def itemAt (S : Sto) (n i : Nat) : Option D := match S[n]? with | some (.lst ds) => ds[i]? | _ => none
def Src.live (n l : Nat) : Src := ⟨l, fun S i => if lenAt S n = some l then itemAt S n i else none, fun S => lenAt S n = some l⟩
/-- a list, a tuple -/
def srcOf (d : D) (S : Sto) : Option Src := match d with
  | .tup ds => some (.fixed ds)
  | .fl ds => some (.fixed ds)
  | .loc n => (lenAt S n).map fun l => .live n l
  | _ => none
structure Walks (K : PySem.W.Frag) (ρ0 : List Addr) (H0 : Hp) (J : It) (s : Src) : Prop where
  go : ∀ (ρ : List Addr) (S : Sto) (H : Hp) (i : Nat) (d : D), RelS K ρ S H → ρ0 <+: ρ → ImmL H0 H → i < s.len → s.get S i = some d → J.go i H ∧ ∀ x H', J.yld i H x H' → Post K ρ H ρ H' S ∧ RelD K ρ H' d x
  stop : ∀ (ρ : List Addr) (S : Sto) (H : Hp), RelS K ρ S H → ρ0 <+: ρ → ImmL H0 H → s.fin S = true → J.stop s.len H
def tI (K : PySem.W.Frag) (f : EvI) : TI := fun σ H R => ∃ ρ τ S s S', At K ρ τ S σ H ∧ f τ S = some (s, S') ∧ ∀ ρ' J H', Post K ρ H ρ' H' S' → Walks K ρ' H' J s → R J H'
abbrev EI (X : Cx) (tg e : Expr) (f : EvI) : Prop := PI X tg e (tI X.K f)
section
variable {X : Cx} {W : WX} {K : PySem.W.Frag} {ρ ρ' : List Addr} {S S' : Sto} {H H' : Hp} {τ : Tau} {σ : St} {tg e : Expr}
theorem wkI {t t' : TI} (h : PI X tg e t) (k : ∀ σ H R, t' σ H R → t σ H R) : PI X tg e t' := ⟨fun pins s σ H R I q => h.run pins s σ H R I (k σ H R q)⟩
theorem orI {t t' : TI} (h : PI X tg e t) (h' : PI X tg e t') : PI X tg e (fun σ H R => t σ H R ∨ t' σ H R) := ⟨fun pins s σ H R I q => q.elim (h.run pins s σ H R I) (h'.run pins s σ H R I)⟩
theorem lenAt_some {n l : Nat} (h : lenAt S n = some l) : ∃ ds, S[n]? = some (.lst ds) ∧ ds.length = l := by
  unfold lenAt at h
  split at h
  · rename_i ds e; exact ⟨ds, e, Option.some.inj h⟩
  · cases h
/-- the list at a place of the store, as it stands -/
theorem walk_live {n l : Nat} {a : Addr} (R0 : RelS K ρ S H) (ha : ρ[n]? = some a) (hl : lenAt S n = some l) (hx : ∀ (X : Nat), True) : Walks K ρ H (Itl K a) (.live n l) where
  go := fun ρ1 S1 H1 i d R1 p1 i1 hi hg => by
    simp only [Src.live] at hg
    split at hg
    · rename_i hl1
      obtain ⟨ds, e1, e2⟩ := lenAt_some hl1
      simp only [itemAt, e1] at hg
      obtain ⟨b, hb, xs, h1, q1⟩ := R1.obj n _ e1
      rw [prefix_get p1 ha] at hb; cases hb
      obtain ⟨v, hv, r⟩ := q1.get hg
      refine ⟨⟨xs, v, SqL.of h1, hv⟩, fun x H' ⟨eH, k⟩ => ?_⟩
      subst eH
      have := k xs (SqL.of h1)
      rw [hv] at this; cases this
      exact ⟨Post.refl R1, r⟩
    · cases hg
  stop := fun ρ1 S1 H1 R1 p1 i1 hf => by
    simp only [Src.live, decide_eq_true_eq] at hf
    obtain ⟨ds, e1, e2⟩ := lenAt_some hf
    obtain ⟨b, hb, xs, h1, q1⟩ := R1.obj n _ e1
    rw [prefix_get p1 ha] at hb; cases hb
    exact ⟨xs, SqL.of h1, by rw [q1.len, e2]; exact Nat.le_refl _⟩
theorem walk_tup {a : Addr} {xs : List V} {ds : List D} (h : H a = some (.tup xs)) (q : RelDs K ρ H ds xs) : Walks K ρ H (Itt K a) (.fixed ds) where
  go := fun ρ1 S1 H1 i d R1 p1 i1 hi hg => by
    obtain ⟨v, hv, r⟩ := (q.mono i1.toImm p1).get hg
    have h1 := i1.tup _ _ h
    refine ⟨⟨xs, v, SqT.of h1, hv⟩, fun x H' ⟨eH, k⟩ => ?_⟩
    subst eH
    have := k xs (SqT.of h1)
    rw [hv] at this; cases this
    exact ⟨Post.refl R1, r⟩
  stop := fun ρ1 S1 H1 R1 p1 i1 hf => ⟨xs, SqT.of (i1.tup _ _ h), by rw [q.len]; exact Nat.le_refl _⟩
theorem walk_fl {a : Addr} {xs : List V} {ds : List D} (h : FzL K H a xs) (q : RelDs K ρ H ds xs) : Walks K ρ H (Itl K a) (.fixed ds) where
  go := fun ρ1 S1 H1 i d R1 p1 i1 hi hg => by
    obtain ⟨v, hv, r⟩ := (q.mono i1.toImm p1).get hg
    have h1 := (i1.fzL h).sqL
    refine ⟨⟨xs, v, h1, hv⟩, fun x H' ⟨eH, k⟩ => ?_⟩
    subst eH
    have := k xs h1
    rw [hv] at this; cases this
    exact ⟨Post.refl R1, r⟩
  stop := fun ρ1 S1 H1 R1 p1 i1 hf => ⟨xs, (i1.fzL h).sqL, by rw [q.len]; exact Nat.le_refl _⟩
/-- for x in a list or a tuple -/
def sqI (f : EvE) : EvI := fun τ S => (f τ S).bind fun p => (srcOf p.1 p.2).map fun s => (s, p.2)
theorem ei_seq {f : EvE} (h : EE X e f) : EI X tg e (sqI f) := wkI (orI (pi_list h) (pi_tup h)) fun σ H R q => by
  obtain ⟨ρ, τ, S, s, S', A, e, k⟩ := q
  obtain ⟨⟨d, S1⟩, e1, e⟩ := bindE e
  obtain ⟨s', e2, e⟩ := Option.map_eq_some_iff.mp e
  cases e
  cases d <;> simp only [srcOf] at e2 <;> try cases e2
  · refine .inr (goE A e1 fun ρ1 v1 H1 A1 P1 r1 => ?_)
    obtain ⟨a, xs, rfl, h, q⟩ := r1.tup_
    exact ⟨a, rfl, ⟨xs, SqT.of h⟩, k _ _ _ P1 (walk_tup h q)⟩
  · refine .inl (goE A e1 fun ρ1 v1 H1 A1 P1 r1 => ?_)
    obtain ⟨a, xs, rfl, h, q⟩ := r1.fl_
    exact ⟨a, rfl, ⟨xs, h.sqL⟩, k _ _ _ P1 (walk_fl h q)⟩
  · obtain ⟨l, e3, e4⟩ := Option.map_eq_some_iff.mp e2
    subst e4
    refine .inl (goE A e1 fun ρ1 v1 H1 A1 P1 r1 => ?_)
    obtain ⟨ds, e5, e6⟩ := lenAt_some e3
    obtain ⟨a, xs, rfl, ha, h, q⟩ := A1.s.lst e5 r1
    exact ⟨a, rfl, ⟨xs, SqL.of h⟩, k _ _ _ P1 (walk_live A1.s ha e3 fun _ => trivial)⟩
/-! ranges -/
def rng (lo : Int) (n : Nat) : List D := (List.range n).map fun (i : Nat) => D.int (lo + (i : Int))
theorem rng_len (lo : Int) (n : Nat) : (rng lo n).length = n := by simp [rng]
theorem rng_get (lo : Int) (n i : Nat) : (rng lo n)[i]? = if i < n then some (.int (lo + (i : Int))) else none := by
  unfold rng
  rw [List.getElem?_map]
  by_cases h : i < n
  · rw [List.getElem?_range h, if_pos h]; rfl
  · rw [List.getElem?_eq_none (by simpa using h), if_neg h]; rfl
theorem walk_rng {lo : Int} {n : Nat} : Walks K ρ H (Itr lo n) (.fixed (rng lo n)) where
  go := fun ρ1 S1 H1 i d R1 p1 i1 hi hg => by
    simp only [Src.fixed, rng_len] at hi
    simp only [Src.fixed, rng_get, if_pos hi, Option.some.injEq] at hg
    subst hg
    refine ⟨hi, fun x H' ⟨eH, k⟩ => ?_⟩
    subst eH k
    exact ⟨Post.refl R1, RelD.int _⟩
  stop := fun ρ1 S1 H1 R1 p1 i1 hf => by simp only [Src.fixed, rng_len]; exact Nat.le_refl _
def big62 (i : Int) : Bool := decide (-(2 ^ 62) ≤ i) && decide (i < 2 ^ 62)
theorem big62_ok {i : Int} (h : big62 i = true) : -(2 ^ 62) ≤ i ∧ i < 2 ^ 62 := by simpa [big62] using h
def rgI1 (f : EvE) : EvI := fun τ S => (f τ S).bind fun p => match p.1 with | .int j => if big62 j then some (.fixed (rng 0 j.toNat), p.2) else none | _ => none
def rgI2 (f g : EvE) : EvI := fun τ S => (f τ S).bind fun p => (g τ p.2).bind fun q => match p.1, q.1 with
  | .int i, .int j => if big62 i && big62 j then some (.fixed (rng i (j - i).toNat), q.2) else none
  | _, _ => none
theorem ei_range1 {a : Expr} {fa : EvE} {p pos : Pos} (hg : Gl X "range") (hm : X.mg "range" = none) (ha : EE X a fa) (hs : starEach [a] X.env = [(false, eval a X.env)] := by rfl) : EI X tg (.Call (.Name "range" p) [a] [] pos) (rgI1 fa) :=
  wkI (pi_range1 hg hm (ea_cons ha ea_nil hs) hs) fun σ H R q => by
    obtain ⟨ρ, τ, S, s, S', A, e, k⟩ := q
    obtain ⟨⟨d, S1⟩, e1, e⟩ := bindE e
    cases d <;> simp only at e <;> try cases e
    split at e
    · rename_i hb; cases e
      refine goA (d := [.int _]) A (by show (fa τ S).bind _ = _; rw [e1]; rfl) fun ρ1 vs H1 A1 P1 r1 => ?_
      simp only [RelDs] at r1
      obtain ⟨x, ys, rfl, q, rfl⟩ := r1
      rw [q.int_]
      obtain ⟨b1, b2⟩ := big62_ok hb
      exact ⟨_, rfl, b1, b2, k _ _ _ P1 walk_rng⟩
    · cases e
/-! for -/
def loE (s : Src) (g : D → Tau → Option Tau) (b : EvS) : Nat → Nat → Tau → Sto → Option (Out × Sto)
  | 0, _, τ, S => if s.fin S then some (.nx τ, S) else none
  | m + 1, i, τ, S => (s.get S i).bind fun d => (g d τ).bind fun τ1 => (b τ1 S).bind fun q => (match q.1 with
      | .nx τ2 => loE s g b m (i + 1) τ2 q.2
      | .ct τ2 => loE s g b m (i + 1) τ2 q.2
      | .bk τ2 => some (.nx τ2, q.2)
      | .rt d => some (.rt d, q.2)
      | .ex c fs τ2 => some (.ex c fs τ2, q.2))
def forS (f : EvI) (p : Pat) (b : EvS) : EvS := fun τ S => (f τ S).bind fun r => loE r.1 p.bind b r.1.len 0 τ r.2
theorem es_for {iter : Expr} {body : List Stmt} {fi : EvI} {p : Pat} {fb : EvS} {pos : Pos} (hp : PassesOwn (model X.prog X.w) X.A X.env X.xe) (hc : X.calm = true) (hi : EI X tg iter fi) (hg : PG X tg (trP X.K p)) (hb : ESs W X body fb)
    (hs : ∀ x, foldedSetIterable iter X.env x = pure x := by intro _; rfl) : ES W X (.For tg iter body [] pos) (forS fi p fb) := wkS (ps_for hp hc hi hg hb hs) fun D σ H q => by
  obtain ⟨ρ, τ, S, o, S', A, e, k⟩ := q
  obtain ⟨⟨s, S1⟩, e1, e⟩ := bindE e
  refine ⟨ρ, τ, S, s, S1, A, e1, fun ρ1 J H1 P1 wk => ?_⟩
  refine ⟨fun i m σ2 H2 => ∃ ρ2 τ2 S2, At X.K ρ2 τ2 S2 σ2 H2 ∧ Post X.K ρ H ρ2 H2 S2 ∧ ρ1 <+: ρ2 ∧ ImmL H1 H2 ∧ i + m = s.len ∧ loE s p.bind fb m i τ2 S2 = some (o, S'),
    ⟨s.len, ρ1, τ, S1, A.go P1, P1, List.prefix_rfl, ImmL.refl _, by omega, e⟩, ?_⟩
  rintro i m σ2 H2 ⟨ρ2, τ2, S2, A2, P2, pr, im, hl, e2⟩
  cases m with
  | zero =>
    simp only [loE] at e2
    split at e2
    · rename_i hf; cases e2
      have hi : i = s.len := by omega
      subst hi
      exact .inl ⟨wk.stop ρ2 _ H2 A2.s pr im hf, k ρ2 H2 P2 σ2 A2.t⟩
    · cases e2
  | succ m =>
    obtain ⟨d, e3, e2⟩ := bindE e2
    obtain ⟨τ3, e4, e2⟩ := bindE e2
    obtain ⟨⟨o5, S5⟩, e5, e2⟩ := bindE e2
    obtain ⟨g1, g2⟩ := wk.go ρ2 S2 H2 i d A2.s pr im (by omega) e3
    refine .inr ⟨g1, fun σ' H' => ∃ ρ2 τ2 S2, At X.K ρ2 τ2 S2 σ' H' ∧ Post X.K ρ H ρ2 H' S2 ∧ ρ1 <+: ρ2 ∧ ImmL H1 H' ∧ i + 1 + m = s.len ∧ loE s p.bind fb m (i + 1) τ2 S2 = some (o, S'),
      fun σ' H' q => ⟨m, Nat.lt_succ_self m, q⟩, fun x H3 y => ?_⟩
    obtain ⟨P3, r3⟩ := g2 x H3 y
    obtain ⟨σ4, k1, k2, _⟩ := pat_ok p d x τ2 τ3 σ2 r3 e4 (A2.t.mono (P3.imm A2.s) P3.pre)
    refine k1 _ ⟨ρ2, τ3, S2, o5, S5, ⟨P3.rel, k2⟩, e5, fun ρ6 H6 P6 => ?_⟩
    have PP := (P2.trans P3).trans P6
    have im' := (im.trans (P3.immL A2.s)).trans (P6.immL P3.rel)
    cases o5 with
    | nx τ6 => exact fun σ6 t6 => ⟨ρ6, τ6, S5, ⟨P6.rel, t6⟩, PP, pr.trans P6.pre, im', by omega, e2⟩
    | ct τ6 => exact fun σ6 t6 => ⟨ρ6, τ6, S5, ⟨P6.rel, t6⟩, PP, pr.trans P6.pre, im', by omega, e2⟩
    | bk τ6 => cases e2; exact fun σ6 t6 => k ρ6 H6 PP σ6 t6
    | rt d => cases e2; exact fun v r => k ρ6 H6 PP v r
    | ex c fs τ6 => cases e2; exact fun σ6 t6 => k ρ6 H6 PP σ6 t6
/-! comprehensions -/
def lcL (s : Src) (g : D → Tau → Option Tau) (t : EvT) (f : EvE) (τ : Tau) : Nat → Nat → List D → Sto → Option (List D × Sto)
  | 0, _, acc, S => if s.fin S then some (acc, S) else none
  | m + 1, i, acc, S => (s.get S i).bind fun d => (g d τ).bind fun τ1 => (t τ1 S).bind fun q => if q.1 then (f τ1 q.2).bind fun r => if acc.length ≤ 10000000 then lcL s g t f τ m (i + 1) (acc ++ [r.1]) r.2 else none
      else lcL s g t f τ m (i + 1) acc q.2
def lcE (fi : EvI) (p : Pat) (t : EvT) (f : EvE) (vs : List Nat) : EvE := fun τ S => (fi τ S).bind fun r => (lcL r.1 p.bind t f (wipeT τ vs) r.1.len 0 [] r.2).map fun q => newD (.lst q.1) q.2
def yesT : EvT := fun _ S => some (true, S)
theorem et_yes : PTs X [] (tT X.K yesT) := ⟨fun pins s σ H Q I q => pts_nil.run pins s σ H Q I (by
  obtain ⟨ρ, τ, S, d, S', A, e, k⟩ := q
  cases e
  exact k ρ H A.refl)⟩
theorem et_one {c : Expr} {f : EvT} (h : ET X c f) : PTs X [c] (tT X.K f) := pts_one h
/-- a list beside the store that is grown -/
theorem RelS.beside (R : RelS K ρ S H) {p : Addr} {xs ys : List V} (hp : p ∉ ρ) (h : H p = some (.lst xs)) : RelS K ρ S (upd H p (.lst ys)) ∧ Imm H (upd H p (.lst ys)) := by
  have im : Imm H (upd H p (.lst ys)) := ⟨fun a zs q => by
      have ne : a ≠ p := fun e => by rw [e, h] at q; cases q
      rw [upd_ne ne]; exact q, fun a o u _ q => by
      have ne : a ≠ p := fun e => by rw [e, h] at q; cases q
      rw [upd_ne ne]; exact q⟩
  refine ⟨⟨R.len, R.nd, fun n ob e => ?_⟩, im⟩
  obtain ⟨a, ha, q⟩ := R.obj n ob e
  have ne : a ≠ p := fun e => hp (by rw [← e]; exact List.mem_of_getElem? ha)
  exact ⟨a, ha, q.mono im List.prefix_rfl (upd_ne ne)⟩
/-- .. becomes an object of the store -/
theorem RelS.adopt (R : RelS K ρ S H) {p : Addr} {ds : List D} {xs : List V} (hp : p ∉ ρ) (h : H p = some (.lst xs)) (r : RelDs K ρ H ds xs) : RelS K (ρ ++ [p]) (S ++ [.lst ds]) H := by
  refine ⟨by simp [R.len], ?_, fun n ob e => ?_⟩
  · rw [List.nodup_append]
    refine ⟨R.nd, by simp, fun a ha b hb => ?_⟩
    simp at hb; subst hb
    exact fun e => hp (e ▸ ha)
  · rw [List.getElem?_append] at e
    split at e
    · obtain ⟨a, ha, q'⟩ := R.obj n ob e
      exact ⟨a, prefix_get (List.prefix_append _ _) ha, q'.mono (Imm.refl _) (List.prefix_append _ _) rfl⟩
    · rename_i hn
      have hn' : n = S.length := by
        cases hk : n - S.length with
        | zero => omega
        | succ k => rw [hk] at e; simp at e
      subst hn'
      simp at e; subst e
      exact ⟨p, by rw [← R.len]; simp, xs, h, r.mono (Imm.refl _) (List.prefix_append _ _)⟩
theorem lc_ok {fi : EvI} {p : Pat} {t : EvT} {f : EvE} {vs : List Nat} (hv : ∀ i ∈ p.slots, i ∈ vs) (σ : St) (H : Hp) (Q : VK) (q : tE K (lcE fi p t f vs) σ H Q) : tLc (tI K fi) (trP K p) (tT K t) (tE K f) vs σ H Q := by
  obtain ⟨ρ, τ, S, o, S', A, e, k⟩ := q
  obtain ⟨⟨s, S1⟩, e1, e⟩ := bindE e
  obtain ⟨⟨res, S2⟩, e2, e⟩ := Option.map_eq_some_iff.mp e
  simp only [newD, Prod.mk.injEq] at e
  obtain ⟨rfl, rfl⟩ := e
  refine ⟨ρ, τ, S, s, S1, A, e1, fun ρ1 J H1 P1 wk Dd hD => ?_⟩
  have A1 := A.go P1
  have P1' := A1.s.side hD (.lst [])
  have hDρ : Dd ∉ ρ1 := fun m => A1.s.ne_n m hD
  refine ⟨fun i m H2 => ∃ ρ2 S2' acc xs, RelS K ρ2 S2' H2 ∧ Post K ρ1 H1 ρ2 H2 S2' ∧ H2 Dd = some (.lst xs) ∧ Dd ∉ ρ2 ∧ RelDs K ρ2 H2 acc xs ∧ i + m = s.len ∧ lcL s p.bind t f (wipeT τ vs) m i acc S2' = some (res, S2),
    ⟨s.len, ρ1, S1, [], [], P1'.rel, P1', upd_same, hDρ, .nil, by omega, e2⟩, ?_⟩
  rintro i m H2 ⟨ρ2, S3, acc, xs, R2, P2, h2, hn2, q2, hl, e3⟩
  have im2 := P2.imm A1.s
  cases m with
  | zero =>
    simp only [lcL] at e3
    split at e3
    · rename_i hf; cases e3
      have hi : i = s.len := by omega
      subst hi
      refine .inl ⟨wk.stop ρ2 _ H2 R2 P2.pre (P2.immL A1.s) hf, ?_⟩
      have R3 := R2.adopt hn2 h2 q2
      refine k (ρ2 ++ [Dd]) _ H2 (P1.trans ⟨R3, P2.pre.trans (List.prefix_append _ _), fun a ob hna h => ?_, P2.lck⟩) (RelD.loc (by rw [← R2.len]; simp))
      obtain ⟨n1, h1⟩ := P2.keep a ob hna h
      refine ⟨?_, h1⟩
      rw [List.mem_append]; rintro (m | m)
      · exact n1 m
      · simp at m; rw [m, hD] at h; cases h
    · cases e3
  | succ m =>
    obtain ⟨d, e4, e3⟩ := bindE e3
    obtain ⟨τ4, e5, e3⟩ := bindE e3
    obtain ⟨⟨b, S5⟩, e6, e3⟩ := bindE e3
    obtain ⟨g1, g2⟩ := wk.go ρ2 S3 H2 i d R2 P2.pre (P2.immL A1.s) (by omega) e4
    refine .inr ⟨g1, fun H' => ∃ ρ2 S2' acc xs, RelS K ρ2 S2' H' ∧ Post K ρ1 H1 ρ2 H' S2' ∧ H' Dd = some (.lst xs) ∧ Dd ∉ ρ2 ∧ RelDs K ρ2 H' acc xs ∧ i + 1 + m = s.len ∧ lcL s p.bind t f (wipeT τ vs) m (i + 1) acc S2' = some (res, S2),
      fun H' q => ⟨m, Nat.lt_succ_self m, q⟩, fun x H3 y => ?_⟩
    obtain ⟨P3, r3⟩ := g2 x H3 y
    have im3 := P3.imm R2
    have T3 : RelT K ρ2 H3 (wipeT τ vs) (wipe σ vs) := ((A1.t.mono (im2.trans im3) (P2.pre.trans P3.pre)).wipe vs)
    obtain ⟨σ4, k1, k2, k3⟩ := pat_ok p d x _ τ4 _ r3 e5 T3
    obtain ⟨hn3, h3⟩ := P3.keep Dd _ hn2 h2
    refine k1 _ ⟨by rw [k3 vs hv]; exact wipe_wipe σ vs vs fun _ h => h, ρ2, τ4, S3, b, S5, ⟨P3.rel, k2⟩, e6, fun ρ6 H6 P6 => ?_⟩
    obtain ⟨hn6, h6⟩ := P6.keep Dd _ hn3 h3
    have P26 := (P2.trans P3).trans P6
    have im6 := im3.trans (P6.imm P3.rel)
    have pr6 := P3.pre.trans P6.pre
    cases b with
    | false => exact ⟨ρ6, S5, acc, xs, P6.rel, P26, h6, hn6, q2.mono im6 pr6, by omega, e3⟩
    | true =>
      rw [if_pos rfl] at e3 ⊢
      obtain ⟨⟨z, S7⟩, e7, e3⟩ := bindE e3
      split at e3
      · rename_i hl2
        refine ⟨ρ6, τ4, S5, z, S7, ⟨P6.rel, k2.mono (P6.imm P3.rel) P6.pre⟩, e7, fun ρ8 v8 H8 P8 r8 => ?_⟩
        obtain ⟨hn8, h8⟩ := P8.keep Dd _ hn6 h6
        have q8 := q2.mono (im6.trans (P8.imm P6.rel)) (pr6.trans P8.pre)
        have P28 := P26.trans P8
        obtain ⟨R9, im9⟩ := P8.rel.beside (ys := xs ++ [v8]) hn8 h8
        refine ⟨xs, h8, line_lt (by rw [q8.len]; exact hl2), ρ8, S7, acc ++ [z], xs ++ [v8], R9, ⟨R9, P28.pre, fun a ob hna h => ?_, fun a ob u h => by rw [upd_ne (fun e => by rw [e, hD] at h; cases h)]; exact P28.lck a ob u h⟩, upd_same, hn8, (q8.app (.one r8)).mono im9 List.prefix_rfl, by omega, e3⟩
        obtain ⟨n1, h1⟩ := P28.keep a ob hna h
        have ne : a ≠ Dd := fun e => by rw [e, hD] at h; cases h
        exact ⟨n1, by rw [upd_ne ne]; exact h1⟩
      · cases e3
theorem ee_lc {elt tg iter : Expr} {ifs : List Expr} {scope : Scope} {own : List (Str × Nat)} {pos : Pos} {fi : EvI} {p : Pat} {t : EvT} {f : EvE} (hc : X.calm = true) (hN : X.N.Nodup) (hi : EI X tg iter fi) (ok : BlkOk X.N X.env.scope scope own) (hv : ∀ i ∈ p.slots, i ∈ own.map (·.2))
    (hg : ∀ (s : Shared) (H : Hp) (C : Addr) (cl : List (Str × Addr)) (fp : List Addr), PG (X.blk s H scope (compEnvC scope cl C X.env) fp) tg (trP X.K p)) (ht : ∀ (s : Shared) (H : Hp) (C : Addr) (cl : List (Str × Addr)) (fp : List Addr), PTs (X.blk s H scope (compEnvC scope cl C X.env) fp) ifs (tT X.K t))
    (he : ∀ (s : Shared) (H : Hp) (C : Addr) (cl : List (Str × Addr)) (fp : List Addr), PE (X.blk s H scope (compEnvC scope cl C X.env) fp) elt (tE X.K f)) (hs : ∀ x, foldedSetIterable iter X.env x = pure x := by intro _; rfl) :
    EE X (.ListComp elt [⟨tg, iter, ifs, 0⟩] scope pos) (lcE fi p t f (own.map (·.2))) := wkE (pe_lc hc hN hi ok hg ht he hs) fun σ H Q q => lc_ok hv σ H Q q
theorem es_setLc {i : Nat} {y : Str} {py : Pos} {elt tg iter : Expr} {ifs : List Expr} {scope : Scope} {own : List (Str × Nat)} {pos spos : Pos} {fi : EvI} {p : Pat} {t : EvT} {f : EvE} (hc : X.calm = true) (hN : X.N.Nodup) (hy : X.N[i]? = some y) (hyl : X.env.scope.names.lookup y = some .local)
    (hsw : swapsWith (.ListComp elt [⟨tg, iter, ifs, 0⟩] scope pos) (some (.Name y py)) spos.line X.env = pure true) (hi : EI X tg iter fi) (ok : BlkOk X.N X.env.scope scope own) (hv : ∀ i ∈ p.slots, i ∈ own.map (·.2))
    (hg : ∀ (s : Shared) (H : Hp) (C : Addr) (cl : List (Str × Addr)) (fp : List Addr), PG (X.blk s H scope (compEnvC scope cl C X.env) fp) tg (trP X.K p)) (ht : ∀ (s : Shared) (H : Hp) (C : Addr) (cl : List (Str × Addr)) (fp : List Addr), PTs (X.blk s H scope (compEnvC scope cl C X.env) fp) ifs (tT X.K t))
    (he : ∀ (s : Shared) (H : Hp) (C : Addr) (cl : List (Str × Addr)) (fp : List Addr), PE (X.blk s H scope (compEnvC scope cl C X.env) fp) elt (tE X.K f)) (hs : ∀ x, foldedSetIterable iter X.env x = pure x := by intro _; rfl) :
    ES W X (.Assign [.Name y py] (.ListComp elt [⟨tg, iter, ifs, 0⟩] scope pos) spos) (stS i (lcE fi p t f (own.map (·.2)))) := wkS (ps_setLc hc hN hy hyl hsw hi ok hg ht he hs) fun D σ H q => by
  have h : tAsg (tE X.K (lcE fi p t f (own.map (·.2)))) (tG X.K (patG (.nm i))) D σ H := asS_ok (fun _ _ _ z => z) q
  exact lc_ok hv σ H _ (tE_mono σ H _ _ (fun v H' q => nameG q) h)
end
end SW
/-! enumerate over a tuple, in a for: as the layer's own turn_enum, over Draws. -/
namespace SW
open PySem L2 PyProof.Rows

set_option maxHeartbeats 1000000 in
theorem meets_enum1 {v : Value} {o : Obj} {H : Heap → Prop} (B : Begins v o H) :
    Meets (Builtin.«enumerate.__new__» ⟨[.type "enumerate", v], []⟩) (fun _ R s => H s.heap ∧
      R (.ok (.ret (.ref (s.heap.push o).objs.size))) { s with heap := (s.heap.push o).push { cls := .type "enumerate", data := .fields #[.none, .bool false, .ref s.heap.objs.size, rawInt 0, .none, .none] } }) :=
  .of_wp fun prog w A R s h => by
    obtain ⟨hp, g, d, tk, os⟩ := s; obtain ⟨h1, h⟩ := h
    have hsub := sub_enumerate
    have q1 : ∀ {A' : Around} {E : Value → Shared → Prop} {Q : Value → Shared → Prop}, Q (.ref hp.objs.size) ⟨hp.push o, g, d, tk, os⟩ → wpAny (model prog w) A' (pyIter v) Q E ⟨hp, g, d, tk, os⟩ :=
      fun q => B.iter prog w _ _ ⟨hp, g, d, tk, os⟩ _ h1 q
    wp_walk using q1
    refine wpAny_stack_any fun st => wpAny_pure ?_
    split
    · rename_i c _ _ _ _ _
      cases (c == Value.type "enumerate")
      · wp_walk using q1
        exact ⟨_, rfl, h⟩
      · wp_walk using q1
        exact ⟨_, rfl, h⟩
    · wp_walk using q1
      exact ⟨_, rfl, h⟩
section
variable {prog : Program} {w : World} {A : Around} {E : Value → Shared → Prop} {s : Shared}
theorem enum_begins1 {v : Value} {o : Obj} {H : Heap → Prop} {Q : Value → Shared → Prop} (B : Begins v o H) (h1 : H s.heap)
    (h : ∀ h', IsEnum h' (s.heap.objs.size + 1) s.heap.objs.size 0 .none → h'.get? s.heap.objs.size = some o → h'.objs.size = s.heap.objs.size + 2 →
      (∀ b o, s.heap.get? b = some o → h'.get? b = some o) → Q (.ref (s.heap.objs.size + 1)) { s with heap := h' }) :
    wpAny (model prog w) A (call (.type "enumerate") [v]) Q E s := by
  refine callType_new F.called_enumerate (by decide) (F.typeCall_enumerate_1 _) (F.newCall_enumerate_1 _) (fun obj => F.args_object_init_2 obj _) F.entry_enumerate_new
    (meets_enum1 B) ⟨h1, ?_⟩
  have hz : (s.heap.push o).objs.size = s.heap.objs.size + 1 := Heap.size_push ..
  show _ ∧ _
  rw [hz]
  have he : IsEnum ((s.heap.push o).push { cls := .type "enumerate", data := .fields #[.none, .bool false, .ref s.heap.objs.size, rawInt 0, .none, .none] }) (s.heap.objs.size + 1) s.heap.objs.size 0 .none := by
    have := Heap.get?_push_size (s.heap.push o) (o := { cls := .type "enumerate", data := .fields #[.none, .bool false, .ref s.heap.objs.size, rawInt 0, .none, .none] }) rfl
    rw [hz] at this; exact this
  refine ⟨⟨_, he, rfl⟩, h _ he (Heap.get?_push_of_some _ (Heap.get?_push_size _ B.free)) (by rw [Heap.size_push, hz]) fun b o x => Heap.get?_push_of_some _ (Heap.get?_push_of_some _ x)⟩
end

theorem pyNext_enumT_end {prog : Program} {w : World} {A : Around} {E : Value → Shared → Prop} {s : Shared} {e it l : Addr} {i : Nat} {items : Array Value} {old : Value} {Q : Option Value → Shared → Prop} (hh : A.handled = none)
    (he : IsEnum s.heap e it i old) (hit : s.heap.IsTupleIter it l i) (hl : s.heap.IsTuple l items) (hx : items[i]? = none)
    (hQ : ∀ h', Heap.ExtBut it s.heap h' → Q none { s with heap := h' }) : wpAny (model prog w) A (pyNext (.ref e)) Q E s := by
  have hT : s.TypeIs (.ref e) "enumerate" := ⟨_, he, rfl⟩
  unfold pyNext
  refine wpAny_bind (wpAny_attempt (wpAny_callSpecial?_slot (name := Str.ofString "__next__") hT F.slot_enumerate_next
    (wpAny_call_entry F.slot_enumerate_next hT F.entry_enumerate_next ?_ (F.args_enumerate_next_1 _))))
  show wpAny _ _ (field (.ref e) 2 >>= _) _ _ _
  refine wpAny_bind (wpAny_field he rfl (x := .ref it) rfl ?_)
  refine wpAny_bind (wpAny_nextOf_tuple_end hh hit hl hx fun h' x he' hx' => ?_)
  obtain ⟨o, ho, hc⟩ := hx'
  refine wpAny_bind (wpAny_isInstance (T := "StopIteration") (b := true) ⟨o, ho, hc⟩ isSubtype_stop ?_)
  exact wpAny_pure (hQ _ he')
/-- the tuple at a, its items with their places in new pairs -/
def IteT (K : PySem.W.Frag) (a : Addr) : It :=
  ⟨fun i H => ∃ (xs : List V) (x : V), SqT K H a xs ∧ xs[i]? = some x, fun i H v H' => ∃ T x, v = .ref T ∧ H T = none ∧ H' = upd H T (.tup [.int (i : Nat), x]) ∧ ∀ xs, SqT K H a xs → xs[i]? = some x, fun i H => ∃ xs : List V, SqT K H a xs ∧ xs.length ≤ i⟩
theorem turn_enumT {P : Program} {w : World} {K : PySem.W.Frag} {elts : List Expr} {kk : Nat} {tpos : Pos} (a e it : Addr) (hai : a ≠ it) :
    Turn P w K (.Tuple elts kk tpos) (IteT K a) [e, it] e (fun i h => (∃ old, IsEnum h e it ((i : Nat) : Int) old) ∧ h.IsTupleIter it a i ∧ e ≠ it) where
  mem := by simp
  obj := fun i h st b hb => by
    obtain ⟨⟨old, he⟩, ⟨o, ho, hc, hd⟩, _⟩ := st
    have e' : b = e ∨ b = it := by simpa using hb
    rcases e' with z | z
    · rw [z]; exact ⟨_, he, fun v q => nomatch q⟩
    · rw [z]; exact ⟨o, ho, fun v q => by rw [hd] at q; cases q⟩
  keep := fun i h h' st k => let ⟨⟨old, he⟩, hi, hne⟩ := st; ⟨⟨old, k e (by simp) _ he⟩, hi.at fun o q => k it (by simp) o q, hne⟩
  item := by
    intro X hP hw hK hc i pins s σ H E I hf st hg
    subst hP hw hK
    obtain ⟨⟨old, he⟩, hit, hne⟩ := st
    obtain ⟨xs, x, hq, hx⟩ := hg
    obtain ⟨its, rv, p, hz⟩ := I.tuple hq
    obtain ⟨u, hu, ru⟩ := rv.get hx
    have hel : e < s.heap.objs.size := Heap.lt_size he
    have hil : it < s.heap.objs.size := by obtain ⟨_, q, _⟩ := hit; exact Heap.lt_size q
    have hea : e ≠ a := fun z => by
      obtain ⟨o, ho, hc', _⟩ := p
      rw [← z, he] at ho; cases ho
      exact absurd (Value.type.inj hc') (by decide)
    have hlt : i < its.toArray.size := by
      have := (List.getElem?_eq_some_iff.mp hu).1; simpa using this
    refine wpAny_pyNext_enum_itemD (Draws.tuple (A := X.A.in1) (by exact I.ok.hd hc) it a hai its.toArray) he ⟨hit, p⟩ hlt hne (by simp [hne, hea]) fun y h' tk hy ho hst hT hsz hk => ?_
    obtain ⟨hit', _⟩ := hst
    have hy' : y = u := by
      have h2 : its.toArray[i]? = some u := by simpa using hu
      rw [h2] at hy; exact (Option.some.inj hy).symm
    subst hy'
    refine ⟨_, rfl, wpAny_letOwnedTupleGo_enum (s := { s with heap := h', toks := tk + 1 }) ho fun h'' he' sb => ?_⟩
    have hT2 : h''.get? s.heap.objs.size = some { cls := .type "tuple", data := .seq #[.int i tk, y] } := (sb.2 _ (Nat.ne_of_gt hel)).trans hT
    have new : ObjOk X.prog X.w (upd H s.heap.objs.size (.tup [.int (i : Nat), x])) h'' s.heap.objs.size (.tup [.int (i : Nat), x]) :=
      ⟨by show 2 ≤ sizeLine; decide, [.int i tk, y], .cons ⟨_, rfl⟩ (.cons ru .nil), ⟨_, hT2, rfl, _, rfl⟩⟩
    have I1 : Inv X pins σ (upd H s.heap.objs.size (.tup [.int (i : Nat), x])) { s with heap := h'', toks := tk + 1 } :=
      I.turnedNew (ch := [e, it]) (fun b ob hb q => (sb.2 b (fun z => hb (by simp [z]))).trans (hk b ob (fun z => hb (by simp [z])) (fun z => hb (by simp [z])) q)) hf (Nat.le_refl _) new
    refine ⟨.ref s.heap.objs.size, _, I1, rfl, ⟨_, x, rfl, I.hok.fresh (Nat.le_refl _), rfl, fun ys hy => by rw [I.tuple_inj hy hq]; exact hx⟩, ⟨⟨y, ?_⟩, hit'.at fun o q => (sb.2 it (Ne.symm hne)).trans q, hne⟩, fun b hb => ?_⟩
    · have e1 : ((i + 1 : Nat) : Int) = (i : Int) + 1 := by omega
      rw [e1]; exact he'
    · have hb' : b < s.heap.objs.size := by
        have e' : b = e ∨ b = it := by simpa using hb
        rcases e' with z | z
        · rw [z]; exact hel
        · rw [z]; exact hil
      rw [upd_ne (Nat.ne_of_lt hb')]
      exact (hf b hb).1
  done := by
    intro X hP hw hK hc i pins s σ H E I hf st hg
    subst hP hw hK
    obtain ⟨⟨old, he⟩, hit, hne⟩ := st
    obtain ⟨xs, hq, hx⟩ := hg
    obtain ⟨its, rv, p, hz⟩ := I.tuple hq
    obtain ⟨f0, f1, f2, f3, f4, f5⟩ := hf it (by simp)
    have hl := rv.length
    exact pyNext_enumT_end (I.ok.hd hc) he hit p (by simp; omega) fun h' eb => ⟨rfl, I.turned (t' := s.toks) (fun b o hb q => eb b o hb q) f0 f1 f3 f4 f5⟩
  self := fun A i s Q E st h => let ⟨⟨_, he⟩, _⟩ := st; wpAny_pyIter_enum he h
def iEnumT (K : PySem.W.Frag) (ta : TA) : TI := fun σ H R => ta σ H fun vs H1 => ∃ a xs, vs = [.ref a] ∧ SqT K H1 a xs ∧ R (IteT K a) H1
theorem pi_enumT {X : Cx} {e : Expr} {ta : TA} {p pos tpos : Pos} {elts : List Expr} {kk : Nat} (hg : Gl X "enumerate") (hm : X.mg "enumerate" = none) (ha : PA X [e] ta) (hs : starEach [e] X.env = [(false, eval e X.env)] := by rfl) :
    PI X (.Tuple elts kk tpos) (.Call (.Name "enumerate" p) [e] [] pos) (iEnumT X.K ta) := by
  refine ⟨fun pins s σ H R I h => ?_⟩
  refine Call_ (ld_blt I hg hm boot_enumerate (PyProof.Rows.callWith_type1 (thn (ha.run pos pins s σ H _ I h) fun us s1 ⟨vs, H1, I1, r1, q1⟩ => ?_) hs rfl))
  obtain ⟨a, xs, ex, hq, q⟩ := q1
  subst ex
  cases r1 with
  | cons r rr =>
    cases rr
    cases r
    obtain ⟨its, rv, p', hz⟩ := I1.tuple hq
    refine enum_begins1 (begins_tuple a its.toArray) p' fun h' he hit hsz hk => wpAny_pyIter_enum he ?_
    have I2 : Inv X pins σ H1 { s1 with heap := h' } := I1.kept (t' := s1.toks) hk
    have hal : a ≠ s1.heap.objs.size := Nat.ne_of_lt (by obtain ⟨_, q, _⟩ := p'; exact Heap.lt_size q)
    refine ⟨s1.heap.objs.size + 1, [s1.heap.objs.size + 1, s1.heap.objs.size], _, _, H1, rfl, I2, turn_enumT a (s1.heap.objs.size + 1) s1.heap.objs.size hal, ⟨⟨.none, he⟩, ⟨_, hit, rfl, rfl⟩, Nat.succ_ne_self _⟩, fun b hb => ?_, q⟩
    have e' : b = s1.heap.objs.size + 1 ∨ b = s1.heap.objs.size := by simpa using hb
    have hle : s1.heap.objs.size ≤ b := by
      rcases e' with z | z
      · rw [z]; exact Nat.le_add_right _ _
      · rw [z]; exact Nat.le_refl _
    exact I1.fpOk hle (I1.hok.fresh hle)
end SW
namespace SW
open PySem L2

section
variable {X : Cx} {K : PySem.W.Frag} {ρ ρ' : List Addr} {S S' : Sto} {H H' : Hp} {τ : Tau} {σ : St} {tg e : Expr}
/-! ### slices -/
def tO (K : PySem.W.Frag) (f : Tau → Sto → Option (Option Int × Sto)) : TO := fun σ H Q => ∃ ρ τ S d S', At K ρ τ S σ H ∧ f τ S = some (d, S') ∧ ∀ ρ' H', Post K ρ H ρ' H' S' → Q d H'
abbrev EvO := Tau → Sto → Option (Option Int × Sto)
def noO : EvO := fun _ S => some (none, S)
def someO (f : EvE) : EvO := fun τ S => (f τ S).bind fun p => match p.1 with | .int i => some (some i, p.2) | _ => none
theorem eo_none : PO X none (tO X.K noO) := ⟨fun pins s σ H Q I q => po_none.run pins s σ H Q I (by
  obtain ⟨ρ, τ, S, d, S', A, e, k⟩ := q
  cases e
  exact k ρ H A.refl)⟩
theorem eo_some {f : EvE} (h : EE X e f) : PO X (some e) (tO X.K (someO f)) := ⟨fun pins s σ H Q I q => (po_some h).run pins s σ H Q I (by
  obtain ⟨ρ, τ, S, d, S', A, e, k⟩ := q
  obtain ⟨⟨x, S1⟩, e1, e⟩ := bindE e
  refine goE A e1 fun ρ1 v1 H1 A1 P1 r1 => ?_
  cases x <;> cases e
  exact ⟨_, r1.int_, k _ _ P1⟩)⟩
def cutD (xs : List D) (lo hi : Option Int) : List D := (xs.drop (HT.sIx xs.length 0 lo)).take (HT.sIx xs.length xs.length hi - HT.sIx xs.length 0 lo)
theorem cut_rel {ds : List D} {xs : List V} (q : RelDs K ρ H ds xs) (lo hi : Option Int) : RelDs K ρ H (cutD ds lo hi) (cutV xs lo hi) := by
  unfold cutD cutV
  rw [q.len]
  exact (q.drop _).take _
def slD (x : D) (lo hi : Option Int) (S : Sto) : Option (D × Sto) := match x with
  | .tup ds => some (.tup (cutD ds lo hi), S)
  | .fl ds => some (newD (.lst (cutD ds lo hi)) S)
  | .loc n => match S[n]? with
    | some (.lst ds) => some (newD (.lst (cutD ds lo hi)) S)
    | _ => none
  | _ => none
def slE (f : EvE) (a b : EvO) : EvE := fun τ S => (f τ S).bind fun p => (a τ p.2).bind fun q => (b τ q.2).bind fun r => slD p.1 q.1 r.1 r.2
theorem ee_slice {lo hi : Option Expr} {f : EvE} {a b : EvO} {p2 pos : Pos} (he : EE X e f) (hl : PO X lo (tO X.K a)) (hh : PO X hi (tO X.K b)) : EE X (.Subscript e (.Slice lo hi none p2) pos) (slE f a b) :=
  wkE (pe_slice (sl_list.or sl_tupA) he hl hh) fun σ H Q q => by
    obtain ⟨ρ, τ, S, d, S', A, e, k⟩ := q
    obtain ⟨⟨x, S1⟩, e1, e⟩ := bindE e
    obtain ⟨⟨l, S2⟩, e2, e⟩ := bindE e
    obtain ⟨⟨h, S3⟩, e3, e⟩ := bindE e
    refine goE A e1 fun ρ1 v1 H1 A1 P1 r1 => ⟨ρ1, τ, S1, l, S2, A1, e2, fun ρ2 H2 P2 => ?_⟩
    have A2 := A1.go P2
    refine ⟨ρ2, τ, S2, h, S3, A2, e3, fun ρ3 H3 P3 => ?_⟩
    have A3 := A2.go P3
    have P13 := P2.trans P3
    have r3 := r1.mono (P13.imm A1.s) P13.pre
    have PP := P1.trans P13
    cases x <;> simp only [slD] at e <;> try cases e
    · obtain ⟨c, xs, rfl, hc, q⟩ := r3.tup_
      have cr := cut_rel q l h
      refine .inr ⟨c, xs, rfl, SqT.of hc, fun w => ?_, fun w p hp => ?_⟩
      · refine k ρ3 _ H3 PP (RelD.tup hc ?_)
        have : cutV xs l h = xs := by
          unfold cutV
          rw [w.1, w.2]; simp
        rw [this] at cr; exact cr
      · obtain ⟨P, r⟩ := A3.s.new_tup hp cr
        exact k _ _ _ (PP.trans P) r
    · obtain ⟨c, xs, rfl, hc, q⟩ := r3.fl_
      refine .inl ⟨c, xs, rfl, hc.sqL, fun p hp => ?_⟩
      obtain ⟨P, r⟩ := new_lst A3.s hp (cut_rel q l h)
      exact k _ _ _ (PP.trans P) r
    · split at e
      · rename_i ds eo; cases e
        obtain ⟨c, xs, rfl, _, hc, q⟩ := A3.s.lst eo r3
        refine .inl ⟨c, xs, rfl, SqL.of hc, fun p hp => ?_⟩
        obtain ⟨P, r⟩ := new_lst A3.s hp (cut_rel q l h)
        exact k _ _ _ (PP.trans P) r
      · cases e

/-! ### built-in functions -/
theorem ee_cb {es : List Expr} {e0 : Expr} {id : String} {x : Str} {r : List V → Hp → VK → Prop} {g : List D → Sto → Option (D × Sto)} {fa : EvA} {p pos : Pos} (hc : CallR X (.builtin id) r) (hg : OpA X.K r g) (hgl : Gl X x) (hm : X.mg x = none) (hv : bootBuiltins x = some (.builtin id)) (ha : EA X (e0 :: es) fa) (hn : x ≠ "__name__" := by decide) (hdb : (x == ("__debug__" : Str)) = false := by decide)
    (he : starEach (e0 :: es) X.env = (false, eval e0 X.env) :: starEach es X.env := by rfl) (hpl : (backTo pos (starEach es X.env)).any (·.1) = false := by rfl) : EE X (.Call (.Name x p) (e0 :: es) [] pos) (aE g fa) :=
  wkE (pe_callB hc hgl hm hv ha hn hdb he hpl) fun σ H Q q => by
    obtain ⟨ρ, τ, S, d, S', A, e, k⟩ := q
    obtain ⟨⟨x, S1⟩, e1, e⟩ := bindE e
    exact goA A e1 fun ρ1 v1 H1 A1 P1 r1 => hg ρ1 S1 H1 x v1 d S' A1.s r1 e Q fun ρ3 u H3 P3 r3 => k ρ3 u H3 (P1.trans P3) r3
theorem ee_ct {es : List Expr} {e0 : Expr} {T : String} {x : Str} {r : List V → Hp → VK → Prop} {g : List D → Sto → Option (D × Sto)} {fa : EvA} {p pos : Pos} (hc : CallR X (.type T) r) (hg : OpA X.K r g) (hgl : Gl X x) (hm : X.mg x = none) (hv : bootBuiltins x = some (.type T)) (ha : EA X (e0 :: es) fa) (hn : x ≠ "__name__" := by decide) (hdb : (x == ("__debug__" : Str)) = false := by decide)
    (he : starEach (e0 :: es) X.env = (false, eval e0 X.env) :: starEach es X.env := by rfl) (hpl : (backTo pos (starEach es X.env)).any (·.1) = false := by rfl) : EE X (.Call (.Name x p) (e0 :: es) [] pos) (aE g fa) :=
  wkE (pe_callTy hc hgl hm hv ha hn hdb he hpl) fun σ H Q q => by
    obtain ⟨ρ, τ, S, d, S', A, e, k⟩ := q
    obtain ⟨⟨x, S1⟩, e1, e⟩ := bindE e
    exact goA A e1 fun ρ1 v1 H1 A1 P1 r1 => hg ρ1 S1 H1 x v1 d S' A1.s r1 e Q fun ρ3 u H3 P3 r3 => k ρ3 u H3 (P1.trans P3) r3
theorem RelDs.one_ {d : D} {vs : List V} (h : RelDs K ρ H [d] vs) : ∃ v, vs = [v] ∧ RelD K ρ H d v := by
  simp only [RelDs] at h
  obtain ⟨x, ys, rfl, r, rfl⟩ := h
  exact ⟨x, rfl, r⟩
theorem RelDs.two_ {d e : D} {vs : List V} (h : RelDs K ρ H [d, e] vs) : ∃ v w, vs = [v, w] ∧ RelD K ρ H d v ∧ RelD K ρ H e w := by
  simp only [RelDs] at h
  obtain ⟨x, ys, rfl, r, y, zs, rfl, r2, rfl⟩ := h
  exact ⟨x, y, rfl, r, r2⟩
/-- what a list or a tuple holds -/
def itemsOf (d : D) (S : Sto) : Option (List D) := match d with
  | .tup ds => some ds
  | .fl ds => some ds
  | .loc n => match S[n]? with
    | some (.lst ds) => some ds
    | _ => none
  | _ => none
theorem itemsOf_rel (R : RelS K ρ S H) {d : D} {v : V} {ds : List D} (r : RelD K ρ H d v) (e : itemsOf d S = some ds) :
    ∃ a xs, v = .ref a ∧ RelDs K ρ H ds xs ∧ ((SqL K H a xs ∧ ∀ es, d ≠ .tup es) ∨ (SqT K H a xs ∧ d = .tup ds)) := by
  cases d <;> simp only [itemsOf] at e <;> try cases e
  · obtain ⟨a, xs, rfl, h, q⟩ := r.tup_
    exact ⟨a, xs, rfl, q, .inr ⟨SqT.of h, rfl⟩⟩
  · obtain ⟨a, xs, rfl, h, q⟩ := r.fl_
    exact ⟨a, xs, rfl, q, .inl ⟨h.sqL, fun _ => nofun⟩⟩
  · split at e
    · rename_i es eo; cases e
      obtain ⟨a, xs, rfl, _, h, q⟩ := R.lst eo r
      exact ⟨a, xs, rfl, q, .inl ⟨SqL.of h, fun _ => nofun⟩⟩
    · cases e
def lenD (as : List D) (S : Sto) : Option (D × Sto) := match as with
  | [.str x] => if x.length ≤ 10000000 then some (.int x.length, S) else none
  | [.loc n] => match S[n]? with
    | some (.lst ds) => some (.int ds.length, S)
    | some (.dK kvs) => some (.int kvs.length, S)
    | some (.dT kvs) => some (.int kvs.length, S)
    | some (.dN kvs) => some (.int kvs.length, S)
    | _ => none
  | [.tup ds] => some (.int ds.length, S)
  | [.fl ds] => some (.int ds.length, S)
  | _ => none
def rLenN : List V → Hp → VK → Prop := fun xs H Q => ∃ p ns, xs = [.ref p] ∧ DN H p ns ∧ Q (.int ns.length) H
theorem call_len_dN {X : Cx} : CallR X (.builtin "len") rLenN := by
  intro pins s σ H xs us Q I r h
  obtain ⟨p, ns, rfl, D, q⟩ := h
  obtain ⟨u, rfl, rx⟩ := vals1 r
  obtain rfl : u = .ref p := rx
  exact n_len I D fun t s' I' => ⟨.int ((ns.length : Nat) : Int), H, I', ⟨_, rfl⟩, q⟩
def rLenE (K : PySem.W.Frag) : List V → Hp → VK → Prop := fun xs H Q => (∃ x n, xs = [x] ∧ LenV K x H n ∧ Q (.int n) H) ∨ ((∃ p kvs, xs = [.ref p] ∧ H p = some (.dK kvs) ∧ Q (.int kvs.length) H) ∨ (rLenT xs H Q ∨ rLenN xs H Q))

theorem opr_len : CallR X (.builtin "len") (rLenE X.K) := orC call_len (orC call_lenD (orC call_len_dT call_len_dN))
theorem opa_len : OpA K (rLenE K) lenD := fun ρ S H x v d S' R r e Q k => by
  unfold lenD at e
  split at e
  · split at e
    · rename_i hl; cases e
      obtain ⟨w, rfl, q⟩ := r.one_
      rw [q.str_]
      exact .inl ⟨_, _, rfl, ⟨line_of hl, rfl⟩, kRefl R k (RelD.int _)⟩
    · cases e
  · obtain ⟨w, rfl, q⟩ := r.one_
    split at e
    · rename_i ds eo; cases e
      obtain ⟨a, xs, rfl, _, h, q⟩ := R.lst eo q
      exact .inl ⟨_, _, rfl, .inl ⟨xs, SqL.of h, q.len.symm⟩, kRefl R k (RelD.int _)⟩
    · rename_i ds eo; cases e
      obtain ⟨a, xs, rfl, _, h, q⟩ := R.dK eo q
      exact .inr (.inl ⟨a, xs, rfl, h, by rw [q.len]; exact kRefl R k (RelD.int _)⟩)
    · rename_i ds eo; cases e
      obtain ⟨a, xs, rfl, _, h, q⟩ := R.dT eo q
      exact .inr (.inr (.inl ⟨a, xs, rfl, h, by rw [q.len]; exact kRefl R k (RelD.int _)⟩))
    · rename_i ds eo; cases e
      obtain ⟨a, xs, rfl, _, h, q⟩ := R.dN eo q
      exact .inr (.inr (.inr ⟨a, xs, rfl, q.dn (.inl h), by rw [q.len]; exact kRefl R k (RelD.int _)⟩))
    · cases e
  · obtain ⟨w, rfl, q⟩ := r.one_
    cases e
    obtain ⟨a, xs, rfl, h, q⟩ := q.tup_
    exact .inl ⟨_, _, rfl, .inr ⟨xs, SqT.of h, q.len.symm⟩, kRefl R k (RelD.int _)⟩
  · obtain ⟨w, rfl, q⟩ := r.one_
    cases e
    obtain ⟨a, xs, rfl, h, q⟩ := q.fl_
    exact .inl ⟨_, _, rfl, .inl ⟨xs, h.sqL, q.len.symm⟩, kRefl R k (RelD.int _)⟩
  · cases e
def absD (as : List D) (S : Sto) : Option (D × Sto) := match as with
  | [.int i] => some (.int (if i < 0 then -i else i), S)
  | _ => none
theorem opa_abs : OpA K (fun xs H Q => ∃ i, xs = [.int i] ∧ Q (.int (if i < 0 then -i else i)) H) absD := fun ρ S H x v d S' R r e Q k => by
  unfold absD at e
  split at e
  · cases e
    obtain ⟨w, rfl, q⟩ := r.one_
    exact ⟨_, by rw [q.int_], kRefl R k (RelD.int _)⟩
  · cases e
def max2D (as : List D) (S : Sto) : Option (D × Sto) := match as with
  | [.int i, .int j] => some (.int (if j > i then j else i), S)
  | _ => none
theorem opa_max2 : OpA K (fun xs H Q => ∃ i j, xs = [.int i, .int j] ∧ Q (.int (if j > i then j else i)) H) max2D := fun ρ S H x v d S' R r e Q k => by
  unfold max2D at e
  split at e
  · cases e
    obtain ⟨w, w2, rfl, q, q2⟩ := r.two_
    exact ⟨_, _, by rw [q.int_, q2.int_], kRefl R k (RelD.int _)⟩
  · cases e
def min2D (as : List D) (S : Sto) : Option (D × Sto) := match as with
  | [.int i, .int j] => some (.int (if j < i then j else i), S)
  | _ => none
theorem opa_min2 : OpA K (fun xs H Q => ∃ i j, xs = [.int i, .int j] ∧ Q (.int (if j < i then j else i)) H) min2D := fun ρ S H x v d S' R r e Q k => by
  unfold min2D at e
  split at e
  · cases e
    obtain ⟨w, w2, rfl, q, q2⟩ := r.two_
    exact ⟨_, _, by rw [q.int_, q2.int_], kRefl R k (RelD.int _)⟩
  · cases e
def intD (as : List D) (S : Sto) : Option (D × Sto) := match as with
  | [.int i] => some (.int i, S)
  | [.bl b] => some (.int (if b then 1 else 0), S)
  | _ => none
theorem opa_int : OpA K (fun xs H Q => (∃ i, xs = [.int i] ∧ Q (.int i) H) ∨ ∃ k, xs = [.bl k] ∧ Q (.int (if k then 1 else 0)) H) intD := fun ρ S H x v d S' R r e Q k => by
  unfold intD at e
  split at e
  · cases e
    obtain ⟨w, rfl, q⟩ := r.one_
    exact .inl ⟨_, by rw [q.int_], kRefl R k (RelD.int _)⟩
  · cases e
    obtain ⟨w, rfl, q⟩ := r.one_
    exact .inr ⟨_, by rw [q.bl_], kRefl R k (RelD.int _)⟩
  · cases e
def divmodD (as : List D) (S : Sto) : Option (D × Sto) := match as with
  | [.int i, .int j] => if 0 < j ∧ j < 1073741824 then some (.tup [.int (i / j), .int (i % j)], S) else none
  | _ => none
/-- what a list holds -/
def lsOf (d : D) (S : Sto) : Option (List D) := match d with
  | .fl ds => some ds
  | .loc n => match S[n]? with
    | some (.lst ds) => some ds
    | _ => none
  | _ => none
theorem lsOf_rel (R : RelS K ρ S H) {d : D} {v : V} {ds : List D} (r : RelD K ρ H d v) (e : lsOf d S = some ds) :
    ∃ a xs, v = .ref a ∧ RelDs K ρ H ds xs ∧ SqL K H a xs := by
  cases d <;> simp only [lsOf] at e <;> try cases e
  · obtain ⟨a, xs, rfl, h, q⟩ := r.fl_
    exact ⟨a, xs, rfl, q, h.sqL⟩
  · split at e
    · rename_i es eo; cases e
      obtain ⟨a, xs, rfl, _, h, q⟩ := R.lst eo r
      exact ⟨a, xs, rfl, q, SqL.of h⟩
    · cases e
def sumD (as : List D) (S : Sto) : Option (D × Sto) := match as with
  | [x] => (lsOf x S).bind fun ds => (intsOf ds).map fun (ns : List Int) => (.int ns.sum, S)
  | _ => none
theorem opa_sum : OpA K (rSum K) sumD := fun ρ S H x v d S' R r e Q k => by
  unfold sumD at e
  split at e
  · rename_i x
    obtain ⟨w, rfl, q⟩ := r.one_
    obtain ⟨ds, e1, e⟩ := bindE e
    obtain ⟨ns, e2, e⟩ := Option.map_eq_some_iff.mp e
    cases e
    obtain ⟨a, xs, rfl, q1, h⟩ := lsOf_rel R q e1
    rw [intsOf_rel q1 e2] at h
    exact ⟨a, ns, rfl, h, kRefl R k (RelD.int _)⟩
  · cases e
def blsOf : List D → Option (List Bool)
  | [] => some []
  | .bl i :: ds => (blsOf ds).map (i :: ·)
  | _ => none
theorem blsOf_rel {ds : List D} : ∀ {xs : List V} {ns : List Bool}, RelDs K ρ H ds xs → blsOf ds = some ns → xs = ns.map V.bl := by
  induction ds with
  | nil => intro xs ns r e; cases e; simp only [RelDs] at r; subst r; rfl
  | cons d ds ih =>
    intro xs ns r e
    cases d with
    | bl i =>
      simp only [blsOf, Option.map_eq_some_iff] at e
      obtain ⟨ns, e, rfl⟩ := e
      simp only [RelDs] at r
      obtain ⟨x, ys, rfl, r1, r2⟩ := r
      rw [r1.bl_, ih r2 e]; rfl
    | _ => cases e
def allD (as : List D) (S : Sto) : Option (D × Sto) := match as with
  | [x] => (lsOf x S).bind fun ds => (blsOf ds).map fun (bs : List Bool) => (.bl (bs.all id), S)
  | _ => none
def anyD (as : List D) (S : Sto) : Option (D × Sto) := match as with
  | [x] => (lsOf x S).bind fun ds => (blsOf ds).map fun (bs : List Bool) => (.bl (bs.any id), S)
  | _ => none
theorem opa_all : OpA K (rAll K) allD := fun ρ S H x v d S' R r e Q k => by
  unfold allD at e
  split at e
  · rename_i x
    obtain ⟨w, rfl, q⟩ := r.one_
    obtain ⟨ds, e1, e⟩ := bindE e
    obtain ⟨ns, e2, e⟩ := Option.map_eq_some_iff.mp e
    cases e
    obtain ⟨a, xs, rfl, q1, h⟩ := lsOf_rel R q e1
    rw [blsOf_rel q1 e2] at h
    exact ⟨a, ns, rfl, h, kRefl R k (RelD.bl _)⟩
  · cases e
/-! list(x), tuple(x) -/
def listD (as : List D) (S : Sto) : Option (D × Sto) := match as with
  | [x] => (itemsOf x S).map fun ds => newD (.lst ds) S
  | _ => none
theorem opa_list : OpA K (fun xs H Q => ∃ p ys, xs = [.ref p] ∧ (SqL K H p ys ∨ SqT K H p ys) ∧ ∀ l, H l = none → Q (.ref l) (upd H l (.lst ys))) listD := fun ρ S H x v d S' R r e Q k => by
  unfold listD at e
  split at e
  · obtain ⟨w, rfl, q⟩ := r.one_
    obtain ⟨ds, e1, e⟩ := Option.map_eq_some_iff.mp e
    cases e
    obtain ⟨a, xs, rfl, q1, h⟩ := itemsOf_rel R q e1
    refine ⟨a, xs, rfl, h.elim (fun z => .inl z.1) (fun z => .inr z.1), fun p hp => ?_⟩
    obtain ⟨P, r⟩ := new_lst R hp q1
    exact k _ _ _ P r
  · cases e
def tupleD (as : List D) (S : Sto) : Option (D × Sto) := match as with
  | [x] => (itemsOf x S).map fun ds => (.tup ds, S)
  | _ => none
theorem opa_tuple : OpA K (fun xs H Q => ∃ p ys, xs = [.ref p] ∧ ((SqL K H p ys ∧ ∀ l, H l = none → Q (.ref l) (upd H l (.tup ys))) ∨ (SqT K H p ys ∧ Q (.ref p) H))) tupleD := fun ρ S H x v d S' R r e Q k => by
  unfold tupleD at e
  split at e
  · obtain ⟨w, rfl, q⟩ := r.one_
    obtain ⟨ds, e1, e⟩ := Option.map_eq_some_iff.mp e
    cases e
    obtain ⟨a, xs, rfl, q1, h | h⟩ := itemsOf_rel R q e1
    · refine ⟨a, xs, rfl, .inl ⟨h.1, fun p hp => ?_⟩⟩
      obtain ⟨P, r⟩ := R.new_tup hp q1
      exact k _ _ _ P r
    · refine ⟨a, xs, rfl, .inr ⟨h.1, ?_⟩⟩
      have q' := q
      rw [h.2] at q'
      exact kRefl R k q'
  · cases e
/-! isinstance -/
def tyName (S : Sto) : D → Option String
  | .non => some "NoneType"
  | .bl _ => some "bool"
  | .int _ => some "int"
  | .str _ => some "str"
  | .tup _ => some "tuple"
  | .fl _ => some "list"
  | .loc n => match S[n]? with
    | some (.lst _) => some "list"
    | some (.dK _) => some "dict"
    | some (.dT _) => some "dict"
    | _ => none
  | .ty _ => none
theorem tyName_rel (R : RelS K ρ S H) {d : D} {v : V} {t : String} (r : RelD K ρ H d v) (e : tyName S d = some t) : TyX K H v (.type t) := by
  cases d <;> simp only [tyName] at e <;> try cases e
  · rw [r.non_]; exact .base .non
  · rw [r.bl_]; exact .base (.bl _)
  · rw [r.int_]; exact .base (.int _)
  · rw [r.str_]; exact .base (.str _)
  · obtain ⟨a, xs, rfl, h, _⟩ := r.tup_; exact .base (.tup h)
  · obtain ⟨a, xs, rfl, h, _⟩ := r.fl_
    rcases h with ⟨o, h⟩ | ⟨o, its, n, h1, h2, _⟩
    · exact .base (.frz h)
    · exact .kList h1 h2
  · split at e
    · rename_i eo; cases e
      obtain ⟨a, xs, rfl, _, h, _⟩ := R.lst eo r
      exact .base (.lst h)
    · rename_i eo; cases e
      obtain ⟨a, xs, rfl, _, h, _⟩ := R.dK eo r
      exact .base (.dK h)
    · rename_i eo; cases e
      obtain ⟨a, xs, rfl, _, h, _⟩ := R.dT eo r
      exact .base (.dT h)
    · cases e
def tysOf : List D → Option (List String)
  | [] => some []
  | .ty i :: ds => (tysOf ds).map (i :: ·)
  | _ => none
def kitAnyB (t : String) : List String → Option Bool
  | [] => some false
  | c :: cs => (kitB t c).bind fun b => if b then some true else kitAnyB t cs
theorem kitAnyB_ok {t : String} : ∀ {cs : List String} {b : Bool}, kitAnyB t cs = some b → PySem.W.kitAny K (.type t) (cs.map Value.type) = some b
  | [], b, h => by cases h; exact kitAny_nil
  | c :: cs, b, h => by
    obtain ⟨b1, e1, e⟩ := bindE h
    cases b1 with
    | true => cases e; exact kitAny_cons (r := true) (kit_ty e1) (fun z => nomatch z) (fun _ => rfl)
    | false => exact kitAny_cons (kit_ty e1) (fun _ => kitAnyB_ok e) (fun z => nomatch z)
theorem tysOf_rel {ds : List D} : ∀ {xs : List V} {ns : List String}, RelDs K ρ H ds xs → tysOf ds = some ns → xs = ns.map V.ty ∧ Paired ClsV xs (ns.map Value.type) := by
  induction ds with
  | nil => intro xs ns r e; cases e; simp only [RelDs] at r; subst r; exact ⟨rfl, .nil⟩
  | cons d ds ih =>
    intro xs ns r e
    cases d with
    | ty i =>
      simp only [tysOf, Option.map_eq_some_iff] at e
      obtain ⟨ns, e, rfl⟩ := e
      simp only [RelDs] at r
      obtain ⟨x, ys, rfl, r1, r2⟩ := r
      obtain ⟨h1, h2⟩ := ih r2 e
      rw [r1.ty_]
      exact ⟨by rw [h1]; rfl, .cons (.ty i) h2⟩
    | _ => cases e
def isiD (as : List D) (S : Sto) : Option (D × Sto) := match as with
  | [x, .ty c] => (tyName S x).bind fun t => (kitB t c).map fun b => (.bl b, S)
  | [x, .tup cs] => (tyName S x).bind fun t => (tysOf cs).bind fun cs => (kitAnyB t cs).map fun b => (.bl b, S)
  | _ => none
theorem opr_isi : CallR X (.builtin "isinstance") (fun xs H Q => rIsi X.K xs H Q ∨ rIsiT X.K xs H Q) := orC call_isi call_isiT
theorem opa_isi : OpA K (fun xs H Q => rIsi K xs H Q ∨ rIsiT K xs H Q) isiD := fun ρ S H x v d S' R r e Q k => by
  unfold isiD at e
  split at e
  · obtain ⟨w, w2, rfl, q, q2⟩ := r.two_
    obtain ⟨t, e1, e⟩ := bindE e
    obtain ⟨b, e2, e⟩ := Option.map_eq_some_iff.mp e
    cases e
    rw [q2.ty_]
    exact .inl ⟨w, _, _, _, b, rfl, .ty _, tyName_rel R q e1, kit_ty e2, kRefl R k (RelD.bl _)⟩
  · obtain ⟨w, w2, rfl, q, q2⟩ := r.two_
    obtain ⟨t, e1, e⟩ := bindE e
    obtain ⟨cs, e3, e⟩ := bindE e
    obtain ⟨b, e2, e⟩ := Option.map_eq_some_iff.mp e
    cases e
    obtain ⟨a, xs, rfl, h, q3⟩ := q2.tup_
    obtain ⟨h1, h2⟩ := tysOf_rel q3 e3
    exact .inr ⟨w, a, xs, _, _, b, rfl, h, h2, tyName_rel R q e1, kitAnyB_ok e2, kRefl R k (RelD.bl _)⟩
  · cases e
/-! ### a list's methods -/
def OpM (K : PySem.W.Frag) (r : V → List V → Hp → VK → Prop) (g : D → List D → Sto → Option (D × Sto)) : Prop :=
  ∀ (ρ : List Addr) (S : Sto) (H : Hp) (o : D) (x : List D) (u : V) (v : List V) (d : D) (S' : Sto), RelS K ρ S H → RelD K ρ H o u → RelDs K ρ H x v → g o x S = some (d, S') →
    ∀ Q : VK, (∀ ρ' w H', Post K ρ H ρ' H' S' → RelD K ρ' H' d w → Q w H') → r u v H Q
def isLst (d : D) (S : Sto) : Bool := match d with
  | .fl _ => true
  | .loc n => (lenAt S n).isSome
  | _ => false
def mE (g : D → List D → Sto → Option (D × Sto)) (fo : EvE) (fa : EvA) : EvE := fun τ S => (fo τ S).bind fun p => if isLst p.1 p.2 then (fa τ p.2).bind fun q => g p.1 q.1 q.2 else none
theorem isLst_rel (R : RelS K ρ S H) {d : D} {v : V} (r : RelD K ρ H d v) (e : isLst d S = true) : tyV K "list" v H := by
  cases d <;> simp only [isLst] at e <;> try cases e
  · obtain ⟨a, xs, rfl, h, q⟩ := r.fl_
    exact .inl ⟨rfl, xs, h.sqL⟩
  · rename_i n
    cases el : lenAt S n with
    | none => rw [el] at e; cases e
    | some l =>
      obtain ⟨ds, e1, e2⟩ := lenAt_some el
      obtain ⟨a, xs, rfl, _, h, _⟩ := R.lst e1 r
      exact .inl ⟨rfl, xs, SqL.of h⟩
theorem ee_m {o e0 : Expr} {es : List Expr} {name : Str} {r : V → List V → Hp → VK → Prop} {g : D → List D → Sto → Option (D × Sto)} {fo : EvE} {fa : EvA} {apos cpos : Pos}
    (h : PE X (.Call (.Attribute o name apos) (e0 :: es) [] cpos) (tBM X.K "list" r (tE X.K fo) (tA X.K fa))) (hg : OpM X.K r g) : EE X (.Call (.Attribute o name apos) (e0 :: es) [] cpos) (mE g fo fa) := wkE h fun σ H Q q => by
  obtain ⟨ρ, τ, S, d, S', A, e, k⟩ := q
  obtain ⟨⟨x, S1⟩, e1, e⟩ := bindE e
  split at e
  · rename_i hi
    obtain ⟨⟨ys, S2⟩, e2, e⟩ := bindE e
    refine goE A e1 fun ρ1 v1 H1 A1 P1 r1 => ⟨isLst_rel A1.s r1 hi, goA A1 e2 fun ρ2 v2 H2 A2 P2 r2 => ?_⟩
    exact hg ρ2 S2 H2 x ys v1 v2 d S' A2.s (r1.mono (P2.imm A1.s) P2.pre) r2 e Q fun ρ3 u H3 P3 r3 => k ρ3 u H3 ((P1.trans P2).trans P3) r3
  · cases e
def lstAt (d : D) (S : Sto) : Option (Nat × List D) := match d with
  | .loc n => match S[n]? with
    | some (.lst ds) => some (n, ds)
    | _ => none
  | _ => none
theorem lstAt_rel (R : RelS K ρ S H) {d : D} {v : V} {n : Nat} {ds : List D} (r : RelD K ρ H d v) (e : lstAt d S = some (n, ds)) : S[n]? = some (.lst ds) ∧ ∃ a xs, v = .ref a ∧ ρ[n]? = some a ∧ H a = some (.lst xs) ∧ RelDs K ρ H ds xs := by
  cases d <;> simp only [lstAt] at e <;> try cases e
  split at e
  · rename_i eo; cases e
    exact ⟨eo, R.lst eo r⟩
  · cases e
def appendM (o : D) (as : List D) (S : Sto) : Option (D × Sto) := (lstAt o S).bind fun p => match as with
  | [y] => if p.2.length ≤ 10000000 then some (.non, S.set p.1 (.lst (p.2 ++ [y]))) else none
  | _ => none
theorem opm_append : OpM K rAppend appendM := fun ρ S H o x u v d S' R r1 r2 e Q k => by
  obtain ⟨⟨n, ds⟩, e1, e⟩ := bindE e
  obtain ⟨eo, a, xs, rfl, hn, h, q⟩ := lstAt_rel R r1 e1
  split at e
  · split at e
    · rename_i hl; cases e
      obtain ⟨w, rfl, q2⟩ := r2.one_
      refine ⟨a, xs, w, rfl, rfl, h, line_lt (by rw [q.len]; exact hl), ?_⟩
      exact k _ _ _ (put_lst R hn (by rw [h]; trivial) (q.app (.one q2))) RelD.non
    · cases e
  · cases e
def insertM (o : D) (as : List D) (S : Sto) : Option (D × Sto) := (lstAt o S).bind fun p => match as with
  | [.int i, y] => if p.2.length ≤ 10000000 ∧ 0 ≤ i ∧ i < 2 ^ 63 then some (.non, S.set p.1 (.lst (p.2.take i.toNat ++ [y] ++ p.2.drop i.toNat))) else none
  | _ => none
theorem opm_insert : OpM K (fun x vs H Q => ∃ (l : Addr) (xs : List V) (i : Int) (y : V), x = .ref l ∧ vs = [.int i, y] ∧ H l = some (.lst xs) ∧ xs.length < sizeLine ∧ 0 ≤ i ∧ i < 2 ^ 63 ∧
    Q .non (upd H l (.lst (xs.take i.toNat ++ [y] ++ xs.drop i.toNat)))) insertM := fun ρ S H o x u v d S' R r1 r2 e Q k => by
  obtain ⟨⟨n, ds⟩, e1, e⟩ := bindE e
  obtain ⟨eo, a, xs, rfl, hn, h, q⟩ := lstAt_rel R r1 e1
  split at e
  · split at e
    · rename_i hl; cases e
      obtain ⟨w, w2, rfl, q2, q3⟩ := r2.two_
      rw [q2.int_]
      refine ⟨a, xs, _, w2, rfl, rfl, h, line_lt (by rw [q.len]; exact hl.1), hl.2.1, hl.2.2, ?_⟩
      exact k _ _ _ (put_lst R hn (by rw [h]; trivial) (((q.take _).app (.one q3)).app (q.drop _))) RelD.non
    · cases e
  · cases e
def extendM (o : D) (as : List D) (S : Sto) : Option (D × Sto) := (lstAt o S).bind fun p => match as with
  | [y] => (lstAt y S).bind fun q => if p.2.length + q.2.length ≤ 10000000 then some (.non, S.set p.1 (.lst (p.2 ++ q.2))) else none
  | _ => none
theorem opm_extend : OpM K rExtend extendM := fun ρ S H o x u v d S' R r1 r2 e Q k => by
  obtain ⟨⟨n, ds⟩, e1, e⟩ := bindE e
  obtain ⟨eo, a, xs, rfl, hn, h, q⟩ := lstAt_rel R r1 e1
  split at e
  · obtain ⟨⟨m, es⟩, e2, e⟩ := bindE e
    split at e
    · rename_i hl; cases e
      obtain ⟨w, rfl, q2⟩ := r2.one_
      obtain ⟨eo2, b, ys, rfl, hm, h2, q3⟩ := lstAt_rel R q2 e2
      refine ⟨a, b, xs, ys, rfl, rfl, h, h2, line_of (by rw [q.len, q3.len]; exact hl), ?_⟩
      exact k _ _ _ (put_lst R hn (by rw [h]; trivial) (q.app q3)) RelD.non
    · cases e
  · cases e
end
end SW
namespace SW
open PySem L2

section
variable {X : Cx} {K : PySem.W.Frag} {ρ ρ' : List Addr} {S S' : Sto} {H H' : Hp} {τ : Tau} {σ : St} {tg e : Expr}
/-! ### sources -/
/-- a list as it stands, of that length -/
def lsN (d : D) (n : Nat) (S : Sto) : Option (List D) := (lsOf d S).bind fun ds => if ds.length = n then some ds else none
theorem lsN_rel (R : RelS K ρ S H) {d : D} {v : V} {n : Nat} {ds : List D} (r : RelD K ρ H d v) (e : lsN d n S = some ds) : ds.length = n ∧ ∃ a xs, v = .ref a ∧ RelDs K ρ H ds xs ∧ SqL K H a xs := by
  obtain ⟨es, e1, e⟩ := bindE e
  split at e
  · cases e; exact ⟨by assumption, lsOf_rel R r e1⟩
  · cases e
def pr (i : Int) (d : D) : D := .tup [.int i, d]
def enumsT : Nat → List D → List D
  | _, [] => []
  | i, d :: ds => pr (i : Int) d :: enumsT (i + 1) ds
theorem enumsT_len (i : Nat) (ds : List D) : (enumsT i ds).length = ds.length := by
  induction ds generalizing i with
  | nil => rfl
  | cons d ds ih => simp [enumsT, ih]
theorem enumsT_get : ∀ (ds : List D) (j i : Nat), (enumsT j ds)[i]? = (ds[i]?).map (pr ((j + i : Nat) : Int))
  | [], j, i => by simp [enumsT]
  | d :: ds, j, 0 => by simp [enumsT]
  | d :: ds, j, i + 1 => by
    simp only [enumsT, List.getElem?_cons_succ]
    rw [enumsT_get ds (j + 1) i]
    congr 2
    omega
def srcEnum (d : D) (S : Sto) : Option Src := match d with
  | .tup ds => some (.fixed (enumsT 0 ds))
  | d => (lsOf d S).map fun ds => ⟨ds.length, fun S i => (lsN d ds.length S).bind fun es => (es[i]?).map (pr (i : Int)), fun S => (lsN d ds.length S).isSome⟩
def enI (f : EvE) : EvI := fun τ S => (f τ S).bind fun p => (srcEnum p.1 p.2).map fun s => (s, p.2)
/-- a pair is made anew -/
theorem yld_pair (R : RelS K ρ S H) {T : Addr} (hT : H T = none) {d1 d2 : D} {x1 x2 : V} (r1 : RelD K ρ H d1 x1) (r2 : RelD K ρ H d2 x2) : Post K ρ H ρ (upd H T (.tup [x1, x2])) S ∧ RelD K ρ (upd H T (.tup [x1, x2])) (.tup [d1, d2]) (.ref T) :=
  R.new_tup hT (.cons r1 (.one r2))
theorem walk_enumT {a : Addr} {xs : List V} {ds : List D} (h : H a = some (.tup xs)) (q : RelDs K ρ H ds xs) : Walks K ρ H (IteT K a) (.fixed (enumsT 0 ds)) where
  go := fun ρ1 S1 H1 i d R1 p1 i1 hi hg => by
    simp only [Src.fixed, enumsT_get] at hg
    obtain ⟨d', hd, e⟩ := Option.map_eq_some_iff.mp hg
    subst e
    obtain ⟨v, hv, r⟩ := (q.mono i1.toImm p1).get hd
    have h1 := i1.tup _ _ h
    refine ⟨⟨xs, v, SqT.of h1, hv⟩, fun x H' ⟨T, y, ex, hT, eH, k⟩ => ?_⟩
    subst ex eH
    have := k xs (SqT.of h1)
    rw [hv] at this; cases this
    rw [Nat.zero_add]
    exact yld_pair R1 hT (RelD.int _) r
  stop := fun ρ1 S1 H1 R1 p1 i1 hf => ⟨xs, SqT.of (i1.tup _ _ h), by simp only [Src.fixed, enumsT_len]; rw [q.len]; exact Nat.le_refl _⟩
theorem walk_enumL {a : Addr} {d : D} {n : Nat} (hd : RelD K ρ H d (.ref a)) : Walks K ρ H (Ite K a) ⟨n, fun S i => (lsN d n S).bind fun es => (es[i]?).map (pr (i : Int)), fun S => (lsN d n S).isSome⟩ where
  go := fun ρ1 S1 H1 i d' R1 p1 i1 hi hg => by
    obtain ⟨es, e1, hg⟩ := bindE hg
    obtain ⟨d2, e2, e⟩ := Option.map_eq_some_iff.mp hg
    subst e
    obtain ⟨_, b, xs, eb, q, h1⟩ := lsN_rel R1 (hd.mono i1.toImm p1) e1
    cases eb
    obtain ⟨v, hv, r⟩ := q.get e2
    refine ⟨⟨xs, v, h1, hv⟩, fun x H' ⟨T, y, ex, hT, eH, k⟩ => ?_⟩
    subst ex eH
    have := k xs h1
    rw [hv] at this; cases this
    exact yld_pair R1 hT (RelD.int _) r
  stop := fun ρ1 S1 H1 R1 p1 i1 hf => by
    simp only [Option.isSome_iff_exists] at hf
    obtain ⟨es, e1⟩ := hf
    obtain ⟨hl, b, xs, eb, q, h1⟩ := lsN_rel R1 (hd.mono i1.toImm p1) e1
    cases eb
    exact ⟨xs, h1, by rw [q.len, hl]; exact Nat.le_refl _⟩
theorem ei_enum {elts : List Expr} {kk : Nat} {tpos p pos : Pos} {f : EvE} (hg : Gl X "enumerate") (hm : X.mg "enumerate" = none) (h : EE X e f) (hs : starEach [e] X.env = [(false, eval e X.env)] := by rfl) :
    EI X (.Tuple elts kk tpos) (.Call (.Name "enumerate" p) [e] [] pos) (enI f) := wkI (orI (pi_enum hg hm (ea_cons h ea_nil hs) hs) (pi_enumT hg hm (ea_cons h ea_nil hs) hs)) fun σ H R q => by
  obtain ⟨ρ, τ, S, s, S', A, e, k⟩ := q
  obtain ⟨⟨d, S1⟩, e1, e⟩ := bindE e
  obtain ⟨s', e2, e⟩ := Option.map_eq_some_iff.mp e
  cases e
  have ea : (consA f nilA) τ S = some ([d], S1) := by show (f τ S).bind _ = _; rw [e1]; rfl
  have lst : ∀ (ds : List D), lsOf d S1 = some ds → s = ⟨ds.length, fun S i => (lsN d ds.length S).bind fun es => (es[i]?).map (pr (i : Int)), fun S => (lsN d ds.length S).isSome⟩ → iEnum X.K (tA X.K (consA f nilA)) σ H R := fun ds e3 es => by
    subst es
    refine goA A ea fun ρ1 v1 H1 A1 P1 r1 => ?_
    obtain ⟨v, rfl, r⟩ := r1.one_
    obtain ⟨a, xs, rfl, q, h⟩ := lsOf_rel A1.s r e3
    exact ⟨a, xs, rfl, h, k _ _ _ P1 (walk_enumL r)⟩
  cases d with
  | tup ds =>
    cases e2
    refine .inr (goA A ea fun ρ1 v1 H1 A1 P1 r1 => ?_)
    obtain ⟨v, rfl, r⟩ := r1.one_
    obtain ⟨a, xs, rfl, h, q⟩ := r.tup_
    exact ⟨a, xs, rfl, SqT.of h, k _ _ _ P1 (walk_enumT h q)⟩
  | _ =>
    simp only [srcEnum] at e2
    obtain ⟨ds, e3, e4⟩ := Option.map_eq_some_iff.mp e2
    exact .inl (lst ds e3 e4.symm)
/-! zip -/
def zipsT : List D → List D → List D
  | a :: as, b :: bs => .tup [a, b] :: zipsT as bs
  | _, _ => []
theorem zipsT_len : ∀ (as bs : List D), (zipsT as bs).length = min as.length bs.length
  | [], _ => by simp [zipsT]
  | _ :: _, [] => by simp [zipsT]
  | a :: as, b :: bs => by
    simp only [zipsT, List.length_cons, zipsT_len as bs]; omega
theorem zipsT_get : ∀ (as bs : List D) (i : Nat) (d : D), (zipsT as bs)[i]? = some d → ∃ a b, as[i]? = some a ∧ bs[i]? = some b ∧ d = .tup [a, b]
  | [], _, _, _, h => by simp [zipsT] at h
  | _ :: _, [], _, _, h => by simp [zipsT] at h
  | a :: as, b :: bs, 0, d, h => by simp [zipsT] at h; exact ⟨a, b, rfl, rfl, h.symm⟩
  | a :: as, b :: bs, i + 1, d, h => by
    simp only [zipsT, List.getElem?_cons_succ] at h ⊢
    exact zipsT_get as bs i d h
def srcZip (x y : D) (S : Sto) : Option Src := match x, y with
  | .tup as, .tup bs => some (.fixed (zipsT as bs))
  | x, y => (lsOf x S).bind fun as => (lsOf y S).map fun bs => ⟨min as.length bs.length, fun S i => (lsN x as.length S).bind fun es => (lsN y bs.length S).bind fun fs => (es[i]?).bind fun a => (fs[i]?).map fun b => .tup [a, b],
      fun S => (lsN x as.length S).isSome && (lsN y bs.length S).isSome⟩
def ziI (f g : EvE) : EvI := fun τ S => (f τ S).bind fun p => (g τ p.2).bind fun q => (srcZip p.1 q.1 q.2).map fun s => (s, q.2)
theorem walk_zipT {a b : Addr} {xs ys : List V} {ds es : List D} (h : H a = some (.tup xs)) (q : RelDs K ρ H ds xs) (h2 : H b = some (.tup ys)) (q2 : RelDs K ρ H es ys) : Walks K ρ H (RZ.ItzT K a b) (.fixed (zipsT ds es)) where
  go := fun ρ1 S1 H1 i d R1 p1 i1 hi hg => by
    obtain ⟨d1, d2, g1, g2, rfl⟩ := zipsT_get _ _ _ _ hg
    obtain ⟨v, hv, r⟩ := (q.mono i1.toImm p1).get g1
    obtain ⟨w, hw, r2⟩ := (q2.mono i1.toImm p1).get g2
    have h1 := i1.tup _ _ h
    have h3 := i1.tup _ _ h2
    refine ⟨⟨xs, ys, v, w, SqT.of h1, SqT.of h3, hv, hw⟩, fun x H' ⟨T, y, z, ex, hT, eH, k, k2⟩ => ?_⟩
    subst ex eH
    have := k xs (SqT.of h1)
    rw [hv] at this; cases this
    have := k2 ys (SqT.of h3)
    rw [hw] at this; cases this
    exact yld_pair R1 hT r r2
  stop := fun ρ1 S1 H1 R1 p1 i1 hf => ⟨xs, ys, SqT.of (i1.tup _ _ h), SqT.of (i1.tup _ _ h2), by simp only [Src.fixed, zipsT_len]; rw [q.len, q2.len]; omega⟩
theorem walk_zipL {a b : Addr} {d1 d2 : D} {n m : Nat} (hd : RelD K ρ H d1 (.ref a)) (hd2 : RelD K ρ H d2 (.ref b)) : Walks K ρ H (Itz K a b) ⟨min n m, fun S i => (lsN d1 n S).bind fun es => (lsN d2 m S).bind fun fs => (es[i]?).bind fun a => (fs[i]?).map fun b => .tup [a, b],
      fun S => (lsN d1 n S).isSome && (lsN d2 m S).isSome⟩ where
  go := fun ρ1 S1 H1 i d' R1 p1 i1 hi hg => by
    obtain ⟨es, e1, hg⟩ := bindE hg
    obtain ⟨fs, e2, hg⟩ := bindE hg
    obtain ⟨u1, e3, hg⟩ := bindE hg
    obtain ⟨u2, e4, e⟩ := Option.map_eq_some_iff.mp hg
    subst e
    obtain ⟨_, _, xs, eb, q, h1⟩ := lsN_rel R1 (hd.mono i1.toImm p1) e1
    cases eb
    obtain ⟨_, _, ys, eb, q2, h2⟩ := lsN_rel R1 (hd2.mono i1.toImm p1) e2
    cases eb
    obtain ⟨v, hv, r⟩ := q.get e3
    obtain ⟨w, hw, r2⟩ := q2.get e4
    refine ⟨⟨xs, ys, v, w, h1, h2, hv, hw⟩, fun x H' ⟨T, y, z, ex, hT, eH, k, k2⟩ => ?_⟩
    subst ex eH
    have := k xs h1
    rw [hv] at this; cases this
    have := k2 ys h2
    rw [hw] at this; cases this
    exact yld_pair R1 hT r r2
  stop := fun ρ1 S1 H1 R1 p1 i1 hf => by
    simp only [Bool.and_eq_true, Option.isSome_iff_exists] at hf
    obtain ⟨⟨es, e1⟩, fs, e2⟩ := hf
    obtain ⟨hl, _, xs, eb, q, h1⟩ := lsN_rel R1 (hd.mono i1.toImm p1) e1
    cases eb
    obtain ⟨hl2, _, ys, eb, q2, h2⟩ := lsN_rel R1 (hd2.mono i1.toImm p1) e2
    cases eb
    exact ⟨xs, ys, h1, h2, by rw [q.len, q2.len, hl, hl2]; show n ≤ min n m ∨ m ≤ min n m; omega⟩
theorem ei_zip {e2 : Expr} {elts : List Expr} {kk : Nat} {tpos p pos : Pos} {f g : EvE} (h1 : EE X e f) (h2 : EE X e2 g)
    (h : PA X [e, e2] (tA X.K (consA f (consA g nilA))) → PI X (.Tuple elts kk tpos) (.Call (.Name "zip" p) [e, e2] [] pos) (RZ.iZipA X.K (tA X.K (consA f (consA g nilA)))))
    (hs : starEach [e, e2] X.env = (false, eval e X.env) :: starEach [e2] X.env := by rfl) (hs2 : starEach [e2] X.env = (false, eval e2 X.env) :: starEach [] X.env := by rfl) :
    EI X (.Tuple elts kk tpos) (.Call (.Name "zip" p) [e, e2] [] pos) (ziI f g) := wkI (h (ea_cons h1 (ea_cons h2 ea_nil hs2) hs)) fun σ H R q => by
  obtain ⟨ρ, τ, S, s, S', A, e, k⟩ := q
  obtain ⟨⟨d, S1⟩, e1, e⟩ := bindE e
  obtain ⟨⟨d2, S2⟩, e2, e⟩ := bindE e
  obtain ⟨s', e3, e⟩ := Option.map_eq_some_iff.mp e
  cases e
  have ea : (consA f (consA g nilA)) τ S = some ([d, d2], S2) := by show (f τ S).bind _ = _; rw [e1]; show ((g τ S1).bind _).bind _ = _; rw [e2]; rfl
  refine goA A ea fun ρ1 v1 H1 A1 P1 r1 => ?_
  obtain ⟨v, w, rfl, r, r2⟩ := r1.two_
  have lst : ∀ as bs : List D, lsOf d S2 = some as → lsOf d2 S2 = some bs → s = ⟨min as.length bs.length, fun S i => (lsN d as.length S).bind fun es => (lsN d2 bs.length S).bind fun fs => (es[i]?).bind fun a => (fs[i]?).map fun b => .tup [a, b],
      fun S => (lsN d as.length S).isSome && (lsN d2 bs.length S).isSome⟩ → ∃ a b xs ys, [v, w] = [.ref a, .ref b] ∧ ((SqL X.K H1 a xs ∧ SqL X.K H1 b ys ∧ R (Itz X.K a b) H1) ∨ (SqT X.K H1 a xs ∧ SqT X.K H1 b ys ∧ R (RZ.ItzT X.K a b) H1)) := fun as bs g1 g2 es => by
    subst es
    obtain ⟨a, xs, rfl, q, h⟩ := lsOf_rel A1.s r g1
    obtain ⟨b, ys, rfl, q2, h2⟩ := lsOf_rel A1.s r2 g2
    exact ⟨a, b, xs, ys, rfl, .inl ⟨h, h2, k _ _ _ P1 (walk_zipL r r2)⟩⟩
  have gen : (lsOf d S2).bind (fun as => (lsOf d2 S2).map fun bs => (⟨min as.length bs.length, fun S i => (lsN d as.length S).bind fun es => (lsN d2 bs.length S).bind fun fs => (es[i]?).bind fun a => (fs[i]?).map fun b => .tup [a, b],
      fun S => (lsN d as.length S).isSome && (lsN d2 bs.length S).isSome⟩ : Src)) = some s → ∃ a b xs ys, [v, w] = [.ref a, .ref b] ∧ ((SqL X.K H1 a xs ∧ SqL X.K H1 b ys ∧ R (Itz X.K a b) H1) ∨ (SqT X.K H1 a xs ∧ SqT X.K H1 b ys ∧ R (RZ.ItzT X.K a b) H1)) := fun z => by
    obtain ⟨as, g1, z⟩ := bindE z
    obtain ⟨bs, g2, z⟩ := Option.map_eq_some_iff.mp z
    exact lst as bs g1 g2 z.symm
  cases d with
  | tup as =>
    cases d2 with
    | tup bs =>
      cases e3
      obtain ⟨a, xs, rfl, h, q⟩ := r.tup_
      obtain ⟨b, ys, rfl, h2, q2⟩ := r2.tup_
      exact ⟨a, b, xs, ys, rfl, .inr ⟨SqT.of h, SqT.of h2, k _ _ _ P1 (walk_zipT h q h2 q2)⟩⟩
    | _ => exact gen e3
  | _ => exact gen e3
/-! reversed -/
def srcRev (d : D) (S : Sto) : Option Src := match d with
  | .tup ds => some (.fixed ds.reverse)
  | d => (lsOf d S).map fun ds => ⟨ds.length, fun S i => (lsOf d S).bind fun es => es[ds.length - 1 - i]?, fun S => true⟩
def reI (f : EvE) : EvI := fun τ S => (f τ S).bind fun p => (srcRev p.1 p.2).map fun s => (s, p.2)
def rgOk (a b : Int) : Bool := big62 a && big62 b && decide ((b - a).toNat ≤ 10000000)
theorem rgOk_ok {a b : Int} (h : rgOk a b = true) : RgOk a b := by
  simp only [rgOk, Bool.and_eq_true, decide_eq_true_eq] at h
  obtain ⟨⟨h1, h2⟩, h3⟩ := h
  obtain ⟨a1, a2⟩ := big62_ok h1
  obtain ⟨b1, b2⟩ := big62_ok h2
  exact ⟨a1, a2, b1, b2, by omega⟩
/-- the ends of range(..) -/
abbrev EvR := Tau → Sto → Option ((Int × Int) × Sto)
def tR (K : PySem.W.Frag) (f : EvR) : St → Hp → (Int → Int → Hp → Prop) → Prop := fun σ H Q => ∃ ρ τ S d S', At K ρ τ S σ H ∧ f τ S = some (d, S') ∧ ∀ ρ' H', Post K ρ H ρ' H' S' → Q d.1 d.2 H'
def r1R (f : EvE) : EvR := fun τ S => (f τ S).bind fun p => match p.1 with | .int n => some ((0, n), p.2) | _ => none
theorem er_1 {f : EvE} {σ : St} {H : Hp} {Q : Int → Int → Hp → Prop} (q : tR K (r1R f) σ H Q) : tRg1 (tE K f) σ H Q := by
  obtain ⟨ρ, τ, S, d, S', A, e, k⟩ := q
  obtain ⟨⟨x, S1⟩, e1, e⟩ := bindE e
  cases x <;> cases e
  exact goE A e1 fun ρ1 v H1 A1 P1 r => ⟨_, r.int_, k _ _ P1⟩
def ER (X : Cx) (e : Expr) (f : EvR) : Prop := PRg X e (tR X.K f)
theorem er_range1 {a : Expr} {f : EvE} {p pos : Pos} (hg : Gl X "range") (hm : X.mg "range" = none) (ha : EE X a f) (na : starEach [a] X.env = (false, eval a X.env) :: starEach [] X.env := by rfl) : ER X (.Call (.Name "range" p) [a] [] pos) (r1R f) :=
  fun pins s σ H R I q => prg_1 hg hm ha na pins s σ H R I (er_1 q)
def rgL (f : EvR) : EvE := fun τ S => (f τ S).bind fun p => if rgOk p.1.1 p.1.2 then some (newD (.lst (rng p.1.1 (p.1.2 - p.1.1).toNat)) p.2) else none
theorem rg_rel (a b : Int) : RelDs K ρ H (rng a (b - a).toNat) (rgV a b) := by
  refine RelDs.of (by rw [rgV_length, rng_len]) fun i d v h1 h2 => ?_
  rw [rng_get] at h1
  unfold rgV at h2
  rw [List.getElem?_map] at h2
  split at h1
  · rename_i hi; cases h1
    rw [List.getElem?_range hi] at h2
    cases h2
    exact RelD.int _
  · cases h1
theorem ee_listRg {f : EvR} {p pos : Pos} (hc : X.calm = true) (hg : Gl X "list") (hm : X.mg "list" = none) (he : ER X e f) (na : starEach [e] X.env = (false, eval e X.env) :: starEach [] X.env := by rfl) : EE X (.Call (.Name "list" p) [e] [] pos) (rgL f) :=
  wkE (pe_listRg hc hg hm he na) fun σ H Q q => by
    obtain ⟨ρ, τ, S, d, S', A, e, k⟩ := q
    obtain ⟨⟨⟨x, y⟩, S1⟩, e1, e⟩ := bindE e
    split at e
    · rename_i hr; cases e
      refine ⟨ρ, τ, S, (x, y), _, A, e1, fun ρ1 H1 P1 => ⟨rgOk_ok hr, fun p hp => ?_⟩⟩
      obtain ⟨P, r⟩ := new_lst P1.rel hp (rg_rel x y)
      exact k _ _ _ (P1.trans P) r
    · cases e
/-! a < b < c -/
def chE (g g' : D → D → Sto → Option (D × Sto)) (fa fb fc : EvE) : EvE := fun τ S => (fa τ S).bind fun p => (fb τ p.2).bind fun q => (g p.1 q.1 q.2).bind fun r => match r.1 with
  | .bl b => if b then (fc τ r.2).bind fun z => g' q.1 z.1 z.2 else some (.bl false, r.2)
  | _ => none
theorem ch_ok {r r' : R2} {g g' : D → D → Sto → Option (D × Sto)} {fa fb fc : EvE} (hg : Op2 K r g) (hg' : Op2 K r' g') {σ : St} {H : Hp} {Q : VK} (q : tE K (chE g g' fa fb fc) σ H Q) : tChain r r' (tE K fa) (tE K fb) (tE K fc) σ H Q := by
  obtain ⟨ρ, τ, S, d, S', A, e, k⟩ := q
  obtain ⟨⟨x, S1⟩, e1, e⟩ := bindE e
  obtain ⟨⟨y, S2⟩, e2, e⟩ := bindE e
  obtain ⟨⟨z, S3⟩, e3, e⟩ := bindE e
  refine goE A e1 fun ρ1 v1 H1 A1 P1 r1 => goE A1 e2 fun ρ2 v2 H2 A2 P2 r2 => ?_
  refine hg ρ2 S2 H2 x y v1 v2 z S3 A2.s (r1.mono (P2.imm A1.s) P2.pre) r2 e3 _ fun ρ3 u H3 P3 r3 => ?_
  have PP := (P1.trans P2).trans P3
  cases z <;> try cases e
  rename_i b
  refine ⟨b, r3.bl_, ?_⟩
  cases b with
  | false => cases e; exact k _ _ _ PP (RelD.bl _)
  | true =>
    obtain ⟨⟨z, S4⟩, e4, e⟩ := bindE e
    have A3 := A2.go P3
    refine goE A3 e4 fun ρ4 v4 H4 A4 P4 r4 => ?_
    exact hg' ρ4 S4 H4 y z v2 v4 d S' A4.s (r2.mono ((P3.trans P4).imm A2.s) (P3.trans P4).pre) r4 e Q fun ρ5 u H5 P5 r5 => k ρ5 u H5 ((PP.trans P4).trans P5) r5
theorem ee_chain {a b c : Expr} {op op' : CmpOp} {r r' : R2} {g g' : D → D → Sto → Option (D × Sto)} {fa fb fc : EvE} {pos : Pos} (ho : OpR X (compareOp op) r) (ho' : OpR X (compareOp op') r') (hg : Op2 X.K r g) (hg' : Op2 X.K r' g') (ha : EE X a fa) (hb : EE X b fb) (hc : EE X c fc)
    (hm : lastMarks [op, op'] [b, c] = false := by with_unfolding_all rfl) : EE X (.Compare a [op, op'] [b, c] pos) (chE g g' fa fb fc) :=
  wkE (pe_chain ho ho' ha hb hc hm) fun σ H Q q => ch_ok hg hg' q
/-! ### defs -/
abbrev Fn := List D → Sto → Option (D × Sto)
def spE (K : PySem.W.Frag) (g : Fn) : Sp := fun vs H Q _ => ∃ ρ S ds d S', RelS K ρ S H ∧ RelDs K ρ H ds vs ∧ g ds S = some (d, S') ∧ ∀ ρ' v H', Post K ρ H ρ' H' S' → RelD K ρ' H' d v → Q v H'
def fnD (n m : Nat) (b : EvS) : Fn := fun ds S => if ds.length = n then (b (ds.map some ++ List.replicate (m - n) none) S).bind fun p => match p.1 with
  | .rt d => some (d, p.2)
  | .nx _ => some (.non, p.2)
  | _ => none else none
structure Cal (P : Program) (w : World) (K : PySem.W.Frag) (mg : Str → Option Value) (base : Heap) (k : Nat) (x : Str) (g : Fn) : Prop where
  ex : ∃ (f : Addr) (fd : FuncData) (ps : List Str), FnOk P w K mg base CX0 k f fd ps (spE K g) ∧ mg x = some (.ref f) ∧ PySem.W.keepIn K (.ref f) = true ∧ Binds K fd ps []
theorem ee_call {k j : Nat} {x : Str} {g : Fn} {e0 : Expr} {es : List Expr} {fa : EvA} {p pos : Pos} (c : Cal X.prog X.w X.K X.mg X.base k x g) (hc : Ok X j) (hk : k ≤ j) (hg : Gl X x) (ha : EA X (e0 :: es) fa)
    (hdb : (x == ("__debug__" : Str)) = false := by decide) (he : starEach (e0 :: es) X.env = (false, eval e0 X.env) :: starEach es X.env := by rfl) (hpl : (backTo pos (starEach es X.env)).any (·.1) = false := by rfl) : EE X (.Call (.Name x p) (e0 :: es) [] pos) (aE g fa) := by
  obtain ⟨f, fd, ps, F, hm, hkp, hb⟩ := c.ex
  exact wkE (pe_call F (hc.room.mono hk) hg hm hkp hb .nil pass0 ha hdb he hpl) fun σ H Q q => by
    obtain ⟨ρ, τ, S, d, S', A, e, k⟩ := q
    obtain ⟨⟨x, S1⟩, e1, e⟩ := bindE e
    refine goA A e1 fun ρ1 v1 H1 A1 P1 r1 => ?_
    rw [List.append_nil]
    exact ⟨ρ1, S1, x, d, S', A1.s, r1, e, fun ρ2 v H2 P2 r2 => k ρ2 v H2 (P1.trans P2) r2⟩
end
section
variable {P : Program} {w : World} {K : PySem.W.Frag} {mg : Str → Option Value} {base : Heap}
theorem start_rel {ρ : List Addr} {H : Hp} {ds : List D} {vs : List V} (r : RelDs K ρ H ds vs) (m : Nat) : RelT K ρ H (ds.map some ++ List.replicate m none) (vs.map some ++ List.replicate m none) := by
  refine ⟨by simp [r.len], fun i d e => ?_⟩
  rw [List.getElem?_append] at e
  split at e
  · rename_i hi
    rw [List.getElem?_map] at e
    cases h : ds[i]? with
    | none => rw [h] at e; cases e
    | some d' =>
      rw [h] at e; cases e
      obtain ⟨v, hv, q⟩ := r.get h
      refine ⟨v, ?_, q⟩
      rw [List.getElem?_append_left (by simpa [r.len] using hi), List.getElem?_map, hv]; rfl
  · rw [List.getElem?_replicate] at e
    split at e <;> cases e
/-- THE RULE of a def -/
theorem fn_mk {x qual : Str} {st : Stmt} {f : Addr} {fd : FuncData} {N ps : List Str} {k : Nat} {b : EvS} (F : Fun K x qual st f fd) (S : FnScope N ps (defScope st))
    (hb : ∀ (cdv : Value) (A : Around) (outer : List Env) (s : Shared) (H : Hp) (E : XK), Ok (cxOf CX0 P w K mg base N qual (defScope st) f cdv A outer s H E).nox k → ESs (fun _ _ _ _ => False) (cxOf CX0 P w K mg base N qual (defScope st) f cdv A outer s H E).nox (defBody st) b) :
    FnOk P w K mg base CX0 (k + 1) f fd ps (spE K (fnD ps.length N.length b)) := by
  refine F.ok S (fun vs H Q E h => ?_) (fun cdv A outer s H vs Q E hr h => ?_)
  · obtain ⟨ρ, S, ds, d, S', R, r, e, _⟩ := h
    unfold fnD at e
    split at e
    · rename_i hl; rw [r.len, hl]
    · cases e
  · obtain ⟨ρ, S, ds, d, S', R, r, e, kk⟩ := h
    refine ⟨_, hb cdv A outer s H E ⟨rfl, hr⟩, ?_⟩
    unfold fnD at e
    split at e
    · rename_i hl
      obtain ⟨⟨o, S1⟩, e1, e⟩ := bindE e
      have T := start_rel r (N.length - ps.length)
      have hv : vs.length = ps.length := by rw [r.len, hl]
      refine ⟨ρ, _, S, o, S1, ⟨R, ?_⟩, e1, fun ρ1 H1 P1 => ?_⟩
      · unfold L2.start; rw [hv]; exact T
      · cases o with
        | rt d1 => cases e; exact fun v r1 => kk ρ1 v H1 P1 r1
        | nx τ1 => cases e; exact fun σ1 t1 => kk ρ1 .non H1 P1 RelD.non
        | bk _ => cases e
        | ct _ => cases e
        | ex _ _ _ => cases e
    · cases e
end
end SW
namespace SW
open PySem L2

/-- the built-ins' names are the built-ins' still -/
structure Bi (mg : Str → Option Value) : Prop where
  n_len : mg "len" = none
  n_abs : mg "abs" = none
  n_max : mg "max" = none
  n_min : mg "min" = none
  n_divmod : mg "divmod" = none
  n_sum : mg "sum" = none
  n_all : mg "all" = none
  n_any : mg "any" = none
  n_isinstance : mg "isinstance" = none
  n_sorted : mg "sorted" = none
  n_int : mg "int" = none
  n_bool : mg "bool" = none
  n_str : mg "str" = none
  n_list : mg "list" = none
  n_tuple : mg "tuple" = none
  n_dict : mg "dict" = none
  n_set : mg "set" = none
  n_range : mg "range" = none
  n_enumerate : mg "enumerate" = none
  n_zip : mg "zip" = none
  n_reversed : mg "reversed" = none
/-- a def of the text stands where its name says -/
structure DefAt (K : PySem.W.Frag) (mg : Str → Option Value) (x : Str) (st : Stmt) (ps : List Str) : Prop where
  ex : ∃ (f : Addr) (fd : FuncData), Fun K x x st f fd ∧ mg x = some (.ref f) ∧ Binds K fd ps []
theorem defAt {K : PySem.W.Frag} {h : Heap} {mg : Str → Option Value} (X : K.In h) (G : h.Ns mainGlobals mg) {x : Str} {st : Stmt} {ps : List Str} {f : Addr} {oc : Value} {od an : Option Addr} {osl : Array (Option Value)} {kV doc pm cdv ct : Value}
    (hb : ∀ (kV doc pm : Value) (an : Option Addr) (cdv ct : Value) (us : List Value), us.length = ps.length → bindArgs (PySem.W.fnOf x x (defArgs st) (defBody st) (defScope st) .none kV doc pm an cdv ct) ⟨us, []⟩ = pure (ps.zip us))
    (a : PySem.W.nsIn K mainGlobals x = some (some (.ref f)))
    (l : K.lookup f = some ⟨oc, od, .func (PySem.W.fnOf x x (defArgs st) (defBody st) (defScope st) .none kV doc pm an cdv ct), osl⟩)
    (c : PySem.W.codeIn K cdv x = true) (k : PySem.W.keepIn K (.ref f) = true) : DefAt K mg x st ps :=
  have F := fun_mk (st := st) l c k
  ⟨f, _, F, PySem.W.mg_of X G a, F.binds hb⟩
theorem fn_zero {P : Program} {w : World} {K : PySem.W.Frag} {mg : Str → Option Value} {base : Heap} {k : Nat} {f : Addr} {fd : FuncData} {ps : List Str} : FnOk P w K mg base CX0 k f fd ps (spE K fun _ _ => none) :=
  ⟨fun vs H Q E h => (by obtain ⟨ρ, S, ds, d, S', R, r, e, _⟩ := h; cases e), fun A outer s H args us vs Q E hr he hb hv h => (by obtain ⟨ρ, S, ds, d, S', R, r, e, _⟩ := h; cases e)⟩
section
variable {X : Cx} {K : PySem.W.Frag}
def addI : D → D → Sto → Option (D × Sto)
  | .int i, .int j, S => some (.int (i + j), S)
  | _, _, _ => none
theorem op2_iadd : Op2 K (ipI (· + ·)) addI := fun ρ S H x y v w d S' R r1 r2 e Q k => by
  cases x <;> cases y <;> simp only [addI] at e <;> try cases e
  rw [r1.int_, r2.int_]
  exact ⟨_, _, rfl, rfl, kRefl R k (RelD.int _)⟩
end
theorem ints_rel {K : PySem.W.Frag} {ρ : List Addr} {H : Hp} : ∀ ns : List Int, RelDs K ρ H (ns.map D.int) (ns.map V.int)
  | [] => .nil
  | n :: ns => .cons (RelD.int n) (ints_rel ns)
/-- the law's end: a script's ints as a list that nobody writes at -/
theorem fz_of {K : PySem.W.Frag} {H : Hp} {a : Addr} {xs : List V} (hO : Only H) (h : SqL K H a xs) : FzL K H a xs := by
  rcases h with (h | ⟨o, h⟩) | h
  · rcases hO a with q | ⟨o, ys, q⟩
    · rw [q] at h; cases h
    · rw [q] at h; cases h
  · exact .inl ⟨o, h⟩
  · exact .inr h
theorem walk {l : PySem.W.OpenLaw} {q : Program} {loose : List Str} {XP : (Str → Option Value) → Heap → Prop} {YP : World → Heap → Prop} {d : DefRec} {K : Params → PySem.W.Frag} {k : Nat} {g : Fn} {x : Str} (hn : l.most = some 63) (hdf : d.params.defaults = []) (hr : Room k callerA)
    (hY : ∀ (w : World) (h : Heap), YP w h → (K w.params).In h)
    (hg : ∀ ns : List Int, ns.length ≤ 63 → ∃ S', g [.fl (ns.map D.int)] [] = some (.bl true, S'))
    (F : ∀ (w : World) (mg : Str → Option Value) (fa : Addr) (h : Heap), (K w.params).In h → h.Ns mainGlobals mg → mg d.name = some (.ref fa) →
      ∃ fd : FuncData, (∀ (s : Shared) (u : Value), BindsTo s fd ⟨[u], []⟩ [(x, u)]) ∧ ∀ base : Heap, (K w.params).In base → base.Ns mainGlobals mg → FnOk l.prog w (K w.params) mg base CX0 k fa fd [x] (spE (K w.params) g)) :
    PySem.W.WalkO q loose XP YP l.row.toRowW d [] (fun f vs => PySem.call f vs) :=
  L2.walk_of (n := 63) (k := k) (x := x) (CX := fun _ => CX0) (sp := fun w => spE (K w.params) g) hn (by decide) hdf hr hY F (fun w H a ns hl hO hS => by
    obtain ⟨S', e⟩ := hg ns hl
    refine ⟨[], [], [.fl (ns.map D.int)], .bl true, S', ⟨rfl, List.nodup_nil, fun n o h => by simp at h⟩, ?_, e, fun ρ' v H' P r => r.bl_⟩
    refine .one ?_
    simp only [RelD]
    exact ⟨a, _, rfl, fz_of hO hS, ints_rel ns⟩) fun _ _ _ _ _ z => z
end SW
namespace SW
open PySem L2
section
variable {K : PySem.W.Frag}
end
section
variable {X : Cx} {pos : Pos}
end
end SW
namespace SW
open PySem L2
section
variable {X : Cx} {W : WX} {K : PySem.W.Frag} {ρ : List Addr} {S S' : Sto} {H : Hp} {pos apos cpos : Pos} {o e f : Expr} {fo fe ff : EvE}
theorem RelN.nil : RelN K ρ H [] [] := ⟨rfl, .nil, fun x hx => by simp at hx⟩
def sortI (ns : List Int) : List Int := ns.mergeSort (fun a b => decide (a ≤ b))
theorem sortI_perm (ns : List Int) : (sortI ns).Perm ns := List.mergeSort_perm _ _
theorem sortI_pw (ns : List Int) : (sortI ns).Pairwise (· ≤ ·) := by
  have h := List.pairwise_mergeSort (le := fun a b : Int => decide (a ≤ b)) (by intro a b c h1 h2; simp at h1 h2 ⊢; omega) (by intro a b; simp; omega) ns
  exact h.imp (by intro a b h; simpa using h)
theorem sorted_uniq {l m : List Int} (p : l.Perm m) (h1 : l.Pairwise (· ≤ ·)) (h2 : m.Pairwise (· ≤ ·)) : l = m :=
  p.eq_of_pairwise (fun a b _ _ h1 h2 => by omega) h1 h2
end
section
variable {X : Cx} {W : WX}
end
end SW
/-! sorted: lists of pairs of any length, dicts with pairs as keys -/
namespace SW
open PySem L2 PyProof.Rows

theorem paired_get {α β : Type} {F : α → β → Prop} : ∀ {l : List α} {m : List β} {i : Nat} {a : α}, Paired F l m → l[i]? = some a → ∃ b, m[i]? = some b ∧ F a b
  | _, _, 0, _, .cons h _, e => by simp at e; subst e; exact ⟨_, rfl, h⟩
  | _, _, i + 1, _, .cons _ t, e => by simpa using paired_get t (by simpa using e)
  | _, _, _, _, .nil, e => by simp at e
def sortPL (ps : List (Int × Int)) : List (Int × Int) := ps.mergeSort fun p q => !SrtO.lexB q p
abbrev LexS (l : List (Int × Int)) : Prop := l.Pairwise fun p q => SrtO.lexB q p = false
theorem sortPL_perm (ps : List (Int × Int)) : (sortPL ps).Perm ps := List.mergeSort_perm _ _
theorem sortPL_pw (ps : List (Int × Int)) : LexS (sortPL ps) := by
  have := List.pairwise_mergeSort (le := fun p q : Int × Int => !SrtO.lexB q p) (fun a b c h1 h2 => by
    simp only [Bool.not_eq_true'] at h1 h2 ⊢
    rw [SrtO.lexB_no] at h1 h2 ⊢
    omega) (fun a b => by
    simp only [Bool.or_eq_true, Bool.not_eq_true']
    rw [SrtO.lexB_no, SrtO.lexB_no]
    omega) ps
  exact this.imp fun h => by simpa using h
theorem lex_uniq {l m : List (Int × Int)} (p : l.Perm m) (h1 : LexS l) (h2 : LexS m) : l = m :=
  p.eq_of_pairwise (fun a b _ _ x y => by
    rw [SrtO.lexB_no] at x y
    exact Prod.ext (by omega) (by omega)) h1 h2
section
variable {K : PySem.W.Frag} {ρ : List Addr} {S : Sto} {H : Hp}
end
end SW
/-! a dict is locked while a loop walks its keys -/
namespace SW
open PySem L2 PyProof.Rows

section
variable {K : PySem.W.Frag} {ρ ρ' : List Addr} {S S' : Sto} {H H' : Hp}
end
section
variable {X : Cx} {W : WX}
end
/-! the keys of a locked dict -/
mutual
def kD : NestedKey → Option D
  | .none => some .non
  | .num i => some (.int i)
  | .text _ => none
  | .tup ks => (kDs ks).map .tup
def kDs : List NestedKey → Option (List D)
  | [] => some []
  | k :: ks => (kD k).bind fun d => (kDs ks).map (d :: ·)
end
mutual
theorem kD_rel {K : PySem.W.Frag} {ρ : List Addr} {H : Hp} : ∀ {k : NestedKey} {v : V} {d : D}, NkV H k v → kD k = some d → RelD K ρ H d v
  | .none, v, d, q, e => by
    simp only [NkV] at q; simp only [kD] at e; cases e; subst q; simp [RelD]
  | .num i, v, d, q, e => by
    simp only [NkV] at q; simp only [kD] at e; cases e; subst q; simp [RelD]
  | .text x, v, d, q, e => by simp [kD] at e
  | .tup ks, v, d, q, e => by
    simp only [NkV] at q
    obtain ⟨a, xs, rfl, h, q⟩ := q
    simp only [kD] at e
    obtain ⟨ds, e1, rfl⟩ := Option.map_eq_some_iff.mp e
    exact RelD.tup h (kDs_rel q e1)
theorem kDs_rel {K : PySem.W.Frag} {ρ : List Addr} {H : Hp} : ∀ {ks : List NestedKey} {vs : List V} {ds : List D}, NkVs H ks vs → kDs ks = some ds → RelDs K ρ H ds vs
  | [], vs, ds, q, e => by
    simp only [NkVs] at q; simp only [kDs] at e; cases e; subst q; simp [RelDs]
  | k :: ks, vs, ds, q, e => by
    simp only [NkVs] at q
    obtain ⟨y, ys, rfl, q1, q2⟩ := q
    simp only [kDs] at e
    obtain ⟨d, e1, e⟩ := bindE e
    obtain ⟨ds', e2, rfl⟩ := Option.map_eq_some_iff.mp e
    simp only [RelDs]
    exact ⟨y, ys, rfl, kD_rel q1 e1, kDs_rel q2 e2⟩
end
section
variable {X : Cx} {W : WX} {tg e : Expr} {td : TE}
end
end SW
/-! dict(list of pairs), the keys tuples -/
namespace SW
open PySem L2 PyProof.Rows

section
variable {K : PySem.W.Frag} {ρ : List Addr} {S : Sto} {H : Hp}
end
end SW
/-! slices of lists with a step -/
namespace SW
open PySem L2 PyProof.Rows

def pickI (n : Nat) (lo hi st : Option Int) : List Nat := sliceRange (sliceBounds lo hi st n).1 (sliceBounds lo hi st n).2.1 (sliceBounds lo hi st n).2.2
def pickL {α : Type} (xs : List α) (lo hi st : Option Int) : List α := (pickI xs.length lo hi st).filterMap fun i => xs[i]?
theorem vals_pick {xs : List V} {its : List Value} (r : Vals xs its) : ∀ idx : List Nat, Vals (idx.filterMap fun i => xs[i]?) (idx.filterMap fun i => its[i]?)
  | [] => .nil
  | i :: idx => by
    have ih := vals_pick r idx
    have hl := r.length
    by_cases h : i < xs.length
    · have h1 : xs[i]? = some xs[i] := List.getElem?_eq_getElem h
      have h2 : its[i]? = some its[i] := List.getElem?_eq_getElem (by omega)
      rw [List.filterMap_cons, List.filterMap_cons, h1, h2]
      refine .cons ?_ ih
      obtain ⟨b, hb, q⟩ := SW.paired_get (F := RelV) (l := xs) (m := its) (i := i) r h1
      rw [h2] at hb; cases hb
      exact q
    · have h1 : xs[i]? = none := List.getElem?_eq_none_iff.mpr (by omega)
      have h2 : its[i]? = none := List.getElem?_eq_none_iff.mpr (by omega)
      rw [List.filterMap_cons, List.filterMap_cons, h1, h2]
      exact ih
theorem pick_arr (its : List Value) (lo hi st : Option Int) : slicePick its.toArray lo hi st = (pickL its lo hi st).toArray := by
  unfold slicePick pickL pickI
  simp
def tSl3 (K : PySem.W.Frag) (te : TE) (tl th ts : TO) : TE := fun σ H Q => te σ H fun x H1 => tl σ H1 fun l H2 => th σ H2 fun u H3 => ts σ H3 fun st H4 => ∃ a xs, x = .ref a ∧ SqL K H4 a xs ∧ st ≠ some 0 ∧ ∀ p, H4 p = none → Q (.ref p) (upd H4 p (.lst (pickL xs l u st)))
section
variable {X : Cx} {W : WX}
theorem pe_slice3 {e ex : Expr} {lo hi : Option Expr} {te : TE} {tl th ts : TO} {p2 pos : Pos} (he : PE X e te) (hl : PO X lo tl) (hu : PO X hi th) (hst : PO X (some ex) ts) : PE X (.Subscript e (.Slice lo hi (some ex) p2) pos) (tSl3 X.K te tl th ts) := by
  refine ⟨fun pins s σ H Q I h => ?_⟩
  refine Subscript_ (thn (he.run pins s σ H _ I h) fun v s1 ⟨x, H1, I1, r1, q1⟩ => ?_)
  refine wpAny_Slice (thn (hl.run pins s1 σ H1 _ I1 q1) fun vl s2 ⟨l, H2, I2, pl, q2⟩ => thn (hu.run pins s2 σ H2 _ I2 q2) fun vu s3 ⟨u, H3, I3, pu, q3⟩ => ?_)
  refine thn (hst.run pins s3 σ H3 _ I3 q3) fun vs s4 ⟨o, H4, I4, ps, q4⟩ => ?_
  obtain ⟨a, xs, ex1, hx, h0, q⟩ := q4
  subst ex1
  cases r1
  have I5 : Inv X pins σ H4 { s4 with heap := s4.heap.push { cls := .type "slice", data := .fields #[vl, vu, vs] } } := I4.kept (t' := s4.toks) fun b ob q => Heap.get?_push_of_some _ q
  obtain ⟨its, r, ht, hz⟩ := I5.list hx
  have hlen := r.length
  show wpAny (model X.prog X.w) X.A (subscriptTail e (.Slice lo hi (some ex) p2) (.ref a) (.ref s4.heap.objs.size)) (EP X pins σ Q) X.xe { s4 with heap := s4.heap.push { cls := .type "slice", data := .fields #[vl, vu, vs] } }
  refine tail_any (ops := [.ref a, .ref s4.heap.objs.size]) ht.isList.typeIs (PySem.slot_list_getitem.lookup) ?_ (by with_unfolding_all rfl)
  refine wpAny_getItem_list_slice ht.isList (Heap.IsSliceOf.new _ vl vu vs) pl pu ps h0 ?_ (by rw [List.size_toArray]; omega)
  rw [pick_arr]
  have hv : Vals (pickL xs l u o) (pickL its l u o) := by
    unfold pickL
    rw [hlen]
    exact vals_pick r _
  have hb : (pickL xs l u o).length ≤ sizeLine := by
    have h1 := slicePick_size_le its.toArray l u o
    rw [pick_arr, List.size_toArray, List.size_toArray] at h1
    rw [hv.length]; omega
  exact ⟨.ref _, _, I5.laid (t' := s4.toks) (o := .lst (pickL xs l u o)) (fun b ob q => Heap.get?_push_of_some _ q) (Nat.le_refl _) ⟨hb, _, 0, hv, Heap.get?_push_size _ rfl⟩, rfl, q _ (I5.hok.fresh (Nat.le_refl _))⟩
/-- e[lo:hi:st], a list -/
def slE3 (f : EvE) (a b c : EvO) : EvE := fun τ S => (f τ S).bind fun p => (a τ p.2).bind fun q => (b τ q.2).bind fun r => (c τ r.2).bind fun t => if t.1 = some 0 then none else (lsOf p.1 t.2).map fun ds => newD (.lst (pickL ds q.1 r.1 t.1)) t.2
theorem ds_pick {K : PySem.W.Frag} {ρ : List Addr} {H : Hp} {ds : List D} {xs : List V} (q : RelDs K ρ H ds xs) : ∀ idx : List Nat, RelDs K ρ H (idx.filterMap fun i => ds[i]?) (idx.filterMap fun i => xs[i]?)
  | [] => .nil
  | i :: idx => by
    have ih := ds_pick q idx
    rw [List.filterMap_cons, List.filterMap_cons]
    cases h : ds[i]? with
    | none =>
      have : xs[i]? = none := List.getElem?_eq_none_iff.mpr (by rw [q.len]; exact List.getElem?_eq_none_iff.mp h)
      rw [this]; exact ih
    | some d =>
      obtain ⟨v, hv, r⟩ := q.get h
      rw [hv]
      simp only [RelDs]
      exact ⟨v, _, rfl, r, ih⟩
theorem ee_slice3 {e ex : Expr} {lo hi : Option Expr} {f : EvE} {a b c : EvO} {p2 pos : Pos} (he : EE X e f) (hl : PO X lo (tO X.K a)) (hh : PO X hi (tO X.K b)) (hs : PO X (some ex) (tO X.K c)) : EE X (.Subscript e (.Slice lo hi (some ex) p2) pos) (slE3 f a b c) :=
  wkE (pe_slice3 he hl hh hs) fun σ H Q q => by
    obtain ⟨ρ, τ, S, d, S', A, e, k⟩ := q
    obtain ⟨⟨x, S1⟩, e1, e⟩ := bindE e
    obtain ⟨⟨l, S2⟩, e2, e⟩ := bindE e
    obtain ⟨⟨h, S3⟩, e3, e⟩ := bindE e
    obtain ⟨⟨t, S4⟩, e4, e⟩ := bindE e
    refine goE A e1 fun ρ1 v1 H1 A1 P1 r1 => ⟨ρ1, τ, S1, l, S2, A1, e2, fun ρ2 H2 P2 => ?_⟩
    have A2 := A1.go P2
    refine ⟨ρ2, τ, S2, h, S3, A2, e3, fun ρ3 H3 P3 => ?_⟩
    have A3 := A2.go P3
    refine ⟨ρ3, τ, S3, t, S4, A3, e4, fun ρ4 H4 P4 => ?_⟩
    have A4 := A3.go P4
    have P14 := (P2.trans P3).trans P4
    have r4 := r1.mono (P14.imm A1.s) P14.pre
    split at e
    · cases e
    · rename_i h0
      obtain ⟨ds, e5, e⟩ := Option.map_eq_some_iff.mp e
      cases e
      obtain ⟨a', xs, rfl, q, hx⟩ := lsOf_rel A4.s r4 e5
      refine ⟨a', xs, rfl, hx, h0, fun p hp => ?_⟩
      have q2 : RelDs X.K ρ4 H4 (pickL ds l h t) (pickL xs l h t) := by
        unfold pickL
        rw [q.len]
        exact ds_pick q _
      obtain ⟨P5, r5⟩ := new_lst A4.s hp q2
      exact k _ _ _ ((P1.trans P14).trans P5) r5
end
end SW
/-! zip of a tuple and a list -/
namespace SW
open PySem L2
section
variable {X : Cx} {K : PySem.W.Frag} {ρ : List Addr} {S : Sto} {H : Hp} {e e2 : Expr}
end
end SW
/-! sorted(set(xs)), xs a list of numbers or of tuples of any depth -/
namespace SW
open PySem L2 PyProof.Rows

mutual
theorem bare_plain : ∀ k : NestedKey, bareK k = plainK k
  | .none => rfl
  | .num _ => rfl
  | .text _ => rfl
  | .tup ks => by simp only [bareK, plainK, bares_plain ks]
theorem bares_plain : ∀ ks : List NestedKey, bareKs ks = plainKs ks
  | [] => rfl
  | k :: ks => by simp only [bareKs, plainKs, bare_plain k, bares_plain ks]
end
section
variable {P : Program} {w : World} {H : Hp} {h : Heap}
mutual
theorem NkV.rk (ok : HOk P w H h) : ∀ {k : NestedKey} {v : V} {u : Value}, NkV H k v → RelV v u → NkR h k u
  | .none, v, u, q, r => by
    simp only [NkV] at q
    subst q
    obtain rfl : u = Value.none := r
    simp only [NkR]
  | .num i, v, u, q, r => by
    simp only [NkV] at q
    subst q
    obtain ⟨t, rfl⟩ := r
    simp only [NkR]
    exact ⟨t, rfl⟩
  | .text x, v, u, q, r => by
    simp only [NkV] at q
    subst q
    obtain ⟨t, rfl⟩ := r
    simp only [NkR]
    exact ⟨t, rfl⟩
  | .tup ks, v, u, q, r => by
    simp only [NkV] at q
    obtain ⟨b, xs, rfl, e, q⟩ := q
    obtain rfl : u = Value.ref b := r
    obtain ⟨_, its, rs, o, h1, h2, n, h3⟩ := (show ObjOk P w H h b (.tup xs) from ok b _ e)
    simp only [NkR]
    exact ⟨b, o, its.toArray, n, rfl, h1, h2, h3, by simpa using NkVs.rk ok q rs⟩
theorem NkVs.rk (ok : HOk P w H h) : ∀ {ks : List NestedKey} {vs : List V} {us : List Value}, NkVs H ks vs → Vals vs us → NkRs h ks us
  | [], vs, us, q, r => by
    simp only [NkVs] at q
    subst q
    cases r
    simp only [NkRs]
  | k :: ks, vs, us, q, r => by
    simp only [NkVs] at q
    obtain ⟨y, ys, rfl, q1, q2⟩ := q
    cases r with
    | cons r1 r2 =>
      simp only [NkRs]
      exact ⟨_, _, rfl, NkV.rk ok q1 r1, NkVs.rk ok q2 r2⟩
end
end
theorem KN.nt {P : Program} {w : World} {H : Hp} {h : Heap} {k : NestedKey} {y : V} {b : Addr} (q : KN H k y b) (ok : HOk P w H h) : NtK h k b := ⟨NkV.rk ok q.nk rfl, q.dep, by rw [bare_plain]; exact q.pl⟩
/-- the set at a, whatever its members are -/
def SetN0 (w : World) (h : Heap) (a : Addr) (L : List KA) : Prop :=
  ∃ (es : Array (Int × Value)) (ep : Nat) (t : SetTable), (∃ o, h.get? a = some o ∧ o.ExactSet ∧ o.data = .set es ep t) ∧ es.toList = rowsN w L ∧ TabOk t (L.map fun p => nkh w p.2) ∧ (L.map (·.2)).Nodup ∧ t.plain = true ∧
    (w.params.followText "set-order" = true ∨ t.led = true) ∧ L.length * 5 < t.mask * 3 ∧ L.length < 64
theorem SetNR.bare0 {w : World} {h : Heap} {a : Addr} {L : List KA} {es : Array (Int × Value)} {ep : Nat} {t : SetTable} (R : SetNR w h a L es ep t) : SetN0 w h a L := ⟨es, ep, t, R.ob, R.rows, R.tab, R.nd, R.plain, R.led, R.room, R.few⟩
theorem SetN0.full {w : World} {h : Heap} {a : Addr} {L : List KA} (R : SetN0 w h a L) (all : ∀ p ∈ L, NtK h p.2 p.1) : ∃ es ep t, SetNR w h a L es ep t :=
  let ⟨es, ep, t, h1, h2, h3, h4, h5, h6, h7, h8⟩ := R
  ⟨es, ep, t, h1, h2, h3, h4, all, h5, h6, h7, h8⟩
theorem refs_are : ∀ {ks : List KA} {us : List Value}, Vals (ks.map fun p => V.ref p.1) us → us = ks.map fun p => Value.ref p.1
  | [], _, .nil => rfl
  | p :: ks, _, .cons r t => by
    obtain rfl : _ = Value.ref p.1 := r
    rw [refs_are t]; rfl
def dedL {α : Type} [DecidableEq α] (l : List α) : List α := l.foldl (fun acc x => if x ∈ acc then acc else acc ++ [x]) []
theorem dedL_go {α : Type} [DecidableEq α] : ∀ (l acc : List α), acc.Nodup → (l.foldl (fun acc x => if x ∈ acc then acc else acc ++ [x]) acc).Nodup ∧ ∀ y, y ∈ l.foldl (fun acc x => if x ∈ acc then acc else acc ++ [x]) acc ↔ y ∈ acc ∨ y ∈ l
  | [], acc, h => ⟨h, fun y => by simp⟩
  | x :: l, acc, h => by
    rw [List.foldl_cons]
    by_cases hx : x ∈ acc
    · rw [if_pos hx]
      obtain ⟨a, b⟩ := dedL_go l acc h
      refine ⟨a, fun y => (b y).trans ?_⟩
      rw [List.mem_cons]
      constructor
      · rintro (z | z)
        · exact .inl z
        · exact .inr (.inr z)
      · rintro (z | rfl | z)
        · exact .inl z
        · exact .inl hx
        · exact .inr z
    · rw [if_neg hx]
      obtain ⟨a, b⟩ := dedL_go l (acc ++ [x]) (List.nodup_append.mpr ⟨h, by simp, fun u hu v hv e => by simp at hv; subst hv; subst e; exact hx hu⟩)
      refine ⟨a, fun y => (b y).trans ?_⟩
      rw [List.mem_cons, List.mem_append, List.mem_singleton, or_assoc]
theorem dedL_nodup {α : Type} [DecidableEq α] (l : List α) : (dedL l).Nodup := (dedL_go l [] .nil).1
theorem dedL_mem {α : Type} [DecidableEq α] {l : List α} {x : α} : x ∈ dedL l ↔ x ∈ l := ((dedL_go l [] .nil).2 x).trans (by simp)
theorem nodup_sub_len {α : Type} [DecidableEq α] : ∀ {L M : List α}, L.Nodup → L ⊆ M → L.length ≤ M.length
  | [], M, _, _ => by simp
  | x :: L, M, nd, h => by
    have hx : x ∈ M := h List.mem_cons_self
    obtain ⟨n1, n2⟩ := List.nodup_cons.mp nd
    have ih := nodup_sub_len (M := M.erase x) n2 fun y hy => by
      have : y ≠ x := fun e => n1 (e ▸ hy)
      exact (List.mem_erase_of_ne this).mpr (h (List.mem_cons_of_mem _ hy))
    rw [List.length_erase_of_mem hx] at ih
    have := List.length_pos_of_mem hx
    simp only [List.length_cons]
    omega
theorem FewN.ded {ks : List KA} (h : ks.length < 64 ∨ (dedL (ks.map (·.2))).length < 63) : FewN ks := by
  rcases h with h | h
  · exact .of h
  · intro i L hi g nd
    have sub : (L.map (·.2)) ⊆ dedL (ks.map (·.2)) := fun x hx => by
      obtain ⟨p, hp, rfl⟩ := List.mem_map.mp hx
      exact dedL_mem.mpr (List.mem_map.mpr ⟨p, List.mem_of_mem_take (g.sub p hp), rfl⟩)
    have := nodup_sub_len nd sub
    rw [List.length_map] at this
    omega
theorem refs_vals : ∀ ks : List KA, Vals (ks.map fun p => V.ref p.1) (ks.map fun p => Value.ref p.1)
  | [] => .nil
  | p :: ks => .cons rfl (refs_vals ks)
section
variable {X : Cx}
def rSetII (K : PySem.W.Frag) (w : World) : List V → Hp → VK → Prop := fun xs H Q => ∃ (l : Addr) (ns : List Int), xs = [V.ref l] ∧ SqL K H l (ns.map V.int) ∧ ns.length < 64 ∧
  ∀ a c, H a = none → c ≤ ns.length → Q (.ref a) (upd H a (SetO w a (fun j => decide (j ∈ ns)) c))
theorem cr_setII (hc : X.calm = true) : CallR X (.type "set") (rSetII X.K X.w) := by
  intro pins s σ H xs us Q I r h
  obtain ⟨l, ns, rfl, hl, hf, q⟩ := h
  rw [Vals.ref1 r]
  obtain ⟨its, rv, pl, hz⟩ := I.list hl
  have hn : H s.heap.objs.size = none := I.hok.fresh (Nat.le_refl _)
  refine call_set_lstI (P := X.prog) (w := X.w) ns (I.ok.hd hc) pl.isList (by simpa using ints_of_vals rv) (by unfold scanBound; omega) fun h' tk c R hcl k => ?_
  exact ⟨.ref s.heap.objs.size, upd H s.heap.objs.size (SetO X.w s.heap.objs.size (fun j => decide (j ∈ ns)) c), I.laid (t' := tk) k (Nat.le_refl _) (setO_new R), rfl, q _ c hn hcl⟩
end
/-! ### the layer -/
def intsAll : List D → Option (List Int)
  | [] => some []
  | .int i :: ds => (intsAll ds).map (i :: ·)
  | _ => none
def keysAll : List D → Option (List NestedKey)
  | [] => some []
  | d :: ds => (nkT d).bind fun k => (keysAll ds).map (k :: ·)
def okKs (ks : List NestedKey) : Bool := (ks.all fun a => ks.all fun b => W.alike a.data b.data) && ks.all fun k => match k with | .tup (_ :: _) => true | _ => false
section
variable {K : PySem.W.Frag} {ρ : List Addr} {S : Sto} {H : Hp}
theorem intsAll_rel : ∀ {ds : List D} {xs : List V} {is : List Int}, RelDs K ρ H ds xs → intsAll ds = some is → xs = is.map V.int
  | [], xs, is, q, e => by
    simp only [RelDs] at q
    cases e; exact q
  | d :: ds, xs, is, q, e => by
    simp only [RelDs] at q
    obtain ⟨x, ys, rfl, q1, q2⟩ := q
    unfold intsAll at e
    split at e
    · rename_i z; cases z
    · rename_i i ds' z
      cases z
      obtain ⟨is', e1, rfl⟩ := Option.map_eq_some_iff.mp e
      rw [q1.int_, intsAll_rel q2 e1]; rfl
    · cases e
theorem keysAll_rel : ∀ {ds : List D} {xs : List V} {ks : List NestedKey}, RelDs K ρ H ds xs → keysAll ds = some ks → ∃ L : List KA, xs = L.map (fun p => V.ref p.1) ∧ L.map (fun p => p.2) = ks ∧ ∀ p ∈ L, KN H p.2 (.ref p.1) p.1
  | [], xs, ks, q, e => by
    simp only [RelDs] at q
    cases e; subst q
    exact ⟨[], rfl, rfl, fun p hp => by simp at hp⟩
  | d :: ds, xs, ks, q, e => by
    simp only [RelDs] at q
    obtain ⟨x, ys, rfl, q1, q2⟩ := q
    simp only [keysAll] at e
    obtain ⟨k, e1, e⟩ := bindE e
    obtain ⟨ks', e2, rfl⟩ := Option.map_eq_some_iff.mp e
    obtain ⟨b, kn⟩ := nkT_rel q1 e1
    obtain ⟨L, h1, h2, h3⟩ := keysAll_rel q2 e2
    have := kn.ref
    subst this
    refine ⟨(b, k) :: L, by rw [List.map_cons, h1], by rw [List.map_cons, h2], fun p hp => ?_⟩
    rcases List.mem_cons.mp hp with rfl | hp
    · exact kn
    · exact h3 p hp
theorem sortK_uniq {ks ms : List NestedKey} (hal : ∀ a ∈ ks, ∀ b ∈ ks, W.alike a.data b.data = true) (p : ks.Perm ms) : sortK ks = sortK ms := by
  have tot := W.sortLe_total (listOrd itemOrd) false fun k : NestedKey => W.keyToks k.data
  refine List.Perm.eq_of_pairwise (le := fun x y => W.dataLe false NestedKey.data x y = true) (fun x y hx hy a b => ?_) (W.sort_pairwise tot _) (W.sort_pairwise tot _) (((List.mergeSort_perm _ _).trans p).trans (List.mergeSort_perm _ _).symm)
  exact le_antisymm_keys (hal _ ((List.mergeSort_perm _ _).mem_iff.mp hx) _ (p.mem_iff.mpr ((List.mergeSort_perm _ _).mem_iff.mp hy))) a b
/-- the values of the keys in order -/
theorem kDs_map : ∀ {L : List KA} {es : List D}, (∀ p ∈ L, KN H p.2 (.ref p.1) p.1) → kDs (L.map fun p => p.2) = some es → RelDs K ρ H es (L.map fun p => V.ref p.1)
  | [], es, _, e => by simp only [List.map_nil, kDs] at e; cases e; exact .nil
  | p :: L, es, h, e => by
    rw [List.map_cons] at e
    simp only [kDs] at e
    obtain ⟨d, e1, e⟩ := bindE e
    obtain ⟨ds, e2, rfl⟩ := Option.map_eq_some_iff.mp e
    rw [List.map_cons]
    exact .cons (kD_rel (h p List.mem_cons_self).nk e1) (kDs_map (fun q hq => h q (List.mem_cons_of_mem _ hq)) e2)
end
theorem okKs_alike {ks : List NestedKey} (h : okKs ks = true) : ∀ a ∈ ks, ∀ b ∈ ks, W.alike a.data b.data = true := fun a ha b hb => by
  unfold okKs at h
  rw [Bool.and_eq_true] at h
  exact List.all_eq_true.mp (List.all_eq_true.mp h.1 a ha) b hb
theorem okKs_tup {ks : List NestedKey} (h : okKs ks = true) : ∀ a ∈ ks, ∃ x r, a.data = .tuple (x :: r) := fun a ha => by
  unfold okKs at h
  rw [Bool.and_eq_true] at h
  have := List.all_eq_true.mp h.2 a ha
  cases a with
  | tup l =>
    cases l with
    | nil => cases this
    | cons k l => exact ⟨k.data, NestedKey.datas l, by simp only [NestedKey.data, NestedKey.datas]⟩
  | _ => cases this
section
variable {X : Cx} {e : Expr} {f : EvE} {p p2 pos pos2 : Pos}
end
/-! xs.index(x), the items tuples of any depth -/
section
variable {X : Cx}
end
end SW
/-! list(range(a, b)), xs.pop(i), reversed(range(..)), len(set(xs)) -/
namespace SW
open PySem L2 PyProof.Rows
section
variable {X : Cx}
end
section
variable {K : PySem.W.Frag} {ρ : List Addr} {S : Sto} {H : Hp}
end
/-! len(set(xs)) -/
section
variable {X : Cx}
end
section
variable {X : Cx} {e : Expr} {f : EvE} {p p2 pos pos2 : Pos}
end
end SW
/-! Instances: attributes read and written, methods, new ones. -/
namespace SW
open PySem L2

section
variable {K : PySem.W.Frag} {ρ : List Addr} {H : Hp}
theorem RelKV.lookup {f : Str} : ∀ {kds : List (Str × D)} {kvs : List (Str × V)}, RelKV K ρ H kds kvs → (∀ d, kds.lookup f = some d → ∃ v, kvs.lookup f = some v ∧ RelD K ρ H d v) ∧ (kds.lookup f = none → kvs.lookup f = none)
  | [], kvs, h => by
    have := RelKV.nil_ h
    subst this
    exact ⟨fun d e => by simp at e, fun _ => rfl⟩
  | (g, d0) :: kds, kvs, h => by
    obtain ⟨v0, r, rfl, r0, hr⟩ := RelKV.split h
    have ih := RelKV.lookup (f := f) hr
    by_cases e : f = g
    · subst e
      have hb : (f == f) = true := beq_self_eq_true f
      refine ⟨fun d e => ?_, fun e => ?_⟩
      · simp only [List.lookup, hb, Option.some.injEq] at e
        subst e
        exact ⟨v0, by simp only [List.lookup, hb], r0⟩
      · simp only [List.lookup, hb] at e; cases e
    · have hb : (f == g) = false := beq_eq_false_iff_ne.mpr e
      refine ⟨fun d e => ?_, fun e => ?_⟩
      · simp only [List.lookup, hb] at e ⊢
        exact ih.1 d e
      · simp only [List.lookup, hb] at e ⊢
        exact ih.2 e
/-- an attribute put -/
def pF (f : Str) (d : D) : List (Str × D) → List (Str × D)
  | [] => [(f, d)]
  | (g, x) :: r => if g = f then (g, d) :: r else (g, x) :: pF f d r
end
/-- what the class of that name is; it has no attribute f of its own -/
structure ClsA (K : PySem.W.Frag) (c : String) (f : Str) : Prop where
  ex : ∃ C, PySem.W.nsIn K mainGlobals c = some (some (.ref C)) ∧ Cls K C ∧ NoAttr K C f
theorem ClsA.at_ {K : PySem.W.Frag} {c : String} {f : Str} (h : ClsA K c f) {C : Addr} (e : PySem.W.nsIn K mainGlobals c = some (some (.ref C))) : Cls K C ∧ NoAttr K C f := by
  obtain ⟨C', e', a, b⟩ := h.ex
  rw [e] at e'
  simp only [Option.some.injEq, Value.ref.injEq] at e'
  subst e'
  exact ⟨a, b⟩
def ClsAs (K : PySem.W.Frag) (cs : List String) (f : Str) : Prop := ∀ c ∈ cs, ClsA K c f
theorem ClsAs.nil {K : PySem.W.Frag} {f : Str} : ClsAs K [] f := fun c h => by simp at h
theorem ClsAs.cons {K : PySem.W.Frag} {c : String} {cs : List String} {f : Str} (h : ClsA K c f) (g : ClsAs K cs f) : ClsAs K (c :: cs) f := fun x hx => by
  rcases List.mem_cons.mp hx with rfl | hx
  · exact h
  · exact g x hx
def fstD (cs : List String) (f : Str) (o d : D) (S : Sto) : Option Sto := match o with
  | .loc n => match S[n]? with
    | some (.ins c fs) => if c ∈ cs ∧ fs.length < 999 then some (S.set n (.ins c (pF f d fs))) else none
    | _ => none
  | _ => none
section
variable {X : Cx} {W : WX} {cs : List String} {f : Str}
end
end SW
namespace SW
open PySem L2

end SW
/-! slices of tuples with a step (not 1) -/
namespace SW
open PySem PySem.Spec L2 PyProof.Rows HT

section
variable {prog : Program} {w : World} {A : Around} {E : Value → Shared → Prop} {s : Shared}
end
section
variable {X : Cx}
end
end SW
/-! zip of a list and a tuple, or of two tuples -/
namespace SW
open PySem PySem.Spec PyProof.Rows L2

section
variable {X : Cx} {K : PySem.W.Frag} {ρ : List Addr} {S : Sto} {H : Hp} {e e2 : Expr}
end
end SW
/-! sorted(d), a dict of ints -/
namespace SW
open PySem PySem.Spec PyProof.Rows L2

end SW
/-! repr of data, in the law's own def: no repr is under way where the law is asked -/
namespace SW
open PySem L2 PyProof.Rows

section
variable {X : Cx} {K : PySem.W.Frag} {ρ : List Addr} {S : Sto} {H : Hp}
/-- data that repr tells by itself -/
def tells (p : PyData) : Bool := p.showable && !p.hasDict && decide (p.shown.length ≤ 10000000)
end
/-! a def that is called where no repr is under way -/
structure FnG (P : Program) (w : World) (K : PySem.W.Frag) (mg : Str → Option Value) (base : Heap) (k : Nat) (f : Addr) (fd : FuncData) (ps : List Str) (sp : Sp) : Prop where
  len : ∀ vs H Q E, sp vs H Q E → vs.length = ps.length
  run : ∀ (A : Around) (outer : List Env) (s : Shared) (H : Hp) (args : Args) (us : List Value) (vs : List V) (Q : VK) (E : XK), Room k A → A.guards = some [] → Env0 P w K mg base A outer s H → BindsTo s fd args (ps.zip us) → Vals vs us → sp vs H Q E →
    codeAny (model P w) A (.call (.ref f) args) (CR CX0 outer P w H s Q E) s
theorem FnG.mono {P : Program} {w : World} {K : PySem.W.Frag} {mg : Str → Option Value} {base : Heap} {j k : Nat} {f : Addr} {fd : FuncData} {ps : List Str} {sp : Sp} (F : FnG P w K mg base j f fd ps sp) (h : j ≤ k) : FnG P w K mg base k f fd ps sp :=
  ⟨F.len, fun A outer s H args us vs Q E room => F.run A outer s H args us vs Q E (room.mono h)⟩
section
variable {P : Program} {w : World} {K : PySem.W.Frag} {mg : Str → Option Value} {base : Heap}
end
end SW
namespace SW
open PySem L2
section
variable {X : Cx} {pos : Pos}
end
end SW
/-! sorted(t), a tuple of ints -/
namespace PySem
open Sem (wp)
open PyProof.Rows
open AutoSeq1
section
variable {prog : Program} {w : World} {A : Around} {E : Value → Shared → Prop} {s : Shared}
end
end PySem
namespace SrtO
open PySem PyProof.Rows Srt
variable {prog : Program} {w : World} {A : Around} {E : Value → Shared → Prop} {s : Shared}
end SrtO
namespace SW
open PySem PySem.Spec PyProof.Rows L2
end SW
/-! dict(list of pairs), the keys ints -/
namespace SW
open PySem L2 PyProof.Rows

section
variable {K : PySem.W.Frag} {ρ : List Addr} {S : Sto} {H : Hp}
end
end SW
/-! list(d.values()), the keys ints and texts -/
namespace SW
open PySem PySem.Spec PyProof.Rows L2

section
variable {X : Cx} {e : Expr} {f : EvE} {p pos apos pos2 : Pos}
end
end SW
/-! d.setdefault(k, v), the keys ints and texts -/
namespace SW
open PySem PySem.Spec PyProof.Rows L2

section
variable {X : Cx} {o e f : Expr} {fo fe ff : EvE} {apos cpos : Pos}
end
end SW
/-! defs that may raise; raise; calls of such defs -/
namespace SW
open PySem PySem.Spec PyProof.Rows L2

/-- what a call comes to -/
inductive Rs where
  | val (d : D)
  | exc (c : String) (fs : List (Str × D))
section
variable {P : Program} {w : World} {K : PySem.W.Frag} {mg : Str → Option Value} {base : Heap}
end
section
variable {X : Cx} {W : WX}
end
end SW
/-! try: .. except X as n: y = n -- the exception is held -/
namespace SW
open PySem PySem.Spec PyProof.Rows L2

end SW
/-! try in the layer -/
namespace SW
open PySem PySem.Spec PyProof.Rows L2

/-- the exceptions of these classes are caught by the class of value cv -/
def Caught (K : PySem.W.Frag) (subs : List String) (cv : Value) : Prop := ∀ c ∈ subs, ∃ C, PySem.W.nsIn K mainGlobals c = some (some (.ref C)) ∧ PySem.W.exmOne K (.ref C) cv = some true
theorem Caught.nil {K : PySem.W.Frag} {cv : Value} : Caught K [] cv := fun c h => by cases h
theorem Caught.cons {K : PySem.W.Frag} {cv : Value} {c : String} {C : Addr} {subs : List String} (h0 : PySem.W.nsIn K mainGlobals c = some (some (.ref C))) (h : PySem.W.exmOne K (.ref C) cv = some true) (t : Caught K subs cv) : Caught K (c :: subs) cv := fun x hx => by
  rcases List.mem_cons.mp hx with rfl | hx
  · exact ⟨C, h0, h⟩
  · exact t x hx
section
variable {X : Cx} {W : WX}
end
end SW
/-! isinstance of an exception that is held -/
namespace SW
open PySem PySem.Spec PyProof.Rows L2

section
variable {X : Cx}
end
/-- the table tells of each class what isinstance tells -/
def IsTbl (K : PySem.W.Frag) (cvs : List Value) (tup : Bool) (tbl : List (String × Bool)) : Prop := ∀ c b, tbl.lookup c = some b → ∃ C, PySem.W.nsIn K mainGlobals c = some (some (.ref C)) ∧ ExcC K C ∧ (if tup then PySem.W.kitAny K (.ref C) cvs = some b else ∃ cv, cvs = [cv] ∧ PySem.W.kitOne K (.ref C) cv = some b)
theorem IsTbl.nil {K : PySem.W.Frag} {cvs : List Value} {tup : Bool} : IsTbl K cvs tup [] := fun c b h => by cases h
theorem IsTbl.cons {K : PySem.W.Frag} {cvs : List Value} {tup : Bool} {c : String} {b : Bool} {C : Addr} {tbl : List (String × Bool)} (h0 : PySem.W.nsIn K mainGlobals c = some (some (.ref C))) (h1 : ExcC K C) (h2 : if tup then PySem.W.kitAny K (.ref C) cvs = some b else ∃ cv, cvs = [cv] ∧ PySem.W.kitOne K (.ref C) cv = some b) (t : IsTbl K cvs tup tbl) : IsTbl K cvs tup ((c, b) :: tbl) := fun x v hx => by
  rw [List.lookup_cons] at hx
  split at hx
  · rename_i e
    have e : x = c := by simpa using e
    subst e
    cases hx
    exact ⟨C, h0, h1, h2⟩
  · exact t x v hx
section
variable {X : Cx} {W : WX}
end
end SW
/-! len(f(..)), f may raise; ties to gen.py -/
namespace SW
open PySem PySem.Spec PyProof.Rows L2

section
variable {X : Cx} {W : WX}
end
end SW
/-! dict displays of more keys, xs.remove(k) -/
namespace SW
open PySem L2
section
variable {X : Cx} {pos : Pos}
end
section
variable {K : PySem.W.Frag}
end
end SW
/-! xs.count(b), xs a list of truths -/
namespace L2
open PySem PySem.Spec PyProof.Rows
section
variable {X : Cx}
end
end L2
namespace SW
open PySem L2
section
variable {K : PySem.W.Frag}
end
end SW
/-! try: .. except X as n: a suite that looks at n -/
namespace SW
open PySem PySem.Spec PyProof.Rows L2

section
variable {X : Cx} {W : WX}
end
end SW
/-! for k, v in f().items(): the dict stays locked from there on -/
namespace SW
open PySem PySem.Spec PyProof.Rows L2

section
variable {X : Cx}
end
end SW
/-! dict displays of four keys -/
namespace SW
open PySem L2
section
variable {X : Cx} {pos : Pos}
end
end SW
/-! text * n -/
namespace L2
open PySem PySem.Spec PyProof.Rows
end L2
namespace SW
open PySem L2
section
variable {K : PySem.W.Frag}
end
end SW
/-! x in a tuple of data of any depth -/
namespace L2
open PySem PySem.Spec PyProof.Rows
end L2
namespace SW
open PySem L2
section
variable {K : PySem.W.Frag}
end
section
variable {X : Cx} {a b : Expr} {fa fb : EvE} {pos : Pos}
end
end SW
/-! for with targets that look into the store; a, b, .. = a list -/
namespace SW
open PySem PySem.Spec PyProof.Rows L2
section
variable {X : Cx} {W : WX} {tg : Expr} {pos : Pos}
end
end SW
/-! d.pop(k) where the keys are tuples; d.get(e) where e may raise; x in a tuple of data, as a value -/
namespace L2
open PySem PySem.Spec PyProof.Rows
section
variable {X : Cx}
end
end L2
namespace SW
open PySem L2
section
variable {K : PySem.W.Frag} {ρ : List Addr} {S : Sto} {H : Hp}
theorem RelKV.drop {κ : Type} [DecidableEq κ] {k : κ} : ∀ {kds : List (κ × D)} {kvs : List (κ × V)}, RelKV K ρ H kds kvs → RelKV K ρ H (kds.filter fun p => decide (p.1 ≠ k)) (dropK kvs k)
  | [], kvs, h => by rw [h.nil_]; exact .nil
  | (k0, d) :: kds, kvs, h => by
    obtain ⟨v, r, rfl, h1, h2⟩ := h.split
    have ih := RelKV.drop (k := k) h2
    by_cases e : k0 = k
    · have a1 : ((k0, d) :: kds).filter (fun p => decide (p.1 ≠ k)) = kds.filter fun p => decide (p.1 ≠ k) := List.filter_cons_of_neg (by simp [e])
      have a2 : dropK ((k0, v) :: r) k = dropK r k := List.filter_cons_of_neg (by simp [e])
      rw [a1, a2]; exact ih
    · have a1 : ((k0, d) :: kds).filter (fun p => decide (p.1 ≠ k)) = (k0, d) :: kds.filter fun p => decide (p.1 ≠ k) := List.filter_cons_of_pos (by simp [e])
      have a2 : dropK ((k0, v) :: r) k = (k0, v) :: dropK r k := List.filter_cons_of_pos (by simp [e])
      rw [a1, a2]; exact .cons h1 ih
end
section
variable {X : Cx} {W : WX} {a b o e : Expr} {fa fb fo : EvE} {pos apos cpos : Pos}
end
end SW
set_option maxHeartbeats 1000000
/-! tuple(reversed(x)), x a tuple -/
namespace RT
open PySem PySem.Spec PyProof.Rows
section
variable {prog : Program} {w : World} {A : Around} {E : Value → Shared → Prop} {s : Shared}
end
end RT
namespace SW
open PySem L2 PyProof.Rows
section
variable {X : Cx} {e : Expr} {te : TE} {f : EvE} {p p2 pos pos2 : Pos}
end
end SW
/-! min(a, b) and max(a, b) of two pairs of numbers -/
namespace SW
open PySem L2 PyProof.Rows PySem.W

section
variable {prog : Program} {w : World} {A : Around} {E : Value → Shared → Prop} {s : Shared}
/-- the first pair is ahead of the second one -/
def prLt (i j k l : Int) : Prop := i < k ∨ (i = k ∧ j < l)
instance : Decidable (prLt i j k l) := inferInstanceAs (Decidable (_ ∨ _))
end
variable {K : PySem.W.Frag}
end SW
/-! one walk or another one; tuple * n for n of two and more -/
namespace SW
open PySem L2
section
variable {X : Cx} {tg e : Expr} {K : PySem.W.Frag}
end
end SW
/-! a truth and a number added -/
namespace SW
open PySem L2
section
variable {X : Cx} {K : PySem.W.Frag}
end
end SW
/-! comprehensions whose target a, b = a tuple or a list -/
namespace SW
open PySem PySem.Spec PyProof.Rows L2
section
variable {K : PySem.W.Frag} {ρ : List Addr} {S : Sto} {H : Hp}
end
end SW
/-! enumerate(zip(a, b)) of two tuples: the zip's own tuple stays given out, so it makes a new one each time (or uses its own again, where that is free). -/
namespace SW
open PySem PySem.Spec PyProof.Rows L2

section
variable {prog : Program} {w : World} {A : Around} {E : Value → Shared → Prop} {s : Shared}
end
section
variable {prog : Program} {w : World} {A : Around} {E : Value → Shared → Prop} {s : Shared} {z TI TO i1 i2 : Addr} {l1 l2 : List Addr} {n1 n2 i : Nat} {P1 P2 : Nat → Value → Prop} {St1 St2 : Nat → Heap → Prop} {u1 u2 f0 f1 : Value}
end
end SW
namespace SW
open PySem PySem.Spec PyProof.Rows L2

section
variable {prog : Program} {w : World} {A : Around} {E : Value → Shared → Prop} {s : Shared} {z TI TO i1 i2 e : Addr} {l1 l2 : List Addr} {n1 n2 i : Nat} {P1 P2 : Nat → Value → Prop} {St1 St2 : Nat → Heap → Prop} {c : Int} {old : Value}
end
end SW
namespace SW
open PySem PySem.Spec PyProof.Rows L2

section
variable {prog : Program} {w : World} {A : Around} {E : Value → Shared → Prop} {s : Shared}
end
/-! in the layer -/
section
variable {X : Cx} {K : PySem.W.Frag} {ρ : List Addr} {S : Sto} {H : Hp} {e e2 : Expr}
end
end SW
/-! sorted(set(t)), t a tuple of tuples of any depth -/
namespace SW
open PySem PySem.Spec PyProof.Rows L2

section
variable {P : Program} {w : World} {A : Around} {E : Value → Shared → Prop} {s : Shared}
end
section
variable {X : Cx}
end
section
variable {X : Cx} {e : Expr} {f : EvE} {p p2 pos pos2 : Pos}
end
end SW
/-! str(i), bool(i) -/
namespace SW
open PySem PySem.Spec PyProof.Rows L2

section
variable {K : PySem.W.Frag}
end
section
variable {K : PySem.W.Frag}
end
end SW
/-! sorted(xs), xs a list of tuples of any depth -/
namespace SW
open PySem PySem.Spec PyProof.Rows L2

section
variable {P : Program} {w : World} {A : Around} {E : Value → Shared → Prop} {s : Shared}
end
section
variable {X : Cx}
end
end SW
set_option maxHeartbeats 1000000
/-! list(reversed(x)), x a list; f() -/
namespace RT
open PySem PySem.Spec PyProof.Rows PySem.W
section
variable {prog : Program} {w : World} {A : Around} {E : Value → Shared → Prop} {s : Shared}
end
end RT
namespace SW
open PySem L2 PyProof.Rows
section
variable {X : Cx} {e : Expr} {te : TE} {f : EvE} {p p2 pos pos2 : Pos}
end
/-! f() -/
section
variable {X : Cx}
end
end SW
set_option maxHeartbeats 1000000
/-! dict(d): a copy, the keys pairs of small numbers -/
namespace RT
open PySem PySem.Spec PyProof.Rows PySem.W
section
variable {K : Type} [DecidableEq K] {prog : Program} {w : World} {A : Around} {E : Value → Shared → Prop} {s : Shared} {knd : HeapKind prog w K}
end
end RT
namespace SW
open PySem L2 PyProof.Rows
end SW
/-! sorted(set(t)), t a tuple of numbers -/
namespace SW
open PySem PySem.Spec PyProof.Rows L2

section
variable {P : Program} {w : World} {A : Around} {E : Value → Shared → Prop} {s : Shared}
end
section
variable {X : Cx}
end
section
variable {X : Cx} {e : Expr} {f : EvE} {p p2 pos pos2 : Pos}
end
end SW
set_option maxHeartbeats 1000000
/-! sum(list of lists, []) -/
namespace RT
open PySem PySem.Spec PyProof.Rows
section
variable {prog : Program} {w : World} {A : Around} {E : Value → Shared → Prop} {s : Shared}
end
section
variable {prog : Program} {w : World} {A : Around} {R : Result → Shared → Prop} {I : Addr} {fp wr : List Addr} {G : Array GenState → Array GenState → Prop} {n : Nat} {P : Nat → Value → Prop} {St : Nat → Shared → Prop}
end
section
variable {prog : Program} {w : World} {A : Around} {E : Value → Shared → Prop} {s : Shared}
end
end RT
namespace SW
open PySem PySem.Spec PyProof.Rows L2
section
variable {X : Cx}
end
section
variable {K : PySem.W.Frag} {ρ : List Addr} {S : Sto} {H : Hp}
end
end SW
/-! a list of anything against []; xs.count(None) -/
namespace L2
open PySem PySem.Spec PyProof.Rows
section
variable {X : Cx}
end
end L2
namespace SW
open PySem L2
section
variable {K : PySem.W.Frag}
end
end SW
/-! sorted(set(xs)) with up to 76 members -/
namespace SW
open PySem PySem.Spec PyProof.Rows L2
section
variable {P : Program} {w : World} {A : Around} {E : Value → Shared → Prop} {s : Shared}
structure SetNRB (w : World) (h : Heap) (a : Addr) (L : List KA) (es : Array (Int × Value)) (ep : Nat) (t : SetTable) : Prop where
  ob : ∃ o, h.get? a = some o ∧ o.ExactSet ∧ o.data = .set es ep t
  rows : es.toList = rowsN w L
  tab : TabOk t (L.map fun p => nkh w p.2)
  nd : (L.map (·.2)).Nodup
  tup : ∀ p ∈ L, NtK h p.2 p.1
  plain : t.plain = true
  led : w.params.followText "set-order" = true ∨ t.led = true
  room : L.length * 5 < t.mask * 3
  few : L.length < 77
variable {a : Addr} {L : List KA} {es : Array (Int × Value)} {ep : Nat} {t : SetTable}
theorem SetNRB.size (R : SetNRB w s.heap a L es ep t) : es.size = L.length := by
  have h := congrArg List.length R.rows
  unfold rowsN at h
  rw [Array.length_toList, List.length_map] at h
  exact h
theorem SetNRB.fits (R : SetNRB w s.heap a L es ep t) : t.fits es.size = true := by
  have h1 := R.tab.sz
  rw [List.length_map] at h1
  have h2 := R.size
  have h3 := R.room
  unfold SetTable.fits SetTable.fill
  rw [R.tab.dm, Bool.and_eq_true, beq_iff_eq, decide_eq_true_eq]
  show t.place.size = es.size ∧ t.place.size + 0 ≤ t.mask
  omega
theorem SetNRB.entry (R : SetNRB w s.heap a L es ep t) {i : Nat} {p : KA} (h : L[i]? = some p) : es[i]? = some (nkh w p.2, Value.ref p.1) := by
  rw [← Array.getElem?_toList, R.rows]
  unfold rowsN
  rw [List.getElem?_map, h] <;> rfl
theorem SetNRB.gw (R : SetNRB w s.heap a L es ep t) : ¬ t.gaveWay = true := by
  unfold SetTable.gaveWay
  rw [mask_odd R.tab.mok]
  decide
/-- THE SEARCH: from the c-th step of the way on -/
theorem nsearchB_from (R : SetNRB w s.heap a L es ep t) {x : Addr} {k : NestedKey} (hx : NtK s.heap k x) (hu : A.units + 8 < cLine) {K : Nat} (hKf : K < 10 * SetTable.turns t.mask)
    (hK : way t.mask (nkh w k) K ∉ t.place.toList) (hKb : ∀ c, c < K → way t.mask (nkh w k) c ∈ t.place.toList) {Q : SetFound → Shared → Prop}
    (hin : k ∈ L.map (·.2) → Q (.there none) s) (hout : k ∉ L.map (·.2) → Q (.free (way t.mask (nkh w k) K) false) s) :
    ∀ (f c : Nat) (stand : Option SetTable.Probe), stand.getD (t.probeStart (nkh w k)) = nth t.mask (runAt t.mask (SetTable.bits (nkh w k) % (t.mask + 1)) (SetTable.bits (nkh w k))) c → c ≤ K → K - c < f →
      (∀ (i : Nat) p, L[i]? = some p → p.2 = k → ∃ c', c ≤ c' ∧ c' < K ∧ t.place.toList[i]? = some (way t.mask (nkh w k) c')) →
      wpAny (model P w) A (setSearchFrom a (.ref x) (nkh w k) true f stand) Q E s
  | 0, c, stand, _, _, hf, _ => absurd hf (Nat.not_lt_zero _)
  | f + 1, c, stand, hst, hc, hf, hre => by
    obtain ⟨o, ho, hex, hd⟩ := R.ob
    rw [setSearchFrom_succ]
    refine wpAny_bind (wpAny_setState_of ho hd R.fits ?_)
    dsimp only
    refine wp_if_neg R.gw ?_
    try refine wpAny_bind (wpAny_pure ?_)
    have hnd : (nth t.mask (runAt t.mask (SetTable.bits (nkh w k) % (t.mask + 1)) (SetTable.bits (nkh w k))) c).dummy = none := by
      have key : ∀ (n : Nat) (p : SetTable.Probe), p.dummy = none → (nth t.mask p n).dummy = none := by
        intro n
        induction n with
        | zero => intro p h; exact h
        | succ n ih =>
          intro p h
          refine ih (adv t.mask p) ?_
          unfold adv
          split <;> exact h
      exact key c _ rfl
    have sh : ∀ q, nth t.mask (nth t.mask (runAt t.mask (SetTable.bits (nkh w k) % (t.mask + 1)) (SetTable.bits (nkh w k))) c) q = nth t.mask (runAt t.mask (SetTable.bits (nkh w k) % (t.mask + 1)) (SetTable.bits (nkh w k))) (c + q) := fun q => (nth_add t.mask c _ q).symm
    have e1 : ∀ q, (nth t.mask (nth t.mask (runAt t.mask (SetTable.bits (nkh w k) % (t.mask + 1)) (SetTable.bits (nkh w k))) c) q).j = way t.mask (nkh w k) (c + q) := fun q => congrArg SetTable.Probe.j (sh q)
    have spec := go_spec t R.tab.ris R.tab.dm (fun i => (es[i]?.map (·.1)).getD 0) (nkh w k) (10 * SetTable.turns t.mask) (K - c) _ hnd (by omega)
      (fun q hq => by rw [e1]; exact hKb (c + q) (by omega)) (by rw [e1, show c + (K - c) = K by omega]; exact hK)
    have hashAt : ∀ (i : Nat) p, L[i]? = some p → (fun i => (es[i]?.map (·.1)).getD 0) i = nkh w p.2 := fun i p hp => by
      show (es[i]?.map (·.1)).getD 0 = _
      rw [R.entry hp] <;> rfl
    rcases spec with ⟨q, i, hq, hi, hh, hno, hpr⟩ | ⟨hno, hpr⟩
    · -- a candidate
      have hpr' : t.probe (fun i => (es[i]?.map (·.1)).getD 0) (nkh w k) (stand.getD (t.probeStart (nkh w k))) = some (.candidate (way t.mask (nkh w k) (c + q)) i (nth t.mask (runAt t.mask (SetTable.bits (nkh w k) % (t.mask + 1)) (SetTable.bits (nkh w k))) (c + (q + 1)))) := by
        rw [hst, ← e1, ← sh]
        exact hpr
      rw [hpr']
      dsimp only
      rw [e1] at hi
      -- the entry
      have hil : i < L.length := by
        have h1 : i < t.place.toList.length := (List.getElem?_eq_some_iff.mp hi).1
        have h2 := R.tab.sz
        rw [List.length_map] at h2
        rw [Array.length_toList] at h1
        omega
      have hp : L[i]? = some L[i] := List.getElem?_eq_getElem hil
      generalize hpe : L[i] = p at hp
      have hmem : p ∈ L := List.mem_of_getElem? hp
      have hpt := R.tup p hmem
      have rest : wpAny (model P w) A (searchRest a (.ref x) (nkh w k) true f es t (way t.mask (nkh w k) (c + q)) i (nth t.mask (runAt t.mask (SetTable.bits (nkh w k) % (t.mask + 1)) (SetTable.bits (nkh w k))) (c + (q + 1)))) Q E s := by
        unfold searchRest
        rw [R.entry hp]
        dsimp only
        refine wpAny_bind (wpAny_holding (ntK_eq hu hpt hx ?_))
        refine wpAny_bind (wpAny_setState_of ho hd R.fits ?_)
        dsimp only
        by_cases hkk : p.2 = k
        · refine wp_if_pos (by simp [hkk]) ?_
          refine wpAny_pure (hin ?_)
          exact List.mem_map.mpr ⟨p, hmem, hkk⟩
        · refine wp_if_neg (by simp [hkk]) ?_
          try refine wpAny_bind (wpAny_pure ?_)
          rw [nsameMem]
          dsimp only
          have hsl : t.slot (way t.mask (nkh w k) (c + q)) = .live i := slot_live R.tab.ris hi
          simp only [if_true, hsl, R.entry hp]
          refine wpAny_bind (wpAny_isSame_ref_self (wpAny_bind (wpAny_pure ?_)))
          simp only [if_true]
          refine wp_if_neg (by simp [hkk]) ?_
          refine nsearchB_from R hx hu hKf hK hKb hin hout f (c + (q + 1)) _ rfl (by omega) (by omega) fun i0 p0 h0 hk0 => ?_
          obtain ⟨c', a1, a2, a3⟩ := hre i0 p0 h0 hk0
          refine ⟨c', ?_, a2, a3⟩
          -- it isn't passed
          rcases Nat.lt_or_ge c' (c + q) with z | z
          · exfalso
            refine hno (c' - c) i0 (by omega) (by rw [e1, show c + (c' - c) = c' by omega]; exact a3) ?_
            exact (hashAt i0 p0 h0).trans (congrArg (nkh w) hk0)
          · rcases Nat.lt_or_ge (c + q) c' with y | y
            · omega
            · exfalso
              have ec : c' = c + q := Nat.le_antisymm y z
              rw [ec] at a3
              have s0 := slot_live R.tab.ris a3
              rw [hsl] at s0
              injection s0 with s0
              rw [← s0, hp] at h0
              exact hkk ((congrArg Prod.snd (Option.some.inj h0)).trans hk0)
      by_cases hl : t.led = true
      · refine wp_if_neg (by simp [hl]) ?_
        try refine wpAny_bind (wpAny_pure ?_)
        exact rest
      · refine wp_if_pos (by simp [hl]) ?_
        refine wpAny_bind (ntK_seen hx (fun y hy => ?_) ?_)
        · obtain ⟨e, he, ee⟩ := List.mem_map.mp hy
          have he1 : e ∈ es ∧ e.1 = nkh w k := by simpa using he
          have he2 : e ∈ es.toList := by simpa using he1.1
          rw [R.rows] at he2
          obtain ⟨p2, hp2, e2⟩ := List.mem_map.mp he2
          refine ⟨p2.2, p2.1, ?_, R.tup p2 hp2⟩
          rw [← ee, ← e2]
        · refine wp_if_neg (by decide) ?_
          try refine wpAny_bind (wpAny_pure ?_)
          exact rest
    · -- the empty slot
      have hpr' : t.probe (fun i => (es[i]?.map (·.1)).getD 0) (nkh w k) (stand.getD (t.probeStart (nkh w k))) = some (.empty (way t.mask (nkh w k) K) none) := by
        have e2 : way t.mask (nkh w k) K = (nth t.mask (nth t.mask (runAt t.mask (SetTable.bits (nkh w k) % (t.mask + 1)) (SetTable.bits (nkh w k))) c) (K - c)).j := by
          rw [e1, show c + (K - c) = K by omega]
        rw [hst, e2]
        exact hpr
      rw [hpr']
      dsimp only
      refine wpAny_pure (hout fun hm => ?_)
      obtain ⟨p0, h0, hk0⟩ := List.mem_map.mp hm
      obtain ⟨i0, hi0, e0⟩ := List.getElem_of_mem h0
      have h00 : L[i0]? = some p0 := by rw [List.getElem?_eq_getElem hi0, e0]
      obtain ⟨c', a1, a2, a3⟩ := hre i0 p0 h00 hk0
      refine hno (c' - c) i0 (by omega) (by rw [e1, show c + (c' - c) = c' by omega]; exact a3) ?_
      exact (hashAt i0 p0 h00).trans (congrArg (nkh w) hk0)

/-- the search as adding asks for it -/
theorem nsearchB_at (R : SetNRB w s.heap a L es ep t) {x : Addr} {k : NestedKey} (hx : NtK s.heap k x) (hu : A.units + 8 < cLine) {Q : SetFound → Shared → Prop}
    (hin : k ∈ L.map (·.2) → Q (.there none) s)
    (hout : ∀ K, k ∉ L.map (·.2) → way t.mask (nkh w k) K ∉ t.place.toList → (∀ c, c < K → way t.mask (nkh w k) c ∈ t.place.toList) → Q (.free (way t.mask (nkh w k) K) false) s) :
    wpAny (model P w) A (setSearch a (.ref x) (nkh w k) true) Q E s := by
  have hroom := R.room
  obtain ⟨K, hKf, hK, hKb⟩ := R.tab.first (by rw [List.length_map]; omega) (nkh w k)
  have hbig : K < 100000 := by
    have : 10 * SetTable.turns t.mask ≤ 1420 := by
      unfold SetTable.turns
      rcases R.tab.mok with e | e | e <;> omega
    omega
  unfold setSearch
  refine nsearchB_from R hx hu hKf hK hKb hin (fun hn => hout K hn hK hKb) 100000 0 none rfl (Nat.zero_le _) (by omega) fun i p hp hk => ?_
  have hi : (L.map fun p => nkh w p.2)[i]? = some (nkh w k) := by rw [List.getElem?_map, hp, ← hk] <;> rfl
  have hil : i < t.place.toList.length := by
    have h1 : i < L.length := (List.getElem?_eq_some_iff.mp hp).1
    have h2 := R.tab.sz
    rw [List.length_map] at h2
    rw [Array.length_toList]
    omega
  have hj := List.getElem?_eq_getElem hil
  obtain ⟨c, hc, e⟩ := R.tab.before hK hi hj
  exact ⟨c, Nat.zero_le _, hc, by rw [hj, e]⟩
--B
theorem norderB_rows (L : List KA) (es : Array (Int × Value)) (order : Array Nat) (hr : es.toList = rowsN w L) (hp : order.toList.Perm (List.range L.length)) :
    ∃ L2, (order.filterMap (es[·]?)).toList = rowsN w L2 ∧ L2.Perm L ∧ (L2.map fun p => nkh w p.2) = order.toList.map fun i => (es.map (·.1)).getD i 0 := by
  have hsz : es.size = L.length := by
    have h := congrArg List.length hr
    unfold rowsN at h
    rw [Array.length_toList, List.length_map] at h
    exact h
  have ent : ∀ i (h : i < L.length), es[i]? = some (nkh w (L[i]).2, Value.ref (L[i]).1) := fun i h => by
    rw [← Array.getElem?_toList, hr]
    unfold rowsN
    rw [List.getElem?_map, List.getElem?_eq_getElem h] <;> rfl
  have key : ∀ l : List Nat, (∀ i ∈ l, i < L.length) → ∃ L2 : List KA, l.filterMap (fun i => es[i]?) = rowsN w L2 ∧ L2 = l.filterMap (fun i => L[i]?) ∧ (L2.map fun p => nkh w p.2) = l.map fun i => (es.map (·.1)).getD i 0 := by
    intro l
    induction l with
    | nil => intro _; exact ⟨[], rfl, rfl, rfl⟩
    | cons i l ih =>
      intro hl
      have hi := hl i List.mem_cons_self
      obtain ⟨L2, e1, e2, e3⟩ := ih fun j hj => hl j (List.mem_cons_of_mem _ hj)
      refine ⟨L[i] :: L2, ?_, ?_, ?_⟩
      · rw [List.filterMap_cons_some (ent i hi), e1] <;> rfl
      · rw [List.filterMap_cons_some (List.getElem?_eq_getElem hi), e2]
      · rw [List.map_cons, List.map_cons, e3]
        have hi2 : i < (es.map (·.1)).size := by rw [Array.size_map, hsz]; exact hi
        have e4 : (es.map (·.1)).getD i 0 = nkh w (L[i]).2 := by
          have e5 : (es.map (·.1))[i]? = some (nkh w (L[i]).2) := by rw [Array.getElem?_map, ent i hi] <;> rfl
          simp [Array.getD_eq_getD_getElem?, e5]
        rw [e4]
  obtain ⟨L2, e1, e2, e3⟩ := key order.toList fun i hi => List.mem_range.mp (hp.mem_iff.mp hi)
  refine ⟨L2, by first | (rw [Array.toList_filterMap]; exact e1) | simpa using e1, ?_, e3⟩
  have h1 : L2.Perm ((List.range L.length).filterMap fun i => L[i]?) := by
    rw [e2]
    exact hp.filterMap _
  have h2 : (List.range L.length).filterMap (fun i => L[i]?) = L := by
    have key2 : ∀ n, n ≤ L.length → (List.range n).filterMap (fun i => L[i]?) = L.take n := by
      intro n
      induction n with
      | zero => intro _; rfl
      | succ n ih =>
        intro hn
        have hlt : n < L.length := hn
        rw [List.range_succ, List.filterMap_append, ih (Nat.le_of_lt hlt), List.take_succ, List.getElem?_eq_getElem hlt]
        rw [List.filterMap_cons_some (List.getElem?_eq_getElem hlt)] <;> rfl
    rw [key2 L.length (Nat.le_refl _), List.take_length]
  rw [h2] at h1
  exact h1

/-- the table laid anew, larger -/
theorem nrelayB_at {o : Obj} (ho : s.heap.get? a = some o) (hex : o.ExactSet) (hd : o.data = .set es ep t) (hrows : es.toList = rowsN w L) (hsz : t.place.size = es.size) (hdm : t.dummies = #[]) (hfl : es.size ≤ t.mask)
    (nd : (L.map (·.2)).Nodup) (tup : ∀ p ∈ L, NtK s.heap p.2 p.1) (pl : t.plain = true) (ld : w.params.followText "set-order" = true ∨ t.led = true) (few : L.length < 77) {wanted M : Nat}
    (hw : SetTable.sizeAbove wanted - 1 = M) (hM : MaskOk M) (hw2 : SetTable.sizeAbove wanted ≤ 128) (hn : L.length * 5 < M * 3) {Q : Unit → Shared → Prop}
    (hQ : ∀ h' L' es' ep' t', Heap.SameBut a s.heap h' → SetNRB w h' a L' es' ep' t' → L'.Perm L → Q () { s with heap := h' }) : wpAny (model P w) A (setRelay a wanted) Q E s := by
  have hsl : es.size = L.length := by
    have h := congrArg List.length hrows
    unfold rowsN at h
    rw [Array.length_toList, List.length_map] at h
    exact h
  have hfits : t.fits es.size = true := by
    unfold SetTable.fits SetTable.fill
    rw [hdm, Bool.and_eq_true, beq_iff_eq, decide_eq_true_eq]
    show t.place.size = es.size ∧ t.place.size + 0 ≤ t.mask
    omega
  obtain ⟨t', order, e, hp, T, em, el, ep', ed⟩ := relaid_ok t (hs := es.map (·.1)) (wanted := wanted) hw hM (by rw [Array.size_map, hsl]; omega)
  rw [Array.size_map, hsl] at hp
  obtain ⟨L2, r1, r2, r3⟩ := norderB_rows L es order hrows hp
  rw [← r3] at T
  have hs2 : (order.filterMap (es[·]?)).size = es.size := by
    have h := congrArg List.length r1
    unfold rowsN at h
    rw [Array.length_toList, List.length_map, r2.length_eq] at h
    rw [h, hsl]
  rw [setRelay_eq]
  refine wpAny_bind (wpAny_setState_of ho hd hfits ?_)
  dsimp only
  refine wp_if_neg (by rw [sizeLine_eq]; omega) ?_
  try refine wpAny_bind (wpAny_pure ?_)
  rw [e]
  dsimp only
  refine wpAny_bind ?_
  refine wp_if_neg (by rw [hs2]; simp) ?_
  try refine wpAny_bind (wpAny_pure ?_)
  refine wpAny_pure ?_
  dsimp only
  refine wpAny_storeSet_of ho hd ?_ (by rw [hs2, hsl, sizeLine_eq]; omega)
  have sb : Heap.SameBut a s.heap (s.heap.update a (Obj.putSet (order.filterMap (es[·]?)) t')) := Heap.SameBut.update ..
  refine hQ _ L2 (order.filterMap (es[·]?)) (ep + 1) t' sb ?_ r2
  refine ⟨⟨_, store_at ho hd, ⟨hex.1, hex.2.1, hex.2.2⟩, rfl⟩, r1, T, ?_, fun p hpm => ntK_same (tup p (r2.mem_iff.mp hpm)) ho hd sb, by rw [ep']; exact pl, by rw [el]; exact ld, ?_, by rw [r2.length_eq]; exact few⟩
  · exact (r2.map (·.2)).nodup_iff.mpr nd
  · rw [r2.length_eq, em]
    exact hn

/-- ADDING -/
theorem naddB_at (R : SetNRB w s.heap a L es ep t) {x : Addr} {k : NestedKey} (hx : NtK s.heap k x) (hu : A.units + 8 < cLine) (hfew : L.length + 1 < 77) {Q : Bool → Shared → Prop}
    (hQ : ∀ b h' L' es' ep' t', Heap.SameBut a s.heap h' → SetNRB w h' a L' es' ep' t' → (k ∈ L.map (·.2) → L' = L) → (k ∉ L.map (·.2) → L'.Perm ((x, k) :: L)) → Q b { s with heap := h' }) :
    wpAny (model P w) A (setAddHashed a (.ref x) (nkh w k)) Q E s := by
  obtain ⟨o, ho, hex, hd⟩ := R.ob
  have hsl := R.size
  have hroom := R.room
  unfold setAddHashed
  refine wpAny_holding ?_
  rw [show (100000 : Nat) = 99999 + 1 from rfl, setAddHashedIn_succ]
  refine wpAny_bind (wpAny_setState_of ho hd R.fits ?_)
  dsimp only
  refine wp_if_neg (by simp [byScan, Value.scannable]) ?_
  try refine wpAny_bind (wpAny_pure ?_)
  refine wpAny_bind (nsearchB_at R hx hu (fun hm => ?_) fun K hm hK hb => ?_)
  · dsimp only
    exact wpAny_pure (hQ false s.heap L es ep t (Heap.SameBut.refl a s.heap) R (fun _ => rfl) fun z => absurd hm z)
  · dsimp only
    refine wpAny_bind (wpAny_setState_of ho hd R.fits ?_)
    dsimp only
    obtain ⟨q1, q2, q3, q4, q5, q6, q7, q8, q9⟩ := R.tab.put hK hb
    have hp1 : (t.put (way t.mask (nkh w k) K)).1.plain = true := by rw [q6]; exact R.plain
    generalize hpt : t.put (way t.mask (nkh w k) K) = pt at q1 q3 q4 q5 q6 q7 q8 q9 hp1 ⊢
    obtain ⟨t1, p⟩ := pt
    dsimp only at q1 q3 q4 q5 q6 q7 q8 q9 hp1 ⊢
    subst q1
    first
      | (refine wpAny_bind ?_; refine wp_if_pos hp1 ?_; refine byV_key _ _ 8 hx.isK hx.dep hx.bare _ _ _ ?_)
      | refine wp_if_pos hp1 (wpAny_bind (byV_key _ _ 8 hx.isK hx.dep hx.bare _ _ _ ?_))
    simp only [if_true]
    have hin : (SetTable.insertAt es (SetTable.below t.place (way t.mask (nkh w k) K)) (nkh w k, Value.ref x)).toList = rowsN w (L.take (SetTable.below t.place (way t.mask (nkh w k) K)) ++ (x, k) :: L.drop (SetTable.below t.place (way t.mask (nkh w k) K))) := by
      rw [SetTable.toList_insertAt, rowsN_put, R.rows]
    generalize hpp : SetTable.below t.place (way t.mask (nkh w k) K) = p at q2 q3 hin ⊢
    have pm := nput_perm L p (x, k)
    have hlen : (L.take p ++ (x, k) :: L.drop p).length = L.length + 1 := pm.length_eq
    have hhs : (L.take p ++ (x, k) :: L.drop p).map (fun p => nkh w p.2) = (L.map fun p => nkh w p.2).take p ++ nkh w k :: (L.map fun p => nkh w p.2).drop p := by
      rw [List.map_append, List.map_cons, List.map_take, List.map_drop]
    rw [← hhs] at q3
    have nd1 : ((L.take p ++ (x, k) :: L.drop p).map (·.2)).Nodup := by
      refine (pm.map (·.2)).nodup_iff.mpr ?_
      rw [List.map_cons]
      exact List.nodup_cons.mpr ⟨hm, R.nd⟩
    have hes : (SetTable.insertAt es p (nkh w k, Value.ref x)).size = L.length + 1 := by
      have h := congrArg List.length hin
      unfold rowsN at h
      rw [Array.length_toList, List.length_map, hlen] at h
      exact h
    generalize SetTable.insertAt es p (nkh w k, Value.ref x) = es1 at hin hes ⊢
    generalize L.take p ++ (x, k) :: L.drop p = L1 at pm hlen q3 nd1 hin
    refine wpAny_bind (wpAny_storeSet_of ho hd ?_ (by rw [hes, sizeLine_eq]; omega))
    have sb : Heap.SameBut a s.heap (s.heap.update a (Obj.putSet es1 t1)) := Heap.SameBut.update ..
    have ho1 := store_at (es' := es1) (t' := t1) ho hd
    generalize s.heap.update a (Obj.putSet es1 t1) = h1 at sb ho1 ⊢
    have tup1 : ∀ p ∈ L1, NtK h1 p.2 p.1 := fun p hp => by
      rcases List.mem_cons.mp (pm.mem_iff.mp hp) with e | hp
      · rw [e]; exact ntK_same hx ho hd sb
      · exact ntK_same (R.tup p hp) ho hd sb
    have ld1 : w.params.followText "set-order" = true ∨ t1.led = true := by rw [q5]; exact R.led
    by_cases hf : t1.tooFull = true
    · first
        | (refine wpAny_bind ?_; refine wp_if_pos (by simp [hf]) ?_)
        | (refine wp_if_pos (by simp [hf]) ?_; refine wpAny_bind ?_)
      have hfull : (L.length + 1) * 5 ≥ t1.mask * 3 := by
        have h := hf
        unfold SetTable.tooFull at h
        rw [decide_eq_true_eq, q9, List.length_map] at h
        exact h
      rw [hsl]
      have hsz1 : t1.place.size = es1.size := by
        have h := q3.sz
        rw [List.length_map, hlen] at h
        rw [h, hes]
      have cases2 : (t.mask = 7 ∧ L.length = 4) ∨ (t.mask = 31 ∧ L.length = 18) := by
        rcases R.tab.mok with e | e | e
        · left; rw [q4, e] at hfull; rw [e] at hroom; exact ⟨e, by omega⟩
        · right; rw [q4, e] at hfull; rw [e] at hroom; exact ⟨e, by omega⟩
        · exfalso; rw [q4, e] at hfull; omega
      have go : ∀ M, SetTable.sizeAbove (SetTable.grown (L.length + 1)) - 1 = M → MaskOk M → SetTable.sizeAbove (SetTable.grown (L.length + 1)) ≤ 128 → (L.length + 1) * 5 < M * 3 →
          wpAny (model P w) A (setRelay a (SetTable.grown (L.length + 1))) (fun _ s' => wpAny (model P w) A (pure true) Q E s') E { s with heap := h1 } := fun M h1' h2' h3' h4' => by
        refine nrelayB_at (s := { s with heap := h1 }) ho1 ⟨hex.1, hex.2.1, hex.2.2⟩ rfl hin hsz1 q3.dm (by rw [hes, q4]; rcases cases2 with ⟨e, e2⟩ | ⟨e, e2⟩ <;> omega) nd1 tup1 hp1 ld1 (by rw [hlen]; exact hfew) h1' h2' h3' (by rw [hlen]; exact h4') ?_
        intro h2 L2 es2 ep2 t2 sb2 R2 pm2
        refine wpAny_pure (hQ true h2 L2 es2 ep2 t2 (sb.trans sb2) R2 (fun z => absurd z hm) fun _ => pm2.trans pm)
      rcases cases2 with ⟨_, e2⟩ | ⟨_, e2⟩
      · refine go 31 (by rw [e2, size_20]) (.inr (.inl rfl)) (by rw [e2, size_20]; decide) (by omega)
      · refine go 127 (by rw [e2, size_76]) (.inr (.inr rfl)) (by rw [e2, size_76]; decide) (by omega)
    · first
        | refine wp_if_neg (by simp [hf]) ?_
        | (refine wpAny_bind ?_; refine wp_if_neg (by simp [hf]) ?_; refine wpAny_pure ?_)
      refine wpAny_pure (hQ true h1 L1 es1 (ep + 1) t1 sb ⟨⟨_, ho1, ⟨hex.1, hex.2.1, hex.2.2⟩, rfl⟩, hin, q3, nd1, tup1, hp1, ld1, ?_, by rw [hlen]; exact hfew⟩ (fun z => absurd z hm) fun _ => pm)
      have h := hf
      unfold SetTable.tooFull at h
      rw [decide_eq_true_eq, q9, List.length_map] at h
      rw [hlen]
      omega
/-- the set stays small -/
def FewNB (ks : List KA) : Prop := ∀ (i : Nat) (L : List KA), i < ks.length → GotN ks i L → (L.map (·.2)).Nodup → L.length + 1 < 77
theorem FewNB.of {ks : List KA} (h : ks.length < 77) : FewNB ks := fun i L hi g _ => by have := g.len; omega
theorem SetNRB.keep {h h' : Heap} {a : Addr} {L : List KA} {es : Array (Int × Value)} {ep : Nat} {t : SetTable} (R : SetNRB w h a L es ep t) (ha : ∀ o, h.get? a = some o → h'.get? a = some o) (ht : ∀ p ∈ L, NtK h' p.2 p.1) : SetNRB w h' a L es ep t := by
  obtain ⟨o, ho, r⟩ := R.ob
  exact ⟨⟨o, ha o ho, r⟩, R.rows, R.tab, R.nd, ht, R.plain, R.led, R.room, R.few⟩
/-- a new set -/
theorem setNRB_fresh {h : Heap} {a : Addr} (ho : h.get? a = some (set0 w)) : SetNRB w h a [] #[] 0 (.fresh 0 0 (!w.params.followText "set-order")) where
  ob := ⟨_, ho, ⟨rfl, rfl, rfl⟩, rfl⟩
  rows := rfl
  tab := ⟨List.Pairwise.nil, rfl, rfl, .inl rfl, fun x hx => (by cases hx), fun i h j hi => (by simp at hi)⟩
  nd := List.nodup_nil
  tup := fun p hp => (by cases hp)
  plain := rfl
  led := by
    show _ ∨ (!w.params.followText "set-order") = true
    cases w.params.followText "set-order"
    · exact .inr rfl
    · exact .inl rfl
  room := by
    show 0 * 5 < 7 * 3
    decide
  few := by
    show 0 < 77
    decide

/-- set.update's loop -/
theorem set_update_ntB {I : Addr} {fp wr : List Addr} {G : Array GenState → Array GenState → Prop} {n : Nat} {Pv : Nat → Value → Prop} {St : Nat → Shared → Prop} {R : Result → Shared → Prop}
    (W : WalksS P w A.in1 I fp wr G n Pv St) (S : Addr) (hSf : S ∉ fp) (ks : List KA) (hn : n = ks.length) (hfew : FewNB ks) (hval : ∀ i v, Pv i v → ∃ p, ks[i]? = some p ∧ v = .ref p.1)
    (h0 : Heap) (hk : ∀ p ∈ ks, NtK h0 p.2 p.1) (hS0 : h0.get? S = none) (hw0 : ∀ b ∈ wr, h0.get? b = none) (hu : A.in1.units + 8 < cLine) :
    ∀ (k i : Nat) (s : Shared), n - i = k → i ≤ n → St i s → (∀ b o, h0.get? b = some o → s.heap.get? b = some o) → (∃ L es ep t, SetNRB w s.heap S L es ep t ∧ GotN ks i L) →
      (∀ s' L es ep t, Moved (S :: wr) G s s' → SetNRB w s'.heap S L es ep t → GotN ks n L → (∀ b o, h0.get? b = some o → s'.heap.get? b = some o) → R (.ok (.ret .none)) s') →
      codeAny (model P w) A (.builtin "set.update.loop" ⟨[.ref S, .ref I], []⟩) R s := by
  have hSw : S ∉ wr := fun h => hSf (W.sub _ h)
  have hsub : ∀ b ∈ wr, b ∈ S :: wr := fun b hb => List.mem_cons_of_mem _ hb
  have keepM : ∀ {s s' : Shared}, Moved wr G s s' → (∀ b o, h0.get? b = some o → s.heap.get? b = some o) → ∀ b o, h0.get? b = some o → s'.heap.get? b = some o := fun hm hkp b o e =>
    hm.heap b o (fun hb => by rw [hw0 b hb] at e; cases e) (hkp b o e)
  intro k
  induction k with
  | zero =>
    intro i s hk' hi hst hkp ⟨L, es, ep, t, hS, g⟩ hR
    have hin : i = n := by omega
    subst hin
    refine codeAny_builtin F.entry_set_update_loop ?_
    rw [Around.under_plainId F.plain_set_update_loop _]
    show wpAny _ A.in1 (pyNext (.ref I) >>= _) _ _ s
    refine wpAny_bind (W.done s _ _ hst fun s' hm => ?_)
    show wpAny _ A.in1 (ret Value.none) _ _ s'
    have hkp' := keepM hm hkp
    have sub : ∀ p ∈ L, p ∈ ks := fun p hp => List.mem_of_mem_take (g.sub p hp)
    exact wpAny_pure (hR s' L es ep t (hm.mono hsub) (hS.keep (fun o e => hm.heap S o hSw e) fun p hp => ntK_keep (hk p (sub p hp)) hkp') g hkp')
  | succ k ih =>
    intro i s hk' hi hst hkp ⟨L, es, ep, t, hS, g⟩ hR
    have hlt : i < n := by omega
    refine codeAny_builtin F.entry_set_update_loop ?_
    rw [Around.under_plainId F.plain_set_update_loop _]
    show wpAny _ A.in1 (pyNext (.ref I) >>= _) _ _ s
    refine wpAny_bind (W.item i s _ _ hlt hst fun v s' hP hst' hm => ?_)
    obtain ⟨p, hp, rfl⟩ := hval i v hP
    have hkp' := keepM hm hkp
    have sub : ∀ p ∈ L, p ∈ ks := fun p hp => List.mem_of_mem_take (g.sub p hp)
    have hS' : SetNRB w s'.heap S L es ep t := hS.keep (fun o e => hm.heap S o hSw e) fun q hq => ntK_keep (hk q (sub q hq)) hkp'
    have hx : NtK s'.heap p.2 p.1 := ntK_keep (hk p (List.mem_of_getElem? hp)) hkp'
    show wpAny _ A.in1 (holding [Value.ref p.1] (setAdd S (.ref p.1)) >>= _) _ _ s'
    refine wpAny_bind (wpAny_holding ?_)
    unfold setAdd
    refine wpAny_holding ?_
    refine wpAny_bind (ntK_hash hu hx ?_)
    refine naddB_at (s := { s' with toks := s'.toks + (p.2.draws) }) hS' hx hu (hfew i L (by omega) g hS.nd) fun b h' L' es' ep' t' hsb hS2 c1 c2 => ?_
    have g' : GotN ks (i + 1) L' := by
      rcases Classical.em (p.2 ∈ L.map (·.2)) with c | c
      · rw [c1 c]; exact g.same hp c
      · exact g.more hp (c2 c)
    have hkp2 : ∀ b o, h0.get? b = some o → h'.get? b = some o := fun b o e => (hsb.2 b (fun z => by rw [z, hS0] at e; cases e)).trans (hkp' b o e)
    refine wpAny_pure ⟨plainId_quiet F.plain_set_update_loop _, ih (i + 1) _ (by omega) hlt (W.frame _ s' _ _ hst' (Nat.le_add_right _ _) fun b hb o e => ?_) hkp2 ⟨L', es', ep', t', hS2, g'⟩ fun s'' L2 es2 ep2 t2 hm'' hS'' g'' hkp'' => ?_⟩
    · rw [hsb.2 b (fun h : b = S => hSf (by rw [← h]; exact hb))]; exact e
    · refine hR s'' L2 es2 ep2 t2 (Moved.trans W.gtrans ((hm.mono hsub).then_heap (Nat.le_add_right _ _) fun b o hb e => ?_) hm'') hS'' g'' hkp''
      rw [hsb.2 b (fun h : b = S => hb (by rw [h]; exact List.mem_cons_self))]; exact e

set_option maxRecDepth 100000 in
set_option maxHeartbeats 3200000 in
/-- set(xs) -/
theorem call_set_ntB {l : Addr} {items : Array Value} (ks : List KA) {Q : Value → Shared → Prop} (hh : A.handled = none) (hl : s.heap.IsList l items) (hit : items.toList = ks.map fun p => Value.ref p.1)
    (hk : ∀ p ∈ ks, NtK s.heap p.2 p.1) (hfew : FewNB ks) (hu : A.units + 16 < cLine)
    (h : ∀ (h' : Heap) (tk : Nat) L es ep t, SetNRB w h' s.heap.objs.size L es ep t → GotN ks ks.length L → (∀ b o, s.heap.get? b = some o → h'.get? b = some o) → Q (.ref s.heap.objs.size) { s with heap := h', toks := tk }) :
    wpAny (model P w) A (call (.type "set") [.ref l]) Q E s := by
  have hisz : items.size = ks.length := by
    have q := congrArg List.length hit
    rw [Array.length_toList, List.length_map] at q
    exact q
  obtain ⟨c, tl, hmro⟩ := F.called_set.mro
  have hmade := F.called_set.made
  have hsub := F.called_set.sub
  refine wpAny_call (codeAny_of_tree ?_)
  show wpAny _ _ (callAny (.type "set") _) _ _ _
  refine wpAny_pure ⟨Code.quiet_builtin _ (by decide +kernel), codeAny_builtin F.entry_type_call ?_⟩
  rw [Around.under_plain (weight_type_call_type "set" [.ref l] []) rfl]
  have h1 := F.called_set.notType
  have h2 := F.called_set.canCreate
  have hct := F.typeCall_set_1 (.ref l)
  repeat (any_goals (first | assumption | wp_step))

  refine codeAny_mono (code_set_led1 (.ref l) (E := E) (Q₁ := fun obj s₁ => obj = .ref s.heap.objs.size ∧ s₁ = { s with heap := s.heap.push (set0 w) }) ⟨rfl, rfl⟩) fun r s₁ hr => ?_
  cases r with
  | error e => exact hr
  | ok fl =>
    cases fl with
    | ret obj =>
      obtain ⟨rfl, rfl⟩ := hr
      have hS : (s.heap.push (set0 w)).get? s.heap.objs.size = some (set0 w) := Heap.get?_push_size _ rfl
      have hT : Shared.TypeIs { s with heap := s.heap.push (set0 w) } (.ref s.heap.objs.size) "set" := ⟨_, hS, rfl⟩
      have hli := F.called_set.init.lookup
      have hbi := F.called_set.init.bind (.ref s.heap.objs.size)
      repeat (any_goals (first | assumption | wp_step))

      refine codeAny_mono (codeAny_call_builtin (R := wants (fun r s₂ => r = .none ∧ ∃ h' tk L es ep t, s₂ = { s with heap := h', toks := tk } ∧ SetNRB w h' s.heap.objs.size L es ep t ∧ GotN ks ks.length L ∧
          (∀ b o, s.heap.get? b = some o → h'.get? b = some o)) E) F.called_set.init.plain F.entry_set_init (check_set_init_1 hT ?_)) fun r₂ s₂ hr₂ => ?_
      · obtain ⟨ol, hol, hcl, nl, hdl⟩ := hl
        obtain ⟨ocls, odict, odata, oslots⟩ := ol
        simp only at hcl hdl
        subst hcl; subst hdl
        have hol' : (s.heap.push (set0 w)).get? l = some { cls := .type "list", dict := odict, data := .seq items nl, slots := oslots } := Heap.get?_push_of_some _ hol
        have hsls := F.sub_list_set
        have hslf := F.sub_list_frozenset
        have hne : (Value.type "list" == Value.type "dict") = false := by decide
        have hl1 : (s.heap.push (set0 w)).IsList l items := ⟨_, hol', rfl, nl, rfl⟩
        unfold Builtin.«set.__init__» noKeywords Builtin.Frozenset.updateFrom
        generalize hPI : pyIter = PI
        wp_walk
        subst hPI

        refine wpAny_pyIter_list hl1 ?_
        refine wpAny_bind (wpAny_runValue ?_)
        have hlS : l < s.heap.objs.size := Heap.lt_size hol
        have hh3 : A.in1.in1.in1.handled = none := by simp [hh]
        have hz1 : (s.heap.push (set0 w)).objs.size = s.heap.objs.size + 1 := Heap.size_push ..
        have hneI : l ≠ (s.heap.push (set0 w)).objs.size := by
          rw [Heap.size_push]; exact Nat.ne_of_lt (Nat.lt_succ_of_lt hlS)
        have hSf : s.heap.objs.size ∉ [(s.heap.push (set0 w)).objs.size, l] := by
          rw [Heap.size_push]; simp only [List.mem_cons, List.mem_singleton, List.not_mem_nil, or_false, not_or]
          exact ⟨Nat.ne_of_lt (Nat.lt_succ_self _), Nat.ne_of_gt hlS⟩
        have hval : ∀ (i : Nat) (v : Value), items[i]? = some v → ∃ p, ks[i]? = some p ∧ v = .ref p.1 := fun i v hv => by
          have q : items.toList[i]? = some v := by rw [Array.getElem?_toList]; exact hv
          rw [hit, List.getElem?_map] at q
          cases hq : ks[i]? with
          | none => rw [hq] at q; cases q
          | some p =>
            rw [hq] at q
            exact ⟨p, rfl, (Option.some.inj q).symm⟩
        have none_of : ∀ b, s.heap.objs.size ≤ b → s.heap.get? b = none := fun b hb => by
          cases q : s.heap.get? b with
          | none => rfl
          | some o => exact absurd (Nat.lt_of_lt_of_le (Heap.lt_size q) hb) (Nat.lt_irrefl _)
        refine set_update_ntB ((Walks.list hh3 _ l hneI items).toS) s.heap.objs.size
          hSf ks hisz hfew hval s.heap hk (none_of _ (Nat.le_refl _)) (fun b hb => none_of b (by
            rw [List.mem_singleton.mp hb, Heap.size_push]
            exact Nat.le_succ _)) (show A.units + 3 + 8 < cLine by omega) (items.size - 0) 0 _ (by omega) (Nat.zero_le _)
          ⟨⟨_, Heap.get?_push_size _ rfl, rfl, rfl⟩, (hl1.push _)⟩ (fun b o e => Heap.get?_push_of_some _ (Heap.get?_push_of_some _ e)) ?hS0 ?hR
        case hS0 =>
          have hget : ((s.heap.push (set0 w)).push { cls := .type "list_iterator", data := .fields #[.ref l, .int 0 0] }).get? s.heap.objs.size
              = some (set0 w) := Heap.get?_push_of_some _ hS
          exact ⟨[], #[], 0, _, setNRB_fresh hget, GotN.zero ks⟩
        case hR =>
          intro s' L es ep t hm hS' g' hkp
          obtain ⟨h', g2, d', tk', os'⟩ := s'
          have eg : g2 = s.gens := hm.gens
          have ed : d' = s.drawn := hm.drawn
          have eo : os' = s.os := hm.os
          subst eg; subst ed; subst eo
          show wpAny _ _ _ _ _ _
          refine wpAny_pure ?_
          show wpAny _ _ (ret Value.none) _ _ _
          rw [hisz] at g'
          exact wpAny_pure ⟨rfl, h', tk', L, es, ep, t, rfl, hS', g', hkp⟩

      · cases r₂ with
        | error e => exact hr₂
        | ok fl₂ =>
          cases fl₂ with
          | ret r =>
            obtain ⟨rfl, h', tk, L, es, ep, t, rfl, hS', g', hk'⟩ := hr₂
            repeat (any_goals (first | assumption | wp_step))
            exact h _ _ _ _ _ _ hS' g' hk'
          | _ => exact hr₂.elim
    | _ => exact hr.elim
theorem sorted_setNB {a : Addr} {L : List KA} {es : Array (Int × Value)} {ep : Nat} {t : SetTable} {Q : Value → Shared → Prop} (R : SetNRB w s.heap a L es ep t) (hh : A.handled = none)
    (hal : W.AllAlike (L.map fun p => p.2.data)) (hsb : W.Sortable (L.map fun p => p.2.data)) (hu : A.units + 16 < cLine)
    (hQ : ∀ s' p (out : Array Value) (c : Nat) (L' : List KA), (∀ b o, s.heap.get? b = some o → s'.heap.get? b = some o) → s'.gens = s.gens → s'.os = s.os → s.heap.objs.size ≤ p →
      s'.heap.get? p = some (seqObj "list" out c) → out.toList = L'.map (fun q => Value.ref q.1) → L'.Perm L → (L'.map fun q => q.2) = sortK (L.map fun q => q.2) → Q (.ref p) s') :
    wpAny (model P w) A (call (.builtin "sorted") [.ref a]) Q E s := by
  obtain ⟨o, ho, hex, hd⟩ := R.ob
  have hsz := R.size
  have hfew := R.few
  refine Calls.call_function_entry kind_sorted plain_sorted entry_sorted (args_sorted1 _) ?_
  unfold Builtin.«sorted»
  refine wpAny_bind (m := checkCount "sorted" 1 1 _) (wpAny_pure ?_)
  refine wpAny_bind (collect_set (A := A.in1) hh ⟨o, ho, hex.1, hd⟩ R.fits (by unfold scanBound; omega) R.tab.ris R.led fun s1 us k1 hz g1 o1 pm => ?_)
  have hes : es.toList.map (·.2) = L.map fun q => Value.ref q.1 := by
    rw [R.rows]
    unfold rowsN
    rw [List.map_map] <;> rfl
  rw [hes] at pm
  obtain ⟨L1, e1, p1⟩ : ∃ L1 : List KA, us = L1.map (fun q => Value.ref q.1) ∧ L1.Perm L := by
    exact perm_map_of pm L rfl
  subst e1
  have hvl : (L1.map fun q : KA => Value.ref q.1).length < 77 := by rw [List.length_map, p1.length_eq]; exact hfew
  refine wpAny_bind (wpAny_newList ?_ (by rw [sizeLine_eq]; omega))
  have hoL : (s1.heap.push (seqObj "list" (L1.map fun q : KA => Value.ref q.1).toArray 0)).get? s1.heap.objs.size = some (seqObj "list" (L1.map fun q : KA => Value.ref q.1).toArray 0) := Heap.get?_push_size _ rfl
  have pd := p1.map fun q : KA => q.2.data
  have hmem : ∀ d, d ∈ (L1.map fun q : KA => q.2.data) → d ∈ (L.map fun q : KA => q.2.data) := fun d h => pd.mem_iff.mp h
  have e : W.EachIs (fun v (q : KA) => v = Value.ref q.1) (L1.map fun q : KA => Value.ref q.1) L1 := by
    clear hoL hmem pd hvl p1 pm
    induction L1 with
    | nil => exact .nil
    | cons q l ih => exact .cons rfl ih
  have er : W.EachIs (fun v (q : KA) => ∃ as, Reads (s1.heap.push (seqObj "list" (L1.map fun q : KA => Value.ref q.1).toArray 0)) v q.2.data as ∧ s1.heap.objs.size ∉ as) (L1.map fun q : KA => Value.ref q.1) L1 := by
    have all : ∀ q ∈ L1, ∃ as, Reads (s1.heap.push (seqObj "list" (L1.map fun q : KA => Value.ref q.1).toArray 0)) (.ref q.1) q.2.data as ∧ s1.heap.objs.size ∉ as := fun q hq =>
      ⟨[], (ntK_keep (R.tup q (p1.mem_iff.mp hq)) fun b u z => Heap.get?_push_of_some _ (k1 b u z)).rel.reads, by simp⟩
    generalize s1.heap.push (seqObj "list" (L1.map fun q : KA => Value.ref q.1).toArray 0) = h1 at all
    clear hoL hmem pd hvl p1 pm e
    induction L1 with
    | nil => exact .nil
    | cons q l ih => exact .cons (all q List.mem_cons_self) (ih fun r hr => all r (List.mem_cons_of_mem _ hr))
  have hdep : ∀ q ∈ L1, q.2.data.depth ≤ 8 := fun q hq => Nat.le_trans (data_depth q.2) (R.tup q (p1.mem_iff.mp hq)).dep
  refine wpAny_bind (wpAny_holding (W.list_sort_data (s := { s1 with heap := s1.heap.push (seqObj "list" (L1.map fun q : KA => Value.ref q.1).toArray 0) }) (enc := fun q : KA => q.2.data) hoL e er
    (fun d hd d' hd' => hal d (hmem d hd) d' (hmem d' hd')) ?_ (by rw [p1.length_eq, sizeLine_eq]; omega) (fun q hq => ?_) fun out hlo heo => ?_))
  · rcases hsb with z | z
    · exact .inl fun d hd => z d (hmem d hd)
    · exact .inr fun d hd => z d (hmem d hd)
  · have := hdep q hq
    show A.units + 1 + 1 + _ < cLine
    omega
  obtain ⟨c, hc⟩ := sortedHeap_at (vs := L1.map fun q : KA => Value.ref q.1) (out := out.toArray) hoL
  refine wpAny_pure ⟨_, rfl, hQ _ s1.heap.objs.size out.toArray c (L1.mergeSort (W.dataLe false fun q : KA => q.2.data)) (fun b u z => ?_) g1 o1 hz hc ?_ ((List.mergeSort_perm _ _).trans p1) ?_⟩
  · have q := k1 b u z
    have hlt := Heap.lt_size q
    show (sortedHeap (s1.heap.push (seqObj "list" (L1.map fun q : KA => Value.ref q.1).toArray 0)) s1.heap.objs.size _ out.toArray).get? b = some u
    rw [sortedHeap_old (Nat.ne_of_lt hlt) (by rw [size_push']; exact Nat.lt_succ_of_lt hlt)]
    exact Heap.get?_push_of_some _ q
  · have := each_ref heo
    rw [List.toList_toArray]
    exact this
  · rw [W.sort_maps (fun q : KA => q.2) (r := W.dataLe false fun q : KA => q.2.data) (s := W.dataLe false NestedKey.data) fun _ _ _ _ => rfl]
    have pk := p1.map fun q : KA => q.2
    have tot := W.sortLe_total (listOrd itemOrd) false fun k : NestedKey => W.keyToks k.data
    refine List.Perm.eq_of_pairwise (le := fun x y => W.dataLe false NestedKey.data x y = true) (fun x y hx hy a b => ?_) (W.sort_pairwise tot _) (W.sort_pairwise tot _) (((List.mergeSort_perm _ _).trans pk).trans (List.mergeSort_perm _ _).symm)
    refine le_antisymm_keys (hal _ ?_ _ ?_) a b
    · have := pk.mem_iff.mp ((List.mergeSort_perm _ _).mem_iff.mp hx)
      obtain ⟨q, hq, rfl⟩ := List.mem_map.mp this
      exact List.mem_map.mpr ⟨q, hq, rfl⟩
    · have := (List.mergeSort_perm _ _).mem_iff.mp hy
      obtain ⟨q, hq, rfl⟩ := List.mem_map.mp this
      exact List.mem_map.mpr ⟨q, hq, rfl⟩
end
/-- the set at a, whatever its members are -/
def SetN0B (w : World) (h : Heap) (a : Addr) (L : List KA) : Prop :=
  ∃ (es : Array (Int × Value)) (ep : Nat) (t : SetTable), (∃ o, h.get? a = some o ∧ o.ExactSet ∧ o.data = .set es ep t) ∧ es.toList = rowsN w L ∧ TabOk t (L.map fun p => nkh w p.2) ∧ (L.map (·.2)).Nodup ∧ t.plain = true ∧
    (w.params.followText "set-order" = true ∨ t.led = true) ∧ L.length * 5 < t.mask * 3 ∧ L.length < 77
def SetNOB (w : World) (a : Addr) (L : List KA) : HO := .ext fun h => SetN0B w h a L
theorem SetNRB.bare0 {w : World} {h : Heap} {a : Addr} {L : List KA} {es : Array (Int × Value)} {ep : Nat} {t : SetTable} (R : SetNRB w h a L es ep t) : SetN0B w h a L := ⟨es, ep, t, R.ob, R.rows, R.tab, R.nd, R.plain, R.led, R.room, R.few⟩
theorem SetN0B.full {w : World} {h : Heap} {a : Addr} {L : List KA} (R : SetN0B w h a L) (all : ∀ p ∈ L, NtK h p.2 p.1) : ∃ es ep t, SetNRB w h a L es ep t :=
  let ⟨es, ep, t, h1, h2, h3, h4, h5, h6, h7, h8⟩ := R
  ⟨es, ep, t, h1, h2, h3, h4, all, h5, h6, h7, h8⟩
theorem setNOB_new {P : Program} {w : World} {H : Hp} {h : Heap} {a : Addr} {L : List KA} (R : SetN0B w h a L) : ObjOk P w H h a (SetNOB w a L) := by
  have ⟨es, ep, t, ⟨o, ho, r⟩, q⟩ := R
  refine ⟨R, ⟨o, ho⟩, fun h1 h2 p k => ?_⟩
  have ⟨es', ep', t', ⟨o', ho', r'⟩, q'⟩ := (show SetN0B w h1 a L from p)
  exact ⟨es', ep', t', ⟨o', k o' ho', r'⟩, q'⟩
theorem FewNB.ded {ks : List KA} (h : ks.length < 77 ∨ (dedL (ks.map (·.2))).length < 76) : FewNB ks := by
  rcases h with h | h
  · exact .of h
  · intro i L hi g nd
    have sub : (L.map (·.2)) ⊆ dedL (ks.map (·.2)) := fun x hx => by
      obtain ⟨p, hp, rfl⟩ := List.mem_map.mp hx
      exact dedL_mem.mpr (List.mem_map.mpr ⟨p, List.mem_of_mem_take (g.sub p hp), rfl⟩)
    have := nodup_sub_len nd sub
    rw [List.length_map] at this
    omega
section
variable {X : Cx}
def rSetNNB (K : PySem.W.Frag) (w : World) : List V → Hp → VK → Prop := fun xs H Q => ∃ (l : Addr) (ks : List KA), xs = [V.ref l] ∧ SqL K H l (ks.map fun p => V.ref p.1) ∧ (∀ p ∈ ks, KN H p.2 (.ref p.1) p.1) ∧ (ks.length < 77 ∨ (dedL (ks.map (·.2))).length < 76) ∧
  ∀ a L, H a = none → (∀ p ∈ L, p ∈ ks) → (∀ p ∈ ks, p.2 ∈ L.map (·.2)) → (L.map (·.2)).Nodup → Q (.ref a) (upd H a (SetNOB w a L))
theorem cr_setNNB (hc : X.calm = true) (hu : X.A.units + 65 < cLine) : CallR X (.type "set") (rSetNNB X.K X.w) := by
  intro pins s σ H xs us Q I r h
  obtain ⟨l, ks, rfl, hl, hk, hf, q⟩ := h
  rw [Vals.ref1 r]
  obtain ⟨its, rv, pl, hz⟩ := I.list hl
  have hn : H s.heap.objs.size = none := I.hok.fresh (Nat.le_refl _)
  refine call_set_ntB (P := X.prog) (w := X.w) ks (I.ok.hd hc) pl.isList (by simpa using refs_are rv) (fun p hp => (hk p hp).nt I.hok) (.ded hf) (by omega) fun h' tk L es ep t R g k => ?_
  refine ⟨.ref s.heap.objs.size, upd H s.heap.objs.size (SetNOB X.w s.heap.objs.size L), I.laid (t' := tk) k (Nat.le_refl _) (setNOB_new R.bare0), rfl, q _ L hn (fun p hp => ?_) (fun p hp => ?_) R.nd⟩
  · exact List.mem_of_mem_take (g.sub p hp)
  · exact g.all p (by rw [List.take_length]; exact hp)
def rSortedNNB (w : World) : List V → Hp → VK → Prop := fun vs H Q => ∃ (a : Addr) (L : List KA), vs = [V.ref a] ∧ H a = some (SetNOB w a L) ∧ (∀ p ∈ L, KN H p.2 (.ref p.1) p.1) ∧
  W.AllAlike (L.map fun p => p.2.data) ∧ W.Sortable (L.map fun p => p.2.data) ∧
  ∀ (L' : List KA) (p : Addr), L'.Perm L → (L'.map fun q => q.2) = sortK (L.map fun q => q.2) → H p = none → Q (.ref p) (upd H p (.lst (L'.map fun q => V.ref q.1)))
theorem cr_sortedNNB (hc : X.calm = true) (hu : X.A.units + 65 < cLine) : CallR X (.builtin "sorted") (rSortedNNB X.w) := by
  intro pins s σ H vs us Q I r h
  obtain ⟨a, L, rfl, ha, hk, hal, hsb, q⟩ := h
  have R0 : SetN0B X.w s.heap a L := (I.hok a _ ha).1
  obtain ⟨es, ep, t, R⟩ := R0.full fun p hp => (hk p hp).nt I.hok
  rw [Vals.ref1 r]
  refine sorted_setNB R (I.ok.hd hc) hal hsb (by omega) fun s' p out c L' k g o hp hg hout pm srt => ?_
  have hfew : L'.length < 77 := by rw [pm.length_eq]; exact R.few
  have hlen : (L'.map fun q => V.ref q.1).length ≤ sizeLine := by rw [List.length_map, sizeLine_eq]; omega
  have hn : H p = none := I.hok.fresh hp
  have hv : Vals (L'.map fun q => V.ref q.1) out.toList := by rw [hout]; exact refs_vals L'
  have J : Inv X pins σ (upd H p (.lst (L'.map fun q => V.ref q.1))) { s with heap := s'.heap, gens := s'.gens, drawn := s'.drawn, toks := s'.toks } :=
    I.call (ch := []) (Un.laid k hp hn) (I.hok.laid k hp ⟨hlen, out.toList, c, hv, hg⟩) (by rw [g]; exact I.bare) (fun _ z => nomatch z)
  have e : s' = { s with heap := s'.heap, gens := s'.gens, drawn := s'.drawn, toks := s'.toks } := by
    cases s'
    cases s
    cases o
    rfl
  rw [e]
  exact ⟨.ref p, _, J, rfl, q L' p pm srt hn⟩
end
def sortSetBD (d : D) (S : Sto) : Option (D × Sto) := match d with
  | .loc n => match S[n]? with
    | some (.lst ds) => match intsAll ds with
      | some is => if is.length < 64 then some (newD (.lst ((sortI (dedL is)).map D.int)) S) else none
      | none => (keysAll ds).bind fun ks => if (ks.length < 77 ∨ (dedL ks).length < 76) ∧ okKs ks = true then (kDs (sortK (dedL ks))).map fun es => newD (.lst es) S else none
    | _ => none
  | _ => none
section
variable {X : Cx} {e : Expr} {f : EvE} {p p2 pos pos2 : Pos}
theorem ee_sortSetB {k : Nat} (hc : Ok X k) (hcalm : X.calm = true) (hg1 : Gl X "sorted") (hm1 : X.mg "sorted" = none) (hg2 : Gl X "set") (hm2 : X.mg "set" = none) (h : EE X e f)
    (he : starEach [e] X.env = (false, eval e X.env) :: starEach [] X.env := by rfl)
    (he2 : starEach [(Expr.Call (.Name "set" p2) [e] [] pos2)] X.env = (false, eval (.Call (.Name "set" p2) [e] [] pos2) X.env) :: starEach [] X.env := by rfl)
    (hpl : (backTo pos (starEach [] X.env)).any (·.1) = false := by rfl) (hpl2 : (backTo pos2 (starEach [] X.env)).any (·.1) = false := by rfl) : EE X (.Call (.Name "sorted" p) [.Call (.Name "set" p2) [e] [] pos2] [] pos) (u1E sortSetBD f) :=
  wkE (pe_callB (orC (cr_sortedNNB hcalm hc.units) (cr_sortedSet hcalm)) hg1 hm1 (by decide +kernel) (pa_cons (hs := he2) (pe_callTy (orC (cr_setNNB hcalm hc.units) (cr_setII hcalm)) hg2 hm2 (by decide +kernel) (pa_cons (hs := he) h pa_nil) (by decide) (by decide) he hpl2) pa_nil) (by decide) (by decide) he2 hpl) fun σ H Q q => by
    obtain ⟨ρ, τ, S, d, S', A, e0, q⟩ := q
    obtain ⟨⟨d1, S1⟩, e1, e2⟩ := bindE e0
    refine goE A e1 fun ρ1 v1 H1 A1 P1 r1 => ?_
    cases d1 with
    | loc n =>
      simp only [sortSetBD] at e2
      split at e2
      · rename_i ds hn
        obtain ⟨a, xs, rfl, _, ha, qr⟩ := A1.s.lst hn r1
        split at e2
        · rename_i is hi
          split at e2
          · rename_i h64
            cases e2
            have hx := intsAll_rel qr hi
            subst hx
            refine .inr ⟨a, is, rfl, .inl (.inl ha), h64, fun b c hb hcl => ?_⟩
            refine .inr ⟨b, _, c, rfl, upd_same, by omega, fun ns m srt mem hln hp => ?_⟩
            have hns : ns = sortI (dedL is) := by
              have nd : ns.Nodup := srt.imp (fun h => by omega)
              have pm : ns.Perm (dedL is) := (List.perm_ext_iff_of_nodup nd (dedL_nodup is)).mpr fun j => by
                rw [mem j, dedL_mem]; simp
              exact sorted_uniq (pm.trans (sortI_perm _).symm) (srt.imp fun h => by omega) (sortI_pw _)
            have P2 := A1.s.side hb (SetO X.w b (fun j => decide (j ∈ is)) c)
            obtain ⟨P3, r3⟩ := new_lst P2.rel hp (ints_rel (K := X.K) (ρ := ρ1) (H := upd H1 b (SetO X.w b (fun j => decide (j ∈ is)) c)) ns)
            subst hns
            exact q _ _ _ (P1.trans (P2.trans P3)) r3
          · cases e2
        · obtain ⟨ks, e3, e2⟩ := bindE e2
          split at e2
          · rename_i hok
            obtain ⟨es, e4, e2⟩ := Option.map_eq_some_iff.mp e2
            cases e2
            obtain ⟨L0, hx, hks, hkn⟩ := keysAll_rel qr e3
            subst hx
            subst hks
            rw [List.length_map] at hok
            refine .inl ⟨a, L0, rfl, .inl (.inl ha), hkn, hok.1, fun b L hb hsub hall hnd => ?_⟩
            have P2 := A1.s.side hb (SetNOB X.w b L)
            have im := P2.imm A1.s
            have hkn2 : ∀ p ∈ L, KN (upd H1 b (SetNOB X.w b L)) p.2 (.ref p.1) p.1 := fun p hp => let z := hkn p (hsub p hp); ⟨z.ref, z.nk.mono im, z.dep, z.pl⟩
            have hal := okKs_alike hok.2
            have hinL : ∀ p ∈ L, p.2 ∈ L0.map fun p => p.2 := fun p hp => List.mem_map.mpr ⟨p, hsub p hp, rfl⟩
            refine .inl ⟨b, L, rfl, upd_same, hkn2, fun x hx y hy => ?_, .inl fun x hx => ?_, fun L' m pm srt hp => ?_⟩
            · obtain ⟨p1, m1, rfl⟩ := List.mem_map.mp hx
              obtain ⟨p2, m2, rfl⟩ := List.mem_map.mp hy
              exact hal _ (hinL p1 m1) _ (hinL p2 m2)
            · obtain ⟨p1, m1, rfl⟩ := List.mem_map.mp hx
              exact okKs_tup hok.2 _ (hinL p1 m1)
            · have hpm : (L.map fun q => q.2).Perm (dedL (L0.map fun p => p.2)) := (List.perm_ext_iff_of_nodup hnd (dedL_nodup _)).mpr fun j => by
                rw [dedL_mem]
                constructor
                · intro hj
                  obtain ⟨p1, m1, rfl⟩ := List.mem_map.mp hj
                  exact hinL p1 m1
                · intro hj
                  obtain ⟨p1, m1, rfl⟩ := List.mem_map.mp hj
                  exact hall p1 m1
              have hs := sortK_uniq (fun x hx y hy => by
                obtain ⟨p1, m1, rfl⟩ := List.mem_map.mp hx
                obtain ⟨p2, m2, rfl⟩ := List.mem_map.mp hy
                exact hal _ (hinL p1 m1) _ (hinL p2 m2)) hpm
              rw [← hs, ← srt] at e4
              obtain ⟨P3, r3⟩ := new_lst P2.rel hp (kDs_map (K := X.K) (ρ := ρ1) (fun p hp => hkn2 p (pm.mem_iff.mp hp)) e4)
              exact q _ _ _ (P1.trans (P2.trans P3)) r3
          · cases e2
      · cases e2
    | _ => cases e2
end
end SW
namespace SW
open PySem L2
def b_l_gone : EvS := (seqS (stS 3 (aE lstD (consA (aE tupD (consA (vE 1) (consA (cE .non) nilA))) nilA)))
  (seqS (forS (sqI (vE 2)) (.nm 4) (seqS (stS 5 (b2E sbD (vE 0) (b2E sbD (b2E sbD (vE 3) (u1E negD (cE (.int 1)))) (cE (.int 0)))))
  (seqS (ifS (notT (tB (b2E ltD (vE 4) (aE lenD (consA (vE 5) nilA))))) (rtS (cE .non)) nxS)
  (exS (mE appendM (vE 3) (consA (b2E sbD (vE 5) (vE 4)) nilA))))))
  (rtS (vE 3))))
def g_l_gone : Fn := fnD 3 6 b_l_gone
end SW
namespace SW
open PySem L2

/-! Plain runs: Wp m Q says that m ends, with what Q asks. -/
def Wp {α : Type} (m : Option (α × Sto)) (Q : α → Sto → Prop) : Prop := ∃ a S, m = some (a, S) ∧ Q a S
theorem Wp.mono {α : Type} {m : Option (α × Sto)} {Q Q' : α → Sto → Prop} (h : Wp m Q) (k : ∀ a S, Q a S → Q' a S) : Wp m Q' := let ⟨a, S, e, q⟩ := h; ⟨a, S, e, k a S q⟩
theorem Wp.of {α : Type} {m : Option (α × Sto)} {a : α} {S : Sto} {Q : α → Sto → Prop} (e : m = some (a, S)) (q : Q a S) : Wp m Q := ⟨a, S, e, q⟩
theorem wp_some {α : Type} {a : α} {S : Sto} {Q : α → Sto → Prop} : Wp (some (a, S)) Q ↔ Q a S :=
  ⟨fun ⟨_, _, e, q⟩ => by cases e; exact q, fun q => ⟨_, _, rfl, q⟩⟩
theorem wp_none {α : Type} {Q : α → Sto → Prop} : Wp (none : Option (α × Sto)) Q ↔ False := ⟨fun ⟨_, _, e, _⟩ => (nomatch e), False.elim⟩
theorem wp_bind {α β : Type} {m : Option (α × Sto)} {f : α × Sto → Option (β × Sto)} {Q : β → Sto → Prop} : Wp (m.bind f) Q ↔ Wp m fun a S => Wp (f (a, S)) Q := by
  constructor
  · rintro ⟨b, S, e, q⟩
    obtain ⟨⟨a, S1⟩, e1, e2⟩ := bindE e
    exact ⟨a, S1, e1, b, S, e2, q⟩
  · rintro ⟨a, S1, e1, b, S, e2, q⟩
    exact ⟨b, S, by rw [e1]; exact e2, q⟩
theorem wp_map {α β : Type} {m : Option (α × Sto)} {f : α × Sto → β × Sto} {Q : β → Sto → Prop} : Wp (m.map f) Q ↔ Wp m fun a S => Q (f (a, S)).1 (f (a, S)).2 := by
  constructor
  · rintro ⟨b, S, e, q⟩
    obtain ⟨⟨a, S1⟩, e1, e2⟩ := Option.map_eq_some_iff.mp e
    refine ⟨a, S1, e1, ?_⟩
    show Q (f (a, S1)).1 (f (a, S1)).2
    rw [e2]; exact q
  · rintro ⟨a, S1, e1, q⟩
    exact ⟨_, _, by rw [e1]; rfl, q⟩
theorem wp_ite {α : Type} {c : Prop} [Decidable c] {m n : Option (α × Sto)} {Q : α → Sto → Prop} : Wp (if c then m else n) Q ↔ if c then Wp m Q else Wp n Q := by
  by_cases h : c
  · rw [if_pos h, if_pos h]
  · rw [if_neg h, if_neg h]
section
variable {τ : Tau} {S : Sto}
theorem wp_cE {d : D} {Q} : Wp (cE d τ S) Q ↔ Q d S := wp_some
theorem wp_vE {i : Nat} {Q} : Wp (vE i τ S) Q ↔ ∃ d, τ[i]? = some (some d) ∧ Q d S := by
  unfold vE
  constructor
  · rintro ⟨a, S1, e, q⟩
    obtain ⟨d, e1, e2⟩ := Option.map_eq_some_iff.mp e
    cases e2
    cases h : τ[i]? with
    | none => rw [h] at e1; cases e1
    | some o => rw [h] at e1; cases o <;> cases e1; exact ⟨_, rfl, q⟩
  · rintro ⟨d, e, q⟩
    exact ⟨d, S, by rw [e]; rfl, q⟩
theorem wp_b2E {g : D → D → Sto → Option (D × Sto)} {fa fb : EvE} {Q} : Wp (b2E g fa fb τ S) Q ↔ Wp (fa τ S) fun x S1 => Wp (fb τ S1) fun y S2 => Wp (g x y S2) Q := by
  unfold b2E; rw [wp_bind]; simp only [wp_bind]
theorem wp_u1E {g : D → Sto → Option (D × Sto)} {fa : EvE} {Q} : Wp (u1E g fa τ S) Q ↔ Wp (fa τ S) fun x S1 => Wp (g x S1) Q := by unfold u1E; rw [wp_bind]
theorem wp_aE {g : List D → Sto → Option (D × Sto)} {fa : EvA} {Q} : Wp (aE g fa τ S) Q ↔ Wp (fa τ S) fun x S1 => Wp (g x S1) Q := by unfold aE; rw [wp_bind]
theorem wp_nilA {Q} : Wp (nilA τ S) Q ↔ Q [] S := wp_some
theorem wp_consA {fa : EvE} {fr : EvA} {Q} : Wp (consA fa fr τ S) Q ↔ Wp (fa τ S) fun x S1 => Wp (fr τ S1) fun y S2 => Q (x :: y) S2 := by
  unfold consA; rw [wp_bind]; simp only [wp_bind, wp_some]
theorem wp_tB {f : EvE} {Q} : Wp (tB f τ S) Q ↔ Wp (f τ S) fun d S1 => ∃ b, d = .bl b ∧ Q b S1 := by
  unfold tB; rw [wp_bind]
  constructor
  · rintro ⟨d, S1, e, q⟩
    refine ⟨d, S1, e, ?_⟩
    cases d with
    | bl b => exact ⟨b, rfl, wp_some.mp q⟩
    | _ => exact (wp_none.mp q).elim
  · rintro ⟨d, S1, e, b, rfl, q⟩
    exact ⟨_, S1, e, wp_some.mpr q⟩
theorem wp_notT {f : EvT} {Q} : Wp (notT f τ S) Q ↔ Wp (f τ S) fun b S1 => Q (!b) S1 := by unfold notT; rw [wp_map]
theorem wp_andT {f g : EvT} {Q} : Wp (andT f g τ S) Q ↔ Wp (f τ S) fun b S1 => if b = true then Wp (g τ S1) Q else Q false S1 := by
  unfold andT; rw [wp_bind]; simp only [wp_ite, wp_some]
theorem wp_orT {f g : EvT} {Q} : Wp (orT' f g τ S) Q ↔ Wp (f τ S) fun b S1 => if b = true then Q true S1 else Wp (g τ S1) Q := by
  unfold orT'; rw [wp_bind]; simp only [wp_ite, wp_some]
theorem wp_iteE {c : EvT} {f g : EvE} {Q} : Wp (iteE c f g τ S) Q ↔ Wp (c τ S) fun b S1 => if b = true then Wp (f τ S1) Q else Wp (g τ S1) Q := by
  unfold iteE; rw [wp_bind]; simp only [wp_ite]
theorem wp_andE {f g : EvE} {Q} : Wp (andE f g τ S) Q ↔ Wp (f τ S) fun d S1 => ∃ b, d = .bl b ∧ if b = true then Wp (g τ S1) Q else Q (.bl false) S1 := by
  unfold andE; rw [wp_bind]
  constructor
  · rintro ⟨d, S1, e, q⟩
    refine ⟨d, S1, e, ?_⟩
    cases d with
    | bl b => exact ⟨b, rfl, by simpa only [wp_ite, wp_some] using q⟩
    | _ => exact (wp_none.mp q).elim
  · rintro ⟨d, S1, e, b, rfl, q⟩
    exact ⟨_, S1, e, by simpa only [wp_ite, wp_some] using q⟩
theorem wp_orE {f g : EvE} {Q} : Wp (orE' f g τ S) Q ↔ Wp (f τ S) fun d S1 => ∃ b, d = .bl b ∧ if b = true then Q (.bl true) S1 else Wp (g τ S1) Q := by
  unfold orE'; rw [wp_bind]
  constructor
  · rintro ⟨d, S1, e, q⟩
    refine ⟨d, S1, e, ?_⟩
    cases d with
    | bl b => exact ⟨b, rfl, by simpa only [wp_ite, wp_some] using q⟩
    | _ => exact (wp_none.mp q).elim
  · rintro ⟨d, S1, e, b, rfl, q⟩
    exact ⟨_, S1, e, by simpa only [wp_ite, wp_some] using q⟩
theorem wp_notE {f : EvE} {Q} : Wp (notE f τ S) Q ↔ Wp (f τ S) fun d S1 => ∃ b, d = .bl b ∧ Q (.bl (!b)) S1 := by
  unfold notE; rw [wp_bind]
  constructor
  · rintro ⟨d, S1, e, q⟩
    refine ⟨d, S1, e, ?_⟩
    cases d with
    | bl b => exact ⟨b, rfl, wp_some.mp q⟩
    | _ => exact (wp_none.mp q).elim
  · rintro ⟨d, S1, e, b, rfl, q⟩
    exact ⟨_, S1, e, wp_some.mpr q⟩
theorem wp_chE {g g' : D → D → Sto → Option (D × Sto)} {fa fb fc : EvE} {Q} : Wp (chE g g' fa fb fc τ S) Q ↔ Wp (fa τ S) fun x S1 => Wp (fb τ S1) fun y S2 => Wp (g x y S2) fun d S3 => ∃ b, d = .bl b ∧ if b = true then Wp (fc τ S3) fun z S4 => Wp (g' y z S4) Q else Q (.bl false) S3 := by
  unfold chE; rw [wp_bind]; simp only [wp_bind]
  constructor
  · rintro ⟨x, S1, e1, y, S2, e2, d, S3, e3, q⟩
    refine ⟨x, S1, e1, y, S2, e2, d, S3, e3, ?_⟩
    cases d with
    | bl b => exact ⟨b, rfl, by simpa only [wp_ite, wp_some, wp_bind] using q⟩
    | _ => exact (wp_none.mp q).elim
  · rintro ⟨x, S1, e1, y, S2, e2, d, S3, e3, b, rfl, q⟩
    exact ⟨x, S1, e1, y, S2, e2, _, S3, e3, by simpa only [wp_ite, wp_some, wp_bind] using q⟩
theorem wp_yesT {Q} : Wp (yesT τ S) Q ↔ Q true S := wp_some
theorem wp_noO {Q} : Wp (noO τ S) Q ↔ Q none S := wp_some
theorem wp_someO {f : EvE} {Q} : Wp (someO f τ S) Q ↔ Wp (f τ S) fun d S1 => ∃ i, d = .int i ∧ Q (some i) S1 := by
  unfold someO; rw [wp_bind]
  constructor
  · rintro ⟨d, S1, e, q⟩
    refine ⟨d, S1, e, ?_⟩
    cases d with
    | int b => exact ⟨b, rfl, wp_some.mp q⟩
    | _ => exact (wp_none.mp q).elim
  · rintro ⟨d, S1, e, b, rfl, q⟩
    exact ⟨_, S1, e, wp_some.mpr q⟩
theorem wp_slE {f : EvE} {a b : EvO} {Q} : Wp (slE f a b τ S) Q ↔ Wp (f τ S) fun x S1 => Wp (a τ S1) fun l S2 => Wp (b τ S2) fun h S3 => Wp (slD x l h S3) Q := by
  unfold slE; rw [wp_bind]; simp only [wp_bind]
theorem wp_nK {Q} : Wp (nK τ S) Q ↔ Q (.loc S.length) (S ++ [.dK []]) := wp_some
theorem wp_nT {Q} : Wp (nT τ S) Q ↔ Q (.loc S.length) (S ++ [.dT []]) := wp_some
theorem wp_mE {g : D → List D → Sto → Option (D × Sto)} {fo : EvE} {fa : EvA} {Q} : Wp (mE g fo fa τ S) Q ↔ Wp (fo τ S) fun o S1 => isLst o S1 = true ∧ Wp (fa τ S1) fun as S2 => Wp (g o as S2) Q := by
  unfold mE; rw [wp_bind]
  simp only [wp_ite, wp_bind, wp_none]
  constructor
  · rintro ⟨o, S1, e, q⟩
    refine ⟨o, S1, e, ?_⟩
    split at q
    · rename_i h; exact ⟨h, q⟩
    · exact q.elim
  · rintro ⟨o, S1, e, h, q⟩
    refine ⟨o, S1, e, ?_⟩
    show if isLst o S1 = true then _ else _
    rw [if_pos h]; exact q
/-! statements -/
theorem wp_nxS {Q} : Wp (nxS τ S) Q ↔ Q (.nx τ) S := wp_some
theorem wp_brS {Q} : Wp (brS τ S) Q ↔ Q (.bk τ) S := wp_some
theorem wp_ctS {Q} : Wp (ctS τ S) Q ↔ Q (.ct τ) S := wp_some
theorem wp_retN {Q} : Wp (retN τ S) Q ↔ Q (.rt .non) S := wp_some
/-- what comes behind a statement that goes on -/
def cont (g : EvS) (Q : Out → Sto → Prop) : Out → Sto → Prop := fun o S1 => match o with | .nx τ' => Wp (g τ' S1) Q | o => Q o S1
theorem cont_nx {g : EvS} {Q} : cont g Q (.nx τ) S = Wp (g τ S) Q := rfl
theorem cont_rt {g : EvS} {Q} {d : D} : cont g Q (.rt d) S = Q (.rt d) S := rfl
theorem cont_bk {g : EvS} {Q} : cont g Q (.bk τ) S = Q (.bk τ) S := rfl
theorem cont_ct {g : EvS} {Q} : cont g Q (.ct τ) S = Q (.ct τ) S := rfl
theorem cont_ex {g : EvS} {Q} {c : String} {fs : List (Str × D)} : cont g Q (.ex c fs τ) S = Q (.ex c fs τ) S := rfl
theorem wp_seqS {f g : EvS} {Q} : Wp (seqS f g τ S) Q ↔ Wp (f τ S) (cont g Q) := by
  unfold seqS; rw [wp_bind]
  constructor
  · rintro ⟨o, S1, e, q⟩
    refine ⟨o, S1, e, ?_⟩
    cases o with
    | nx τ' => exact q
    | rt d => exact (wp_some (Q := Q)).mp q
    | bk d => exact (wp_some (Q := Q)).mp q
    | ct d => exact (wp_some (Q := Q)).mp q
    | ex c fs d => exact (wp_some (Q := Q)).mp q
  · rintro ⟨o, S1, e, q⟩
    refine ⟨o, S1, e, ?_⟩
    cases o with
    | nx τ' => exact q
    | rt d => exact wp_some.mpr q
    | bk d => exact wp_some.mpr q
    | ct d => exact wp_some.mpr q
    | ex c fs d => exact wp_some.mpr q
theorem wp_exS {f : EvE} {Q} : Wp (exS f τ S) Q ↔ Wp (f τ S) fun _ S1 => Q (.nx τ) S1 := by unfold exS; rw [wp_map]
theorem wp_rtS {f : EvE} {Q} : Wp (rtS f τ S) Q ↔ Wp (f τ S) fun d S1 => Q (.rt d) S1 := by unfold rtS; rw [wp_map]
theorem wp_ifS {c : EvT} {f g : EvS} {Q} : Wp (ifS c f g τ S) Q ↔ Wp (c τ S) fun b S1 => if b = true then Wp (f τ S1) Q else Wp (g τ S1) Q := by
  unfold ifS; rw [wp_bind]; simp only [wp_ite]
theorem wp_stS {i : Nat} {f : EvE} {Q} : Wp (stS i f τ S) Q ↔ Wp (f τ S) fun d S1 => Q (.nx (τ.set i (some d))) S1 := by
  unfold stS asS; rw [wp_bind]
  simp only [patG, Pat.bind, Option.map_some, wp_some]
theorem wp_parS {i j : Nat} {f : EvA} {Q} : Wp (parS i j f τ S) Q ↔ Wp (f τ S) fun ds S1 => ∃ v w, ds = [v, w] ∧ Q (.nx ((τ.set i (some v)).set j (some w))) S1 := by
  unfold parS; rw [wp_bind]
  constructor
  · rintro ⟨ds, S1, e, q⟩
    refine ⟨ds, S1, e, ?_⟩
    rcases ds with _ | ⟨v, _ | ⟨w, _ | ⟨x, r⟩⟩⟩
    · exact (wp_none.mp q).elim
    · exact (wp_none.mp q).elim
    · exact ⟨v, w, rfl, wp_some.mp q⟩
    · exact (wp_none.mp q).elim
  · rintro ⟨ds, S1, e, v, w, rfl, q⟩
    exact ⟨_, S1, e, wp_some.mpr q⟩
/-- a target takes a value -/
theorem wp_asS {f : EvE} {g : EvG} {Q} : Wp (asS f g τ S) Q ↔ Wp (f τ S) fun d S1 => Wp (g d τ S1) fun τ2 S2 => Q (.nx τ2) S2 := by
  unfold asS; rw [wp_bind]; simp only [wp_map]
theorem wp_augS {i : Nat} {g : D → D → Sto → Option (D × Sto)} {f : EvE} {Q} : Wp (augS i g f τ S) Q ↔ ∃ x, τ[i]? = some (some x) ∧ Wp (f τ S) fun y S1 => Wp (g x y S1) fun z S2 => Q (.nx (τ.set i (some z))) S2 := by
  unfold augS
  constructor
  · rintro ⟨o, S1, e, q⟩
    obtain ⟨x, e0, e⟩ := bindE e
    refine ⟨x, ?_, ?_⟩
    · cases h : τ[i]? with
      | none => rw [h] at e0; cases e0
      | some o => rw [h] at e0; cases o <;> cases e0; rfl
    · have : Wp ((f τ S).bind fun p => (g x p.1 p.2).map fun q => (.nx (τ.set i (some q.1)), q.2)) Q := ⟨o, S1, e, q⟩
      rw [wp_bind] at this
      simpa only [wp_map] using this
  · rintro ⟨x, e0, h⟩
    have : Wp ((f τ S).bind fun p => (g x p.1 p.2).map fun q => (.nx (τ.set i (some q.1)), q.2)) Q := by
      rw [wp_bind]; simpa only [wp_map] using h
    obtain ⟨o, S1, e, q⟩ := this
    exact ⟨o, S1, by rw [e0]; exact e, q⟩
theorem wp_patG {p : Pat} {d : D} {Q} : Wp (patG p d τ S) Q ↔ ∃ τ', p.bind d τ = some τ' ∧ Q τ' S := by
  unfold patG
  constructor
  · rintro ⟨τ', S1, e, q⟩
    obtain ⟨t, e1, e2⟩ := Option.map_eq_some_iff.mp e
    cases e2
    exact ⟨_, e1, q⟩
  · rintro ⟨τ', e, q⟩
    exact ⟨τ', S, by rw [e]; rfl, q⟩
theorem wp_tupG {gs : EvGs} {d : D} {Q} : Wp (tupG gs d τ S) Q ↔ ∃ ds, d = .tup ds ∧ Wp (gs ds τ S) Q := by
  constructor
  · intro h
    cases d with
    | tup ds => exact ⟨ds, rfl, h⟩
    | _ => exact (wp_none.mp h).elim
  · rintro ⟨ds, rfl, h⟩
    exact h
theorem wp_nilG {Q} : Wp (nilG [] τ S) Q ↔ Q τ S := wp_some
theorem wp_consG {g : EvG} {gs : EvGs} {d : D} {ds : List D} {Q} : Wp (consG g gs (d :: ds) τ S) Q ↔ Wp (g d τ S) fun τ1 S1 => Wp (gs ds τ1 S1) Q := by
  show Wp ((g d τ S).bind _) Q ↔ _
  rw [wp_bind]
theorem wp_subG {fo fi : EvE} {d : D} {Q} : Wp (subG fo fi d τ S) Q ↔ Wp (fo τ S) fun o S1 => Wp (fi τ S1) fun i S2 => ∃ S3, stD o i d S2 = some S3 ∧ Q τ S3 := by
  unfold subG; rw [wp_bind]; simp only [wp_bind]
  constructor
  · rintro ⟨o, S1, e1, i, S2, e2, τ', S3, e3, q⟩
    obtain ⟨t, e4, e5⟩ := Option.map_eq_some_iff.mp e3
    cases e5
    exact ⟨o, S1, e1, i, S2, e2, _, e4, q⟩
  · rintro ⟨o, S1, e1, i, S2, e2, S3, e3, q⟩
    exact ⟨o, S1, e1, i, S2, e2, τ, S3, by show (stD o i d S2).map _ = _; rw [e3]; rfl, q⟩
theorem wp_fnD {n m : Nat} {b : EvS} {ds : List D} {Q : D → Sto → Prop} (h : ds.length = n) : Wp (fnD n m b ds S) Q ↔ Wp (b (ds.map some ++ List.replicate (m - n) none) S) fun o S1 => match o with
    | .rt d => Q d S1
    | .nx _ => Q .non S1
    | _ => False := by
  unfold fnD
  rw [if_pos h, wp_bind]
  constructor
  · rintro ⟨o, S1, e, q⟩
    refine ⟨o, S1, e, ?_⟩
    cases o with
    | rt d => exact wp_some.mp q
    | nx d => exact wp_some.mp q
    | bk d => exact (wp_none.mp q).elim
    | ct d => exact (wp_none.mp q).elim
    | ex c fs d => exact (wp_none.mp q).elim
  · rintro ⟨o, S1, e, q⟩
    refine ⟨o, S1, e, ?_⟩
    cases o with
    | rt d => exact wp_some.mpr q
    | nx d => exact wp_some.mpr q
    | bk d => exact q.elim
    | ct d => exact q.elim
    | ex c fs d => exact q.elim
/-! values by operators -/
theorem wp_add {i j : Int} {Q} : Wp (addD (.int i) (.int j) S) Q ↔ Q (.int (i + j)) S := wp_some
theorem wp_addI {i j : Int} {Q} : Wp (addI (.int i) (.int j) S) Q ↔ Q (.int (i + j)) S := wp_some
theorem wp_sub {i j : Int} {Q} : Wp (subD (.int i) (.int j) S) Q ↔ Q (.int (i - j)) S := wp_some
theorem wp_lt {i j : Int} {Q} : Wp (ltD (.int i) (.int j) S) Q ↔ Q (.bl (decide (i < j))) S := wp_some
theorem wp_le {i j : Int} {Q} : Wp (leD (.int i) (.int j) S) Q ↔ Q (.bl (decide (i ≤ j))) S := wp_some
theorem wp_gt {i j : Int} {Q} : Wp (gtD (.int i) (.int j) S) Q ↔ Q (.bl (decide (j < i))) S := wp_some
theorem wp_ge {i j : Int} {Q} : Wp (geD (.int i) (.int j) S) Q ↔ Q (.bl (decide (j ≤ i))) S := wp_some
theorem wp_neg {i : Int} {Q} : Wp (negD (.int i) S) Q ↔ Q (.int (-i)) S := wp_some
theorem wp_abs {i : Int} {Q} : Wp (absD [.int i] S) Q ↔ Q (.int (if i < 0 then -i else i)) S := wp_some
theorem wp_max2 {i j : Int} {Q} : Wp (max2D [.int i, .int j] S) Q ↔ Q (.int (if j > i then j else i)) S := wp_some
theorem wp_min2 {i j : Int} {Q} : Wp (min2D [.int i, .int j] S) Q ↔ Q (.int (if j < i then j else i)) S := wp_some
theorem wp_intb {b : Bool} {Q} : Wp (intD [.bl b] S) Q ↔ Q (.int (if b then 1 else 0)) S := wp_some
theorem wp_is_non {d : D} {Q} : Wp (isD d .non S) Q ↔ Q (.bl (isNonD d)) S := by cases d <;> exact wp_some
theorem wp_isnot_non {d : D} {Q} : Wp (isNotD d .non S) Q ↔ Q (.bl (!isNonD d)) S := by cases d <;> exact wp_some
theorem atI_of {α : Type} {ds : List α} {i : Nat} {d : α} (h : ds[i]? = some d) : atI ds (i : Int) = some d := L2.atI_nat h
theorem stD_lst {n : Nat} {ds : List D} {i : Nat} {v : D} (h : S[n]? = some (.lst ds)) (hi : i < ds.length) : stD (.loc n) (.int (i : Int)) v S = some (S.set n (.lst (ds.set i v))) := by
  have : ixN ds.length (i : Int) = some i := by
    unfold ixN
    rw [if_pos (by omega), if_pos (by omega)]
    simp
  simp only [stD, h, Option.bind_some, this, Option.map_some]
theorem len_loc {n : Nat} {ds : List D} {Q : D → Sto → Prop} (h : S[n]? = some (.lst ds)) : Wp (lenD [.loc n] S) Q ↔ Q (.int ds.length) S := by
  simp only [lenD, h]; exact wp_some
theorem len_tup {ds : List D} {Q : D → Sto → Prop} : Wp (lenD [.tup ds] S) Q ↔ Q (.int ds.length) S := wp_some
theorem len_fl {ds : List D} {Q : D → Sto → Prop} : Wp (lenD [.fl ds] S) Q ↔ Q (.int ds.length) S := wp_some
end
/-! the store -/
theorem sto_new {S : Sto} {o : MO} : (S ++ [o])[S.length]? = some o := by simp
theorem sto_lt {S : Sto} {p : MO} {n : Nat} (h : S[n]? = some p) : n < S.length := (List.getElem?_eq_some_iff.mp h).1
theorem sto_set {S : Sto} {o p : MO} {n : Nat} (h : S[n]? = some p) : (S.set n o)[n]? = some o := List.getElem?_set_self (sto_lt h)
theorem sto_ne {S : Sto} {o : MO} {n m : Nat} (h : n ≠ m) : (S.set n o)[m]? = S[m]? := List.getElem?_set_ne h
/-! the same as equivalences, for simp -/
section
variable {S : Sto}
theorem wq_mod {i j : Int} {Q : D → Sto → Prop} : Wp (modD (.int i) (.int j) S) Q ↔ 0 < j ∧ Q (.int (i % j)) S := by
  simp only [modD, wp_ite, wp_some, wp_none]
  by_cases h : 0 < j
  · simp [h]
  · simp [h]
theorem wq_fdiv {i j : Int} {Q : D → Sto → Prop} : Wp (fdivD (.int i) (.int j) S) Q ↔ (0 < j ∧ j < 1073741824) ∧ Q (.int (i / j)) S := by
  simp only [fdivD, wp_ite, wp_some, wp_none]
  by_cases h : 0 < j ∧ j < 1073741824
  · simp [h]
  · simp only [h, if_false, false_and]
theorem wq_mul {i j : Int} {Q : D → Sto → Prop} : Wp (mulD (.int i) (.int j) S) Q ↔ ((-(2 ^ 64) < i ∧ i < 2 ^ 64) ∨ (-(2 ^ 64) < j ∧ j < 2 ^ 64)) ∧ Q (.int (i * j)) S := by
  simp only [mulD, wp_ite, wp_some, wp_none, small64, Bool.or_eq_true, Bool.and_eq_true, decide_eq_true_eq]
  by_cases h : ((-(2 ^ 64) < i ∧ i < 2 ^ 64) ∨ (-(2 ^ 64) < j ∧ j < 2 ^ 64))
  · simp only [h, if_true, true_and]
  · simp only [h, if_false, false_and]
theorem wq_pow {i j : Int} {Q : D → Sto → Prop} : Wp (powD (.int i) (.int j) S) Q ↔ (0 ≤ j ∧ j ≤ 1000000 ∧ i.natAbs < 2 ^ 64) ∧ Q (.int (i ^ j.toNat)) S := by
  simp only [powD, wp_ite, wp_some, wp_none]
  by_cases h : (0 ≤ j ∧ j ≤ 1000000 ∧ i.natAbs < 2 ^ 64)
  · simp only [h, if_true, true_and, and_self]
  · simp only [h, if_false, false_and]
theorem wq_divmod {i j : Int} {Q : D → Sto → Prop} : Wp (divmodD [.int i, .int j] S) Q ↔ (0 < j ∧ j < 1073741824) ∧ Q (.tup [.int (i / j), .int (i % j)]) S := by
  simp only [divmodD, wp_ite, wp_some, wp_none]
  by_cases h : 0 < j ∧ j < 1073741824
  · simp [h]
  · simp only [h, if_false, false_and]
theorem wq_tup {ds : List D} {Q : D → Sto → Prop} : Wp (tupD ds S) Q ↔ ds.length ≤ 10000000 ∧ Q (.tup ds) S := by
  simp only [tupD, wp_ite, wp_some, wp_none]
  by_cases h : ds.length ≤ 10000000
  · simp [h]
  · simp only [h, if_false, false_and]
theorem wq_lst {ds : List D} {Q : D → Sto → Prop} : Wp (lstD ds S) Q ↔ ds.length ≤ 10000000 ∧ Q (.loc S.length) (S ++ [.lst ds]) := by
  simp only [lstD, wp_ite, wp_some, wp_none]
  by_cases h : ds.length ≤ 10000000
  · simp [h]
  · simp only [h, if_false, false_and]
theorem wq_map {α β : Type} {m : Option α} {f : α → β × Sto} {Q : β → Sto → Prop} : Wp (m.map f) Q ↔ ∃ a, m = some a ∧ Q (f a).1 (f a).2 := by
  constructor
  · rintro ⟨b, S1, e, q⟩
    obtain ⟨a, e1, e2⟩ := Option.map_eq_some_iff.mp e
    exact ⟨a, e1, by rw [e2]; exact q⟩
  · rintro ⟨a, e, q⟩
    exact ⟨_, _, by rw [e]; rfl, q⟩
theorem wq_sbT {ds : List D} {i : Int} {Q : D → Sto → Prop} : Wp (sbD (.tup ds) (.int i) S) Q ↔ ∃ d, atI ds i = some d ∧ Q d S := by
  have e : sbD (.tup ds) (.int i) S = (atI ds i).map fun d => (d, S) := by
    show (ixD (.tup ds) (.int i) S).orElse _ = _
    simp only [ixD]
    cases atI ds i <;> rfl
  rw [e, wq_map]
theorem wq_sbF {ds : List D} {i : Int} {Q : D → Sto → Prop} : Wp (sbD (.fl ds) (.int i) S) Q ↔ ∃ d, atI ds i = some d ∧ Q d S := by
  have e : sbD (.fl ds) (.int i) S = (atI ds i).map fun d => (d, S) := by
    show (ixD (.fl ds) (.int i) S).orElse _ = _
    simp only [ixD]
    cases atI ds i <;> rfl
  rw [e, wq_map]
theorem wq_sbL {n : Nat} {ds : List D} {i : Int} {Q : D → Sto → Prop} (h : S[n]? = some (.lst ds)) : Wp (sbD (.loc n) (.int i) S) Q ↔ ∃ d, atI ds i = some d ∧ Q d S := by
  have e : sbD (.loc n) (.int i) S = (atI ds i).map fun d => (d, S) := by
    show (ixD (.loc n) (.int i) S).orElse _ = _
    simp only [ixD, h]
    cases atI ds i with
    | some d => rfl
    | none => simp [dgD, gnD, nHas, h, nAt, Option.orElse]
  rw [e, wq_map]
theorem wq_catL {m n : Nat} {as bs : List D} {Q : D → Sto → Prop} (h : S[m]? = some (.lst as)) (h2 : S[n]? = some (.lst bs)) : Wp (addD (.loc m) (.loc n) S) Q ↔ as.length + bs.length ≤ 10000000 ∧ Q (.loc S.length) (S ++ [.lst (as ++ bs)]) := by
  simp only [addD, h, h2, wp_ite, newD, wp_some, wp_none]
  by_cases hl : as.length + bs.length ≤ 10000000
  · simp [hl]
  · simp only [hl, if_false, false_and]
theorem wq_catT {as bs : List D} {Q : D → Sto → Prop} : Wp (addD (.tup as) (.tup bs) S) Q ↔ as.length + bs.length ≤ 10000000 ∧ Q (.tup (as ++ bs)) S := by
  simp only [addD, wp_ite, wp_some, wp_none]
  by_cases hl : as.length + bs.length ≤ 10000000
  · simp [hl]
  · simp only [hl, if_false, false_and]
theorem wq_listL {n : Nat} {ds : List D} {Q : D → Sto → Prop} (h : S[n]? = some (.lst ds)) : Wp (listD [.loc n] S) Q ↔ Q (.loc S.length) (S ++ [.lst ds]) := by
  simp only [listD, itemsOf, h]; exact wp_some
theorem wq_listT {ds : List D} {Q : D → Sto → Prop} : Wp (listD [.tup ds] S) Q ↔ Q (.loc S.length) (S ++ [.lst ds]) := wp_some
theorem wq_tupleL {n : Nat} {ds : List D} {Q : D → Sto → Prop} (h : S[n]? = some (.lst ds)) : Wp (tupleD [.loc n] S) Q ↔ Q (.tup ds) S := by
  simp only [tupleD, itemsOf, h]; exact wp_some
theorem wq_tupleT {ds : List D} {Q : D → Sto → Prop} : Wp (tupleD [.tup ds] S) Q ↔ Q (.tup ds) S := wp_some
theorem wq_slT {ds : List D} {lo hi : Option Int} {Q : D → Sto → Prop} : Wp (slD (.tup ds) lo hi S) Q ↔ Q (.tup (cutD ds lo hi)) S := wp_some
theorem wq_slF {ds : List D} {lo hi : Option Int} {Q : D → Sto → Prop} : Wp (slD (.fl ds) lo hi S) Q ↔ Q (.loc S.length) (S ++ [.lst (cutD ds lo hi)]) := wp_some
theorem wq_slL {n : Nat} {ds : List D} {lo hi : Option Int} {Q : D → Sto → Prop} (h : S[n]? = some (.lst ds)) : Wp (slD (.loc n) lo hi S) Q ↔ Q (.loc S.length) (S ++ [.lst (cutD ds lo hi)]) := by
  simp only [slD, h]; exact wp_some
theorem wq_append {n : Nat} {ds : List D} {y : D} {Q : D → Sto → Prop} (h : S[n]? = some (.lst ds)) : Wp (appendM (.loc n) [y] S) Q ↔ ds.length ≤ 10000000 ∧ Q .non (S.set n (.lst (ds ++ [y]))) := by
  simp only [appendM, lstAt, h, Option.bind_some, wp_ite, wp_some, wp_none]
  by_cases hl : ds.length ≤ 10000000
  · simp [hl]
  · simp only [hl, if_false, false_and]
theorem wq_insert {n : Nat} {ds : List D} {i : Nat} {y : D} {Q : D → Sto → Prop} (h : S[n]? = some (.lst ds)) (hi : i < 1000000) : Wp (insertM (.loc n) [.int (i : Int), y] S) Q ↔ ds.length ≤ 10000000 ∧ Q .non (S.set n (.lst (ds.take i ++ [y] ++ ds.drop i))) := by
  simp only [insertM, lstAt, h, Option.bind_some, wp_ite, wp_some, wp_none, Int.toNat_natCast]
  by_cases hl : ds.length ≤ 10000000
  · rw [if_pos ⟨hl, by omega, by omega⟩]; simp [hl]
  · rw [if_neg (fun z => hl z.1)]; simp only [hl, false_and]
theorem isLst_loc {n : Nat} {ds : List D} (h : S[n]? = some (.lst ds)) : isLst (.loc n) S = true := by
  simp only [isLst, lenAt, h]; rfl
theorem lsN_of {n : Nat} {ds : List D} (h : S[n]? = some (.lst ds)) : lsN (.loc n) ds.length S = some ds := by
  simp only [lsN, lsOf, h, Option.bind_some, if_true]
theorem at3_0 (a b c : D) : atI [a, b, c] 0 = some a := rfl
theorem at3_1 (a b c : D) : atI [a, b, c] 1 = some b := rfl
theorem at3_2 (a b c : D) : atI [a, b, c] 2 = some c := rfl
theorem sto_app {n : Nat} {o : MO} (h : n < S.length) : (S ++ [o])[n]? = S[n]? := List.getElem?_append_left h
theorem stD_L {n : Nat} {ds : List D} {i : Int} {v : D} (h : S[n]? = some (.lst ds)) : stD (.loc n) (.int i) v S = (ixN ds.length i).map fun j => S.set n (.lst (ds.set j v)) := by
  simp only [stD, h, Option.bind_some]
end
theorem rep_none_s {n : Nat} : List.replicate (n + 1) (none : Option D) = none :: List.replicate n none := rfl
theorem rep_none_z : List.replicate 0 (none : Option D) = [] := rfl
theorem pb_nm {i : Nat} {d : D} {τ : Tau} : Pat.bind (.nm i) d τ = some (τ.set i (some d)) := by simp only [Pat.bind]
theorem pb_tp {ps : List Pat} {ds : List D} {τ : Tau} : Pat.bind (.tp ps) (.tup ds) τ = Pat.binds ps ds τ := by simp only [Pat.bind]
theorem pb_nil {τ : Tau} : Pat.binds [] [] τ = some τ := by simp only [Pat.binds]
theorem pb_cons {p : Pat} {ps : List Pat} {d : D} {ds : List D} {τ : Tau} : Pat.binds (p :: ps) (d :: ds) τ = (Pat.bind p d τ).bind (Pat.binds ps ds) := by simp only [Pat.binds]
/-! loops -/
def LoopQ (I : Tau → Sto → Prop) (Q : Out → Sto → Prop) : Out → Sto → Prop := fun o S => match o with
  | .nx τ => I τ S
  | .ct τ => I τ S
  | .bk τ => Q (.nx τ) S
  | .rt d => Q (.rt d) S
  | .ex c fs τ => Q (.ex c fs τ) S
theorem lq_nx {I : Tau → Sto → Prop} {Q} {τ : Tau} {S : Sto} : LoopQ I Q (.nx τ) S = I τ S := rfl
theorem lq_ct {I : Tau → Sto → Prop} {Q} {τ : Tau} {S : Sto} : LoopQ I Q (.ct τ) S = I τ S := rfl
theorem lq_bk {I : Tau → Sto → Prop} {Q} {τ : Tau} {S : Sto} : LoopQ I Q (.bk τ) S = Q (.nx τ) S := rfl
theorem lq_ex {I : Tau → Sto → Prop} {Q} {τ : Tau} {S : Sto} {c : String} {fs : List (Str × D)} : LoopQ I Q (.ex c fs τ) S = Q (.ex c fs τ) S := rfl
theorem lq_rt {I : Tau → Sto → Prop} {Q} {d : D} {S : Sto} : LoopQ I Q (.rt d) S = Q (.rt d) S := rfl
theorem wp_lo (s : Src) (ds : List D) (g : D → Tau → Option Tau) (b : EvS) (I : Nat → Tau → Sto → Prop) {Q : Out → Sto → Prop}
    (hg : ∀ i d τ S, ds[i]? = some d → I i τ S → s.get S i = some d) (hf : ∀ τ S, I ds.length τ S → s.fin S = true)
    (hs : ∀ i d τ S, ds[i]? = some d → I i τ S → ∃ τ1, g d τ = some τ1 ∧ Wp (b τ1 S) (LoopQ (I (i + 1)) Q))
    (he : ∀ τ S, I ds.length τ S → Q (.nx τ) S) : ∀ (m i : Nat) (τ : Tau) (S : Sto), i + m = ds.length → I i τ S → Wp (loE s g b m i τ S) Q
  | 0, i, τ, S, h, hI => by
    have hi : i = ds.length := by omega
    subst hi
    simp only [loE]
    rw [if_pos (hf τ S hI)]
    exact wp_some.mpr (he τ S hI)
  | m + 1, i, τ, S, h, hI => by
    have hi : i < ds.length := by omega
    have hd : ds[i]? = some ds[i] := List.getElem?_eq_getElem hi
    obtain ⟨τ1, e1, o, S2, e2, q⟩ := hs i _ τ S hd hI
    have hn := wp_lo s ds g b I hg hf hs he m (i + 1)
    simp only [loE, hg i _ τ S hd hI, Option.bind_some, e1, e2]
    cases o with
    | nx τ2 => exact hn τ2 S2 (by omega) q
    | ct τ2 => exact hn τ2 S2 (by omega) q
    | bk τ2 => exact wp_some.mpr q
    | rt d => exact wp_some.mpr q
    | ex c fs τ2 => exact wp_some.mpr q
theorem wp_while {c : EvT} {b : EvS} {τ : Tau} {S : Sto} {Q : Out → Sto → Prop} (I : Nat → Tau → Sto → Prop) (n : Nat) (hn : n < 1000000) (h0 : I n τ S)
    (hs : ∀ n τ S, I n τ S → Wp (c τ S) fun v S1 => if v = true then Wp (b τ S1) (LoopQ (fun τ S => ∃ m, m < n ∧ I m τ S) Q) else Q (.nx τ) S1) : Wp (whS c b τ S) Q := by
  have all : ∀ (k n : Nat) (τ : Tau) (S : Sto), n < k → I n τ S → Wp (whE c b k τ S) Q := by
    intro k
    induction k with
    | zero => intro n τ S h; omega
    | succ k ih =>
      intro n τ S hk hI
      obtain ⟨v, S1, e, q⟩ := hs n τ S hI
      simp only [whE, e, Option.bind_some]
      cases v with
      | false => exact wp_some.mpr q
      | true =>
        simp only [if_true] at q ⊢
        obtain ⟨o, S2, e2, q⟩ := q
        rw [e2]
        cases o with
        | nx τ2 => obtain ⟨m, hm, q⟩ := q; exact ih m τ2 S2 (by omega) q
        | ct τ2 => obtain ⟨m, hm, q⟩ := q; exact ih m τ2 S2 (by omega) q
        | bk τ2 => exact wp_some.mpr q
        | rt d => exact wp_some.mpr q
        | ex c fs τ2 => exact wp_some.mpr q
  exact all fuel n τ S (by unfold fuel; exact hn) h0
/-! comprehensions -/
theorem wp_lcL (s : Src) (ds : List D) (g : D → Tau → Option Tau) (t : EvT) (f : EvE) (τ : Tau) (I : Nat → List D → Sto → Prop) {Q : List D → Sto → Prop} (hl : ds.length ≤ 1000000)
    (hg : ∀ i d acc S, ds[i]? = some d → I i acc S → s.get S i = some d) (hf : ∀ acc S, I ds.length acc S → s.fin S = true)
    (hs : ∀ i d acc S, ds[i]? = some d → I i acc S → ∃ τ1, g d τ = some τ1 ∧ Wp (t τ1 S) fun v S1 => if v = true then Wp (f τ1 S1) fun y S2 => I (i + 1) (acc ++ [y]) S2 else I (i + 1) acc S1)
    (he : ∀ acc S, I ds.length acc S → Q acc S) : ∀ (m i : Nat) (acc : List D) (S : Sto), i + m = ds.length → acc.length ≤ i → I i acc S → Wp (lcL s g t f τ m i acc S) Q
  | 0, i, acc, S, h, ha, hI => by
    have hi : i = ds.length := by omega
    subst hi
    simp only [lcL]
    rw [if_pos (hf acc S hI)]
    exact wp_some.mpr (he acc S hI)
  | m + 1, i, acc, S, h, ha, hI => by
    have hi : i < ds.length := by omega
    have hd : ds[i]? = some ds[i] := List.getElem?_eq_getElem hi
    obtain ⟨τ1, e1, v, S2, e2, q⟩ := hs i _ acc S hd hI
    have hn := wp_lcL s ds g t f τ I hl hg hf hs he m (i + 1)
    simp only [lcL, hg i _ acc S hd hI, Option.bind_some, e1, e2]
    cases v with
    | false => exact hn acc S2 (by omega) (by omega) q
    | true =>
      simp only [if_true] at q ⊢
      obtain ⟨y, S3, e3, q⟩ := q
      rw [e3]
      simp only [Option.bind_some]
      rw [if_pos (by omega)]
      exact hn _ S3 (by omega) (by simp; omega) q
/-! loops and comprehensions in two steps: the source, then the turns -/
theorem wp_forS {fi : EvI} {p : Pat} {b : EvS} {τ : Tau} {S : Sto} {Q : Out → Sto → Prop} : Wp (forS fi p b τ S) Q ↔ Wp (fi τ S) fun s S1 => Wp (loE s p.bind b s.len 0 τ S1) Q := by unfold forS; rw [wp_bind]
theorem wp_lcS {fi : EvI} {p : Pat} {t : EvT} {f : EvE} {vs : List Nat} {τ : Tau} {S : Sto} {Q : D → Sto → Prop} : Wp (lcE fi p t f vs τ S) Q ↔ Wp (fi τ S) fun s S1 => Wp (lcL s p.bind t f (wipeT τ vs) s.len 0 [] S1) fun acc S2 => Q (.loc S2.length) (S2 ++ [.lst acc]) := by
  unfold lcE; rw [wp_bind]; simp only [wp_map, newD]
theorem wp_sqI {f : EvE} {τ : Tau} {S : Sto} {Q : Src → Sto → Prop} : Wp (sqI f τ S) Q ↔ Wp (f τ S) fun d S1 => ∃ s, srcOf d S1 = some s ∧ Q s S1 := by unfold sqI; rw [wp_bind]; simp only [wq_map]
theorem wp_enI {f : EvE} {τ : Tau} {S : Sto} {Q : Src → Sto → Prop} : Wp (enI f τ S) Q ↔ Wp (f τ S) fun d S1 => ∃ s, srcEnum d S1 = some s ∧ Q s S1 := by unfold enI; rw [wp_bind]; simp only [wq_map]
theorem wp_reI {f : EvE} {τ : Tau} {S : Sto} {Q : Src → Sto → Prop} : Wp (reI f τ S) Q ↔ Wp (f τ S) fun d S1 => ∃ s, srcRev d S1 = some s ∧ Q s S1 := by unfold reI; rw [wp_bind]; simp only [wq_map]
theorem wp_ziI {f g : EvE} {τ : Tau} {S : Sto} {Q : Src → Sto → Prop} : Wp (ziI f g τ S) Q ↔ Wp (f τ S) fun d S1 => Wp (g τ S1) fun e S2 => ∃ s, srcZip d e S2 = some s ∧ Q s S2 := by unfold ziI; rw [wp_bind]; simp only [wp_bind, wq_map]
theorem wp_rgI1 {f : EvE} {τ : Tau} {S : Sto} {Q : Src → Sto → Prop} : Wp (rgI1 f τ S) Q ↔ Wp (f τ S) fun d S1 => ∃ j, d = .int j ∧ big62 j = true ∧ Q (.fixed (rng 0 j.toNat)) S1 := by
  unfold rgI1; rw [wp_bind]
  constructor
  · rintro ⟨d, S1, e, q⟩
    refine ⟨d, S1, e, ?_⟩
    cases d with
    | int j =>
      simp only [wp_ite, wp_some, wp_none] at q
      split at q
      · rename_i hb; exact ⟨j, rfl, hb, q⟩
      · exact q.elim
    | _ => exact (wp_none.mp q).elim
  · rintro ⟨d, S1, e, j, rfl, hb, q⟩
    refine ⟨_, S1, e, ?_⟩
    simp only [hb, if_true]
    exact wp_some.mpr q
theorem wp_rgI2 {f g : EvE} {τ : Tau} {S : Sto} {Q : Src → Sto → Prop} : Wp (rgI2 f g τ S) Q ↔ Wp (f τ S) fun d S1 => Wp (g τ S1) fun e S2 => ∃ i j, d = .int i ∧ e = .int j ∧ (big62 i = true ∧ big62 j = true) ∧ Q (.fixed (rng i (j - i).toNat)) S2 := by
  unfold rgI2; rw [wp_bind]; simp only [wp_bind]
  constructor
  · rintro ⟨d, S1, e, d2, S2, e2, q⟩
    refine ⟨d, S1, e, d2, S2, e2, ?_⟩
    cases d with
    | int i =>
      cases d2 with
      | int j =>
        simp only [wp_ite, wp_some, wp_none, Bool.and_eq_true] at q
        split at q
        · rename_i hb; exact ⟨i, j, rfl, rfl, hb, q⟩
        · exact q.elim
      | _ => exact (wp_none.mp q).elim
    | _ => exact (wp_none.mp q).elim
  · rintro ⟨d, S1, e, d2, S2, e2, i, j, rfl, rfl, hb, q⟩
    refine ⟨_, S1, e, _, S2, e2, ?_⟩
    simp only [hb, Bool.and_self, if_true]
    exact wp_some.mpr q
theorem src_tup {ds : List D} {S : Sto} : srcOf (.tup ds) S = some (.fixed ds) := rfl
theorem src_fl {ds : List D} {S : Sto} : srcOf (.fl ds) S = some (.fixed ds) := rfl
theorem src_loc {n : Nat} {ds : List D} {S : Sto} (h : S[n]? = some (.lst ds)) : srcOf (.loc n) S = some (.live n ds.length) := by simp only [srcOf, lenAt, h]; rfl
theorem srcE_tup {ds : List D} {S : Sto} : srcEnum (.tup ds) S = some (.fixed (enumsT 0 ds)) := rfl
def Src.en (n l : Nat) : Src := ⟨l, fun S i => (lsN (.loc n) l S).bind fun es => (es[i]?).map (pr (i : Int)), fun S => (lsN (.loc n) l S).isSome⟩
theorem srcE_loc {n : Nat} {ds : List D} {S : Sto} (h : S[n]? = some (.lst ds)) : srcEnum (.loc n) S = some (.en n ds.length) := by
  simp only [srcEnum, lsOf, h]; rfl
theorem srcZ_tup {as bs : List D} {S : Sto} : srcZip (.tup as) (.tup bs) S = some (.fixed (zipsT as bs)) := rfl
section
variable {g : D → Tau → Option Tau} {b : EvS} {τ : Tau} {S : Sto} {Q : Out → Sto → Prop}
theorem lo_fixed (ds : List D) (I : Nat → Tau → Sto → Prop) (h0 : I 0 τ S)
    (hs : ∀ i d τ S, ds[i]? = some d → I i τ S → ∃ τ1, g d τ = some τ1 ∧ Wp (b τ1 S) (LoopQ (I (i + 1)) Q))
    (he : ∀ τ S, I ds.length τ S → Q (.nx τ) S) : Wp (loE (.fixed ds) g b (Src.fixed ds).len 0 τ S) Q :=
  wp_lo (.fixed ds) ds g b I (fun i d τ S h _ => h) (fun _ _ _ => rfl) hs he _ 0 τ S (by simp [Src.fixed]) h0
theorem lo_rng (lo : Int) (n : Nat) (I : Nat → Tau → Sto → Prop) (h0 : I 0 τ S)
    (hs : ∀ i τ S, i < n → I i τ S → ∃ τ1, g (.int (lo + (i : Int))) τ = some τ1 ∧ Wp (b τ1 S) (LoopQ (I (i + 1)) Q))
    (he : ∀ τ S, I n τ S → Q (.nx τ) S) : Wp (loE (.fixed (rng lo n)) g b (Src.fixed (rng lo n)).len 0 τ S) Q :=
  lo_fixed (rng lo n) I h0 (fun i d τ S h hI => by
    rw [rng_get] at h
    split at h
    · cases h; exact hs i τ S (by assumption) hI
    · cases h) (by rw [rng_len]; exact he)
theorem lo_live (n : Nat) (ds : List D) (I : Nat → Tau → Sto → Prop) (h0 : I 0 τ S) (hl : ∀ i τ S, I i τ S → S[n]? = some (.lst ds))
    (hs : ∀ i d τ S, ds[i]? = some d → I i τ S → ∃ τ1, g d τ = some τ1 ∧ Wp (b τ1 S) (LoopQ (I (i + 1)) Q))
    (he : ∀ τ S, I ds.length τ S → Q (.nx τ) S) : Wp (loE (.live n ds.length) g b (Src.live n ds.length).len 0 τ S) Q :=
  wp_lo (.live n ds.length) ds g b I (fun i d τ S h hI => by simp only [Src.live, lenAt, itemAt, hl i τ S hI, if_true]; exact h) (fun τ S hI => by simp [Src.live, lenAt, hl _ τ S hI]) hs he _ 0 τ S (by simp [Src.live]) h0
theorem lo_en (n : Nat) (ds : List D) (I : Nat → Tau → Sto → Prop) (h0 : I 0 τ S) (hl : ∀ i τ S, I i τ S → S[n]? = some (.lst ds))
    (hs : ∀ i d τ S, ds[i]? = some d → I i τ S → ∃ τ1, g (pr (i : Int) d) τ = some τ1 ∧ Wp (b τ1 S) (LoopQ (I (i + 1)) Q))
    (he : ∀ τ S, I ds.length τ S → Q (.nx τ) S) : Wp (loE (.en n ds.length) g b (Src.en n ds.length).len 0 τ S) Q :=
  wp_lo (.en n ds.length) (enumsT 0 ds) g b I (fun i d τ S h hI => by
    rw [enumsT_get, Nat.zero_add] at h
    simp only [Src.en, lsN_of (hl i τ S hI), Option.bind_some]; exact h) (fun τ S hI => by simp only [Src.en, lsN_of (hl _ τ S hI)]; rfl)
    (fun i d τ S h hI => by
      rw [enumsT_get, Nat.zero_add] at h
      obtain ⟨d', h1, rfl⟩ := Option.map_eq_some_iff.mp h
      exact hs i d' τ S h1 hI) (by rw [enumsT_len]; exact he) _ 0 τ S (by simp [Src.en, enumsT_len]) h0
theorem lo_enT (ds : List D) (I : Nat → Tau → Sto → Prop) (h0 : I 0 τ S)
    (hs : ∀ i d τ S, ds[i]? = some d → I i τ S → ∃ τ1, g (pr (i : Int) d) τ = some τ1 ∧ Wp (b τ1 S) (LoopQ (I (i + 1)) Q))
    (he : ∀ τ S, I ds.length τ S → Q (.nx τ) S) : Wp (loE (.fixed (enumsT 0 ds)) g b (Src.fixed (enumsT 0 ds)).len 0 τ S) Q :=
  lo_fixed (enumsT 0 ds) I h0 (fun i d τ S h hI => by
      rw [enumsT_get, Nat.zero_add] at h
      obtain ⟨d', h1, rfl⟩ := Option.map_eq_some_iff.mp h
      exact hs i d' τ S h1 hI) (by rw [enumsT_len]; exact he)
end
section
variable {g : D → Tau → Option Tau} {t : EvT} {f : EvE} {τ : Tau} {S : Sto} {Q : List D → Sto → Prop}
theorem lc_fixed (ds : List D) (hz : ds.length ≤ 1000000) (I : Nat → List D → Sto → Prop) (h0 : I 0 [] S)
    (hs : ∀ i d acc S, ds[i]? = some d → I i acc S → ∃ τ1, g d τ = some τ1 ∧ Wp (t τ1 S) fun v S1 => if v = true then Wp (f τ1 S1) fun y S2 => I (i + 1) (acc ++ [y]) S2 else I (i + 1) acc S1)
    (he : ∀ acc S, I ds.length acc S → Q acc S) : Wp (lcL (.fixed ds) g t f τ (Src.fixed ds).len 0 [] S) Q :=
  wp_lcL (.fixed ds) ds g t f τ I hz (fun i d acc S h _ => h) (fun _ _ _ => rfl) hs he _ 0 [] S (by simp [Src.fixed]) (by simp) h0
theorem lc_rng (lo : Int) (n : Nat) (hz : n ≤ 1000000) (I : Nat → List D → Sto → Prop) (h0 : I 0 [] S)
    (hs : ∀ i acc S, i < n → I i acc S → ∃ τ1, g (.int (lo + (i : Int))) τ = some τ1 ∧ Wp (t τ1 S) fun v S1 => if v = true then Wp (f τ1 S1) fun y S2 => I (i + 1) (acc ++ [y]) S2 else I (i + 1) acc S1)
    (he : ∀ acc S, I n acc S → Q acc S) : Wp (lcL (.fixed (rng lo n)) g t f τ (Src.fixed (rng lo n)).len 0 [] S) Q :=
  lc_fixed (rng lo n) (by rw [rng_len]; exact hz) I h0 (fun i d acc S h hI => by
    rw [rng_get] at h
    split at h
    · cases h; exact hs i acc S (by assumption) hI
    · cases h) (by rw [rng_len]; exact he)
theorem lc_live (n : Nat) (ds : List D) (hz : ds.length ≤ 1000000) (I : Nat → List D → Sto → Prop) (h0 : I 0 [] S) (hl : ∀ i acc S, I i acc S → S[n]? = some (.lst ds))
    (hs : ∀ i d acc S, ds[i]? = some d → I i acc S → ∃ τ1, g d τ = some τ1 ∧ Wp (t τ1 S) fun v S1 => if v = true then Wp (f τ1 S1) fun y S2 => I (i + 1) (acc ++ [y]) S2 else I (i + 1) acc S1)
    (he : ∀ acc S, I ds.length acc S → Q acc S) : Wp (lcL (.live n ds.length) g t f τ (Src.live n ds.length).len 0 [] S) Q :=
  wp_lcL (.live n ds.length) ds g t f τ I hz (fun i d acc S h hI => by simp only [Src.live, lenAt, itemAt, hl i acc S hI, if_true]; exact h) (fun acc S hI => by simp [Src.live, lenAt, hl _ acc S hI]) hs he _ 0 [] S (by simp [Src.live]) (by simp) h0
end
/-! dicts with pairs as keys -/
theorem lk_nil {κ : Type} [DecidableEq κ] {k : κ} : lk ([] : List (κ × D)) k = none := rfl
theorem lk_cons {κ : Type} [DecidableEq κ] {p : κ × D} {r : List (κ × D)} {k : κ} : lk (p :: r) k = if p.1 = k then some p.2 else lk r k := by
  by_cases e : p.1 = k
  · simp [lk, List.find?_cons, e]
  · simp [lk, List.find?_cons, e]
theorem lk_any {κ : Type} [DecidableEq κ] (k : κ) : ∀ kvs : List (κ × D), (kvs.any fun kv => decide (kv.1 = k)) = (lk kvs k).isSome
  | [] => rfl
  | p :: r => by
    rw [List.any_cons, lk_cons, lk_any k r]
    by_cases e : p.1 = k <;> simp [e]
theorem lk_map {κ : Type} [DecidableEq κ] (k j : κ) (y : D) : ∀ kvs : List (κ × D), lk (kvs.map fun kv => if kv.1 = k then (kv.1, y) else kv) j = (lk kvs j).map fun x => if j = k then y else x
  | [] => rfl
  | p :: r => by
    have ih := lk_map k j y r
    rw [List.map_cons, lk_cons, lk_cons, ih]
    by_cases h : p.1 = k
    · rw [if_pos h]
      by_cases e : p.1 = j
      · have : j = k := e.symm.trans h
        simp [e, this]
      · simp [e]
    · rw [if_neg h]
      by_cases e : p.1 = j
      · have : ¬ j = k := fun z => h (e.trans z)
        simp [e, this]
      · simp [e]
theorem lk_app {κ : Type} [DecidableEq κ] (k j : κ) (y : D) : ∀ kvs : List (κ × D), lk (kvs ++ [(k, y)]) j = ((lk kvs j).or (if k = j then some y else none))
  | [] => by simp [lk_cons, lk_nil]
  | p :: r => by
    rw [List.cons_append, lk_cons, lk_cons, lk_app k j y r]
    by_cases e : p.1 = j <;> simp [e]
theorem lk_pt {κ : Type} [DecidableEq κ] (kvs : List (κ × D)) (k j : κ) (y : D) : lk (ptK kvs k y) j = if j = k then some y else lk kvs j := by
  unfold ptK
  rw [lk_any]
  by_cases h : (lk kvs k).isSome = true
  · rw [if_pos h, lk_map]
    by_cases e : j = k
    · subst e
      obtain ⟨x, hx⟩ := Option.isSome_iff_exists.mp h
      simp [hx]
    · simp [e]
  · rw [if_neg h, lk_app]
    by_cases e : j = k
    · subst e
      have : lk kvs j = none := by cases q : lk kvs j with | none => rfl | some x => rw [q] at h; exact absurd rfl h
      simp [this]
    · have : ¬ k = j := fun z => e z.symm
      simp [e, this]
theorem pt_len {κ : Type} [DecidableEq κ] (kvs : List (κ × D)) (k : κ) (y : D) : (ptK kvs k y).length ≤ kvs.length + 1 := by
  unfold ptK
  split <;> simp
section
variable {S : Sto}
theorem wq_dgT {a : Nat} {kvs : List (List Key × D)} {t s : Int} {Q : D → Sto → Prop} (h : S[a]? = some (.dT kvs)) : Wp (sbD (.loc a) (.tup [.int t, .int s]) S) Q ↔ ∃ d, lk kvs [Sum.inl t, Sum.inl s] = some d ∧ Q d S := by
  have e : sbD (.loc a) (.tup [.int t, .int s]) S = (lk kvs [Sum.inl t, Sum.inl s]).map fun d => (d, S) := by
    show ((none : Option (D × Sto)).orElse fun _ => (dgD (.loc a) (.tup [.int t, .int s]) S).orElse fun _ => gnD (.loc a) (.tup [.int t, .int s]) S) = _
    have e0 : dgD (.loc a) (.tup [.int t, .int s]) S = (lk kvs [Sum.inl t, Sum.inl s]).map fun d => (d, S) := by
      simp only [dgD, h]; rfl
    rw [e0]
    cases lk kvs [Sum.inl t, Sum.inl s] with
    | some d => rfl
    | none => simp [Option.orElse, gnD, nHas, h, nAt]
  rw [e, wq_map]
theorem stD_T {a : Nat} {kvs : List (List Key × D)} {t s : Int} {v : D} (h : S[a]? = some (.dT kvs)) (hl : kvs.length ≤ 10000000) : stD (.loc a) (.tup [.int t, .int s]) v S = some (S.set a (.dT (ptK kvs [Sum.inl t, Sum.inl s] v))) := by
  simp only [stD, h, tOf, ksOf, kOf, Option.bind_some, Option.map_some]
  rw [if_pos hl]
end
/-! slices of parts -/
theorem cut_take {ds : List D} {k : Nat} : cutD ds none (some (k : Int)) = ds.take k := by
  unfold cutD
  rw [HT.sIx_none, HT.sIx_nat, List.drop_zero, Nat.sub_zero, List.take_eq_take_iff]
  omega
theorem cut_drop {ds : List D} {k : Nat} : cutD ds (some (k : Int)) none = ds.drop k := by
  unfold cutD
  rw [HT.sIx_none, HT.sIx_nat]
  by_cases h : k ≤ ds.length
  · rw [Nat.min_eq_left h, List.take_of_length_le (by simp)]
  · rw [Nat.min_eq_right (by omega), List.drop_of_length_le (Nat.le_refl _), List.drop_of_length_le (by omega)]; simp
end SW
local macro_rules
  | `(tactic| simp! only [$as,*]) => `(tactic| try simp only [SW.wp_seqS, SW.cont_nx, SW.cont_rt, SW.cont_bk, SW.cont_ct, SW.cont_ex, SW.lq_ex, SW.lq_nx, SW.lq_ct, SW.lq_bk, SW.lq_rt, SW.wp_ifS, SW.wp_tB, SW.wp_b2E, SW.wp_u1E, SW.wp_aE, SW.wp_nilA, SW.wp_consA, SW.wp_vE, SW.wp_cE, SW.wp_notT, SW.wp_andT, SW.wp_orT, SW.wp_iteE, SW.wp_andE, SW.wp_orE, SW.wp_notE, SW.wp_chE, SW.wp_yesT, SW.wp_noO, SW.wp_someO, SW.wp_slE, SW.wp_mE, SW.wp_nxS, SW.wp_brS, SW.wp_ctS, SW.wp_retN, SW.wp_exS, SW.wp_rtS, SW.wp_stS, SW.wp_parS, SW.wp_asS, SW.wp_augS, SW.wp_patG, SW.pb_nm, SW.pb_tp, SW.pb_nil, SW.pb_cons, Option.bind_some, SW.pr, SW.wp_tupG, SW.wp_nilG, SW.wp_consG, SW.wp_subG, SW.wp_some, SW.wp_none, SW.wp_forS, SW.wp_lcS, SW.wp_sqI, SW.wp_enI, SW.wp_reI, SW.wp_ziI, SW.wp_rgI1, SW.wp_rgI2, SW.src_tup, SW.src_fl, SW.srcE_tup, SW.srcZ_tup, SW.wipeT, SW.wq_catT, SW.wq_listT, SW.wq_tupleT, SW.wq_slT, SW.wq_slF, SW.wp_add, SW.wp_addI, SW.wp_sub, SW.wp_lt, SW.wp_le, SW.wp_gt, SW.wp_ge, SW.wp_neg, SW.wq_mod, SW.wq_fdiv, SW.wq_mul, SW.wq_pow, SW.wp_abs, SW.wp_max2, SW.wp_min2, SW.wp_intb, SW.wq_divmod, SW.wq_tup, SW.wq_lst, SW.wp_is_non, SW.wp_isnot_non, SW.wq_sbT, SW.wq_sbF, SW.len_tup, SW.len_fl, SW.wp_nK, SW.wp_nT, List.map_cons, List.map_nil, List.cons_append, List.nil_append, SW.rep_none_s, SW.rep_none_z, List.length_cons, List.length_nil, List.set_cons_zero, List.set_cons_succ, List.getElem?_cons_zero, List.getElem?_cons_succ, Option.some.injEq, exists_eq_left', exists_eq_left, exists_eq', exists_and_left, SW.D.bl.injEq, SW.D.int.injEq, SW.D.tup.injEq, SW.D.loc.injEq, List.cons.injEq, and_true, true_and, decide_eq_true_eq, Bool.not_eq_true', Bool.false_eq_true, if_false, if_true, reduceIte, Nat.reduceSub, Nat.reduceAdd, Nat.reduceLeDiff, $as,*])
local macro_rules
  | `(tactic| dsimp! only [$as,*]) => `(tactic| try simp only [SW.cont_rt, SW.cont_bk, SW.cont_ct, SW.cont_ex, SW.lq_ex, SW.lq_nx, SW.lq_ct, SW.lq_bk, SW.lq_rt, SW.wp_ifS, SW.wp_tB, SW.wp_b2E, SW.wp_u1E, SW.wp_aE, SW.wp_nilA, SW.wp_consA, SW.wp_vE, SW.wp_cE, SW.wp_notT, SW.wp_andT, SW.wp_orT, SW.wp_iteE, SW.wp_andE, SW.wp_orE, SW.wp_notE, SW.wp_chE, SW.wp_yesT, SW.wp_noO, SW.wp_someO, SW.wp_slE, SW.wp_mE, SW.wp_nxS, SW.wp_brS, SW.wp_ctS, SW.wp_retN, SW.wp_exS, SW.wp_rtS, SW.wp_stS, SW.wp_parS, SW.wp_asS, SW.wp_augS, SW.wp_patG, SW.pb_nm, SW.pb_tp, SW.pb_nil, SW.pb_cons, Option.bind_some, SW.pr, SW.wp_tupG, SW.wp_nilG, SW.wp_consG, SW.wp_subG, SW.wp_some, SW.wp_none, SW.wp_forS, SW.wp_lcS, SW.wp_sqI, SW.wp_enI, SW.wp_reI, SW.wp_ziI, SW.wp_rgI1, SW.wp_rgI2, SW.src_tup, SW.src_fl, SW.srcE_tup, SW.srcZ_tup, SW.wipeT, SW.wq_catT, SW.wq_listT, SW.wq_tupleT, SW.wq_slT, SW.wq_slF, SW.wp_add, SW.wp_addI, SW.wp_sub, SW.wp_lt, SW.wp_le, SW.wp_gt, SW.wp_ge, SW.wp_neg, SW.wq_mod, SW.wq_fdiv, SW.wq_mul, SW.wq_pow, SW.wp_abs, SW.wp_max2, SW.wp_min2, SW.wp_intb, SW.wq_divmod, SW.wq_tup, SW.wq_lst, SW.wp_is_non, SW.wp_isnot_non, SW.wq_sbT, SW.wq_sbF, SW.len_tup, SW.len_fl, SW.wp_nK, SW.wp_nT, List.map_cons, List.map_nil, List.cons_append, List.nil_append, SW.rep_none_s, SW.rep_none_z, List.length_cons, List.length_nil, List.set_cons_zero, List.set_cons_succ, List.getElem?_cons_zero, List.getElem?_cons_succ, Option.some.injEq, exists_eq_left', exists_eq_left, exists_eq', exists_and_left, SW.D.bl.injEq, SW.D.int.injEq, SW.D.tup.injEq, SW.D.loc.injEq, List.cons.injEq, and_true, true_and, decide_eq_true_eq, Bool.not_eq_true', Bool.false_eq_true, if_false, if_true, reduceIte, Nat.reduceSub, Nat.reduceAdd, Nat.reduceLeDiff, $as,*])
namespace SW
open PySem L2
def boxD (x y z : Int) : MO := .lst [.int x, .int y, .int z]
theorem ix3_0 : ixN 3 0 = some 0 := rfl
theorem ix3_1 : ixN 3 1 = some 1 := rfl
theorem ix3_2 : ixN 3 2 = some 2 := rfl
/-- a box at b, its count not above z; only it may be changed -/
def Bx (S : Sto) (b : Nat) (z : Nat) : Prop := ∃ x y z' : Int, S[b]? = some (boxD x y z') ∧ 0 ≤ x ∧ (0 ≤ y ∧ y < 2147483629) ∧ 0 ≤ z' ∧ z' ≤ z
theorem Bx.le {S : Sto} {b z z' : Nat} (h : Bx S b z) (l : z ≤ z') : Bx S b z' := let ⟨x, y, w, e, a, c, d, f⟩ := h; ⟨x, y, w, e, a, c, d, by omega⟩
theorem Bx.lt {S : Sto} {b z : Nat} (h : Bx S b z) : b < S.length := let ⟨x, y, w, e, _⟩ := h; sto_lt e
theorem Bx.of {S S' : Sto} {b z : Nat} (h : Bx S b z) (e : S'[b]? = S[b]?) : Bx S' b z := let ⟨x, y, w, e', r⟩ := h; ⟨x, y, w, e.trans e', r⟩
/-- the store behind: it may have grown, and only b may be another -/
structure Fr (S S' : Sto) (b : Nat) : Prop where
  len : S.length ≤ S'.length
  at_ : ∀ n, n < S.length → n ≠ b → S'[n]? = S[n]?
theorem Fr.refl (S : Sto) (b : Nat) : Fr S S b := ⟨Nat.le_refl _, fun _ _ _ => rfl⟩
theorem Fr.trans {S S1 S2 : Sto} {b : Nat} (h : Fr S S1 b) (g : Fr S1 S2 b) : Fr S S2 b := ⟨Nat.le_trans h.len g.len, fun n hn hb => (g.at_ n (Nat.lt_of_lt_of_le hn h.len) hb).trans (h.at_ n hn hb)⟩
theorem Fr.set (S : Sto) (b : Nat) (o : MO) : Fr S (S.set b o) b := ⟨by simp, fun n _ hb => sto_ne (Ne.symm hb)⟩
theorem Fr.app (S : Sto) (b : Nat) (o : MO) : Fr S (S ++ [o]) b := ⟨by simp, fun n hn _ => sto_app hn⟩
theorem Fr.get {S S' : Sto} {b n : Nat} {o : MO} (h : Fr S S' b) (hb : n ≠ b) (e : S[n]? = some o) : S'[n]? = some o := (h.at_ n (sto_lt e) hb).trans e
/-- a new place is changed -/
theorem Fr.new {S S' : Sto} {b n : Nat} {o : MO} (h : Fr S S' b) (hn : S.length ≤ n) : Fr S (S'.set n o) b := ⟨by simpa using h.len, fun m hm hb => by
  rw [sto_ne (by omega)]; exact h.at_ m hm hb⟩
end SW
namespace SW
open PySem L2

abbrev End := Nat × Nat
abbrev Wb := List (List End)
def eD (e : End) : D := .tup [.int e.1, .int e.2]
def rD (r : List End) : D := .tup (r.map eD)
def wD (w : Wb) : D := .tup (w.map rD)
/-- the thing at a room's door -/
def aT (w : Wb) (r i : Nat) : Option End := (w[r]?).bind fun x => x[i]?
theorem aT_some {w : Wb} {r i : Nat} {e : End} : aT w r i = some e ↔ ∃ x, w[r]? = some x ∧ x[i]? = some e := Option.bind_eq_some_iff
/-- each half tie stands once -/
def Dist (hs : Wb) : Prop := ∀ r i r' i' e, aT hs r i = some e → aT hs r' i' = some e → r = r' ∧ i = i'
def partner (e : End) : End := (e.1, if e.2 = 0 then 1 else if e.2 = 1 then 0 else e.2)
open Classical in
noncomputable def posOf (hs : Wb) (e : End) : End := if h : ∃ p : End, aT hs p.1 p.2 = some e then Classical.choose h else (0, 0)
theorem posOf_at {hs : Wb} {e : End} (h : ∃ p : End, aT hs p.1 p.2 = some e) : aT hs (posOf hs e).1 (posOf hs e).2 = some e := by
  unfold posOf; rw [dif_pos h]; exact Classical.choose_spec h
theorem posOf_eq {hs : Wb} (d : Dist hs) {e : End} {r i : Nat} (h : aT hs r i = some e) : posOf hs e = (r, i) := by
  have := posOf_at ⟨(r, i), h⟩
  obtain ⟨a, b⟩ := d _ _ _ _ _ this h
  exact Prod.ext a b
noncomputable def joinW (hs : Wb) : Wb := hs.map fun x => x.map fun e => posOf hs (partner e)
/-- lists of half ties in the store -/
structure Hv (S : Sto) (h : Nat) (ls : List Nat) (hs : Wb) : Prop where
  top : S[h]? = some (.lst (ls.map .loc))
  len : ls.length = hs.length
  at_ : ∀ (r l : Nat) (x : List End), ls[r]? = some l → hs[r]? = some x → S[l]? = some (.lst (x.map eD))
theorem Hv.of {S S' : Sto} {h : Nat} {ls : List Nat} {hs : Wb} (H : Hv S h ls hs) (k : ∀ n, n < S.length → S'[n]? = S[n]?) : Hv S' h ls hs :=
  ⟨(k _ (sto_lt H.top)).trans H.top, H.len, fun r l x a b => (k _ (sto_lt (H.at_ r l x a b))).trans (H.at_ r l x a b)⟩
structure JoinOk (hs : Wb) : Prop where
  dist : Dist hs
  side : ∀ r i e, aT hs r i = some e → e.2 ≤ 2
  part : ∀ r i e, aT hs r i = some e → ∃ p : End, aT hs p.1 p.2 = some (partner e)
  few : hs.length ≤ 100
  less : ∀ (r : Nat) (x : List End), hs[r]? = some x → x.length ≤ 1000
abbrev kE (e : End) : List Key := [Sum.inl (e.1 : Int), Sum.inl (e.2 : Int)]
theorem kE_inj {a b : End} (h : kE a = kE b) : a = b := by
  simp only [kE, List.cons.injEq, Sum.inl.injEq, and_true] at h
  exact Prod.ext (by omega) (by omega)
/-- what the dict holds when the doors ahead of (r, i) are in it -/
def Held (hs : Wb) (kvs : List (List Key × D)) (r i : Nat) : Prop := ∀ r' i' e, (r' < r ∨ (r' = r ∧ i' < i)) → aT hs r' i' = some e → lk kvs (kE e) = some (eD (r', i'))
theorem Held.put {hs : Wb} {kvs : List (List Key × D)} {r i : Nat} {e : End} (d : Dist hs) (h : Held hs kvs r i) (he : aT hs r i = some e) : Held hs (ptK kvs (kE e) (eD (r, i))) r (i + 1) := by
  intro r' i' e' hlt h'
  rw [lk_pt]
  by_cases q : kE e' = kE e
  · have := kE_inj q
    subst this
    obtain ⟨rfl, rfl⟩ := d _ _ _ _ _ h' he
    rw [if_pos rfl]
  · rw [if_neg q]
    refine h r' i' e' ?_ h'
    rcases hlt with z | ⟨z, y⟩
    · exact .inl z
    · subst z
      by_cases q2 : i' = i
      · subst q2
        rw [he] at h'; cases h'
        exact absurd rfl q
      · exact .inr ⟨rfl, by omega⟩
def I1 (S0 : Sto) (hs : Wb) (h : Nat) (a : Nat) (i : Nat) (τ : Tau) (S : Sto) : Prop := ∃ o2 o3 o4 o5 o6 o7 o8 kvs, τ = [some (.loc h), some (.loc a), o2, o3, o4, o5, o6, o7, o8] ∧ S[a]? = some (.dT kvs) ∧ Held hs kvs i 0 ∧ kvs.length ≤ i * 1000 ∧ ∀ n, n < S0.length → S[n]? = S0[n]?
def I2 (S0 : Sto) (hs : Wb) (h a wl : Nat) (kvs : List (List Key × D)) (i : Nat) (τ : Tau) (S : Sto) : Prop := ∃ o2 o4 o5 o6 o7 o8, τ = [some (.loc h), some (.loc a), o2, some (.loc wl), o4, o5, o6, o7, o8] ∧ S[a]? = some (.dT kvs) ∧ S[wl]? = some (.lst (((joinW hs).take i).map rD)) ∧ ∀ n, n < S0.length → S[n]? = S0[n]?
def I3 (S0 : Sto) (hs : Wb) (a wl : Nat) (kvs : List (List Key × D)) (i : Nat) (x : List End) (j : Nat) (acc : List D) (S : Sto) : Prop := acc = (x.take j).map (fun e => eD (posOf hs (partner e))) ∧ S[a]? = some (.dT kvs) ∧ S[wl]? = some (.lst (((joinW hs).take i).map rD)) ∧ ∀ n, n < S0.length → S[n]? = S0[n]?
end SW
namespace SW
open PySem L2

/-- the half ties of tie t, with their rooms -/
def sidesOf (many t : Nat) (p : End) : List (End × Nat) := if p.2 = many then [((t, 2), p.1)] else [((t, 0), p.1), ((t, 1), p.2)]
def doneTo (many : Nat) (ps : List End) : Nat → List (End × Nat)
  | 0 => []
  | k + 1 => doneTo many ps k ++ (match ps[k]? with | some p => sidesOf many k p | none => [])
theorem mem_sides {many t : Nat} {p : End} {e : End} {r : Nat} (h : (e, r) ∈ sidesOf many t p) : e.1 = t := by
  unfold sidesOf at h
  split at h
  · simp at h; rw [h.1]
  · simp at h
    rcases h with h | h <;> rw [h.1]
theorem mem_done {many : Nat} {ps : List End} {e : End} {r : Nat} : ∀ {k : Nat}, (e, r) ∈ doneTo many ps k ↔ e.1 < k ∧ ∃ p, ps[e.1]? = some p ∧ (e, r) ∈ sidesOf many e.1 p
  | 0 => by simp [doneTo]
  | k + 1 => by
    simp only [doneTo, List.mem_append, mem_done (k := k)]
    constructor
    · rintro (⟨h1, h2⟩ | h)
      · exact ⟨by omega, h2⟩
      · cases hp : ps[k]? with
        | none => rw [hp] at h; simp at h
        | some p =>
          rw [hp] at h
          have := mem_sides h
          rw [this]
          exact ⟨by omega, p, hp, h⟩
    · rintro ⟨h1, p, h2, h3⟩
      by_cases hk : e.1 < k
      · exact .inl ⟨hk, p, h2, h3⟩
      · have : e.1 = k := by omega
        rw [this] at h2 h3
        rw [h2]
        exact .inr h3
theorem sides_len {many t : Nat} {p : End} : (sidesOf many t p).length ≤ 2 := by unfold sidesOf; split <;> simp
theorem done_len {many : Nat} {ps : List End} : ∀ k : Nat, (doneTo many ps k).length ≤ 2 * k
  | 0 => by simp [doneTo]
  | k + 1 => by
    simp only [doneTo, List.length_append]
    have := done_len (many := many) (ps := ps) k
    cases hp : ps[k]? with
    | none => simp; omega
    | some p => have := sides_len (many := many) (t := k) (p := p); simp only; omega
/-- lists of half ties that hold what is done, each once -/
structure HI (many : Nat) (hs : Wb) (done : List (End × Nat)) : Prop where
  len : hs.length = many
  nd : ∀ (r : Nat) (x : List End), hs[r]? = some x → x.Nodup
  cnt : ∀ (r : Nat) (x : List End), hs[r]? = some x → x.length = done.countP fun q => decide (q.2 = r)
  mem : ∀ (r : Nat) (x : List End) (e : End), hs[r]? = some x → (e ∈ x ↔ (e, r) ∈ done)
def insAt (x : List End) (i : Nat) (e : End) : List End := x.take i ++ [e] ++ x.drop i
theorem ins_perm (x : List End) (i : Nat) (e : End) : (insAt x i e).Perm (e :: x) := by
  unfold insAt
  rw [List.append_assoc]
  have := @List.perm_middle _ e (x.take i) (x.drop i)
  rw [List.take_append_drop] at this
  exact this
theorem HI.ins {many : Nat} {hs : Wb} {done : List (End × Nat)} (h : HI many hs done) {r i : Nat} {x : List End} {e : End} (hx : hs[r]? = some x) (hn : (e, r) ∉ done) : HI many (hs.set r (insAt x i e)) (done ++ [(e, r)]) := by
  have hr : r < hs.length := (List.getElem?_eq_some_iff.mp hx).1
  have hex : e ∉ x := fun m => hn ((h.mem r x e hx).mp m)
  have at_ : ∀ (r' : Nat) (y : List End), (hs.set r (insAt x i e))[r']? = some y → (r' = r ∧ y = insAt x i e) ∨ (r' ≠ r ∧ hs[r']? = some y) := fun r' y hy => by
    by_cases q : r = r'
    · subst q
      rw [List.getElem?_set_self hr] at hy
      exact .inl ⟨rfl, (Option.some.inj hy).symm⟩
    · rw [List.getElem?_set_ne q] at hy
      exact .inr ⟨fun z => q z.symm, hy⟩
  refine ⟨by simpa using h.len, fun r' y hy => ?_, fun r' y hy => ?_, fun r' y e' hy => ?_⟩
  · rcases at_ r' y hy with ⟨rfl, rfl⟩ | ⟨q, hy⟩
    · exact (ins_perm x i e).nodup_iff.mpr (List.nodup_cons.mpr ⟨hex, h.nd r' x hx⟩)
    · exact h.nd r' y hy
  · rcases at_ r' y hy with ⟨rfl, rfl⟩ | ⟨q, hy⟩
    · rw [(ins_perm x i e).length_eq, List.length_cons, h.cnt r' x hx, List.countP_append]; simp
    · rw [h.cnt r' y hy, List.countP_append]
      have : ¬ r = r' := fun z => q z.symm
      simp [this]
  · rw [List.mem_append, List.mem_singleton, Prod.mk.injEq]
    rcases at_ r' y hy with ⟨rfl, rfl⟩ | ⟨q, hy⟩
    · rw [(ins_perm x i e).mem_iff, List.mem_cons, h.mem r' x e' hx]
      constructor
      · rintro (z | z)
        · exact .inr ⟨z, rfl⟩
        · exact .inl z
      · rintro (z | z)
        · exact .inr z
        · exact .inl z.1
    · rw [h.mem r' y e' hy]
      constructor
      · exact .inl
      · rintro (z | z)
        · exact z
        · exact absurd z.2 q
/-- the ends lead back -/
def Back (w : Wb) : Prop := ∀ r i s j, aT w r i = some (s, j) → aT w s j = some (r, i)
def Adj (w : Wb) (r s : Nat) : Prop := ∃ i j, aT w r i = some (s, j)
theorem aT_join {hs : Wb} {r i : Nat} : aT (joinW hs) r i = (aT hs r i).map fun e => posOf hs (partner e) := by
  unfold aT joinW
  rw [List.getElem?_map]
  cases h : hs[r]? with
  | none => rfl
  | some x => simp
section
variable {many : Nat} {hs : Wb} {ps : List End}
theorem HI.at_ {done : List (End × Nat)} (h : HI many hs done) {e : End} {r : Nat} (hr : r < many) (hd : (e, r) ∈ done) : ∃ i, aT hs r i = some e := by
  have hr' : r < hs.length := by rw [h.len]; exact hr
  have hx : hs[r]? = some hs[r] := List.getElem?_eq_getElem hr'
  have := (h.mem r _ e hx).mpr hd
  obtain ⟨i, hi⟩ := List.getElem?_of_mem this
  exact ⟨i, aT_some.mpr ⟨_, hx, hi⟩⟩
theorem HI.of_at {done : List (End × Nat)} (h : HI many hs done) {e : End} {r i : Nat} (ha : aT hs r i = some e) : (e, r) ∈ done ∧ r < many := by
  obtain ⟨x, hx, hi⟩ := aT_some.mp ha
  exact ⟨(h.mem r x e hx).mp (List.mem_of_getElem? hi), by rw [← h.len]; exact (List.getElem?_eq_some_iff.mp hx).1⟩
theorem side_iff {t t' s r : Nat} {p : End} : (((t', s), r) : End × Nat) ∈ sidesOf many t p ↔ t' = t ∧ ((p.2 = many ∧ s = 2 ∧ r = p.1) ∨ (p.2 ≠ many ∧ ((s = 0 ∧ r = p.1) ∨ (s = 1 ∧ r = p.2)))) := by
  unfold sidesOf
  by_cases h : p.2 = many
  · rw [if_pos h]
    simp only [List.mem_singleton, Prod.mk.injEq, h, true_and, ne_eq, not_true_eq_false, false_and, or_false, and_assoc]
  · rw [if_neg h]
    simp only [List.mem_cons, List.not_mem_nil, or_false, Prod.mk.injEq, h, false_and, false_or, ne_eq, not_false_eq_true, true_and, and_assoc]
    constructor
    · rintro (⟨a, b, c⟩ | ⟨a, b, c⟩)
      · exact ⟨a, .inl ⟨b, c⟩⟩
      · exact ⟨a, .inr ⟨b, c⟩⟩
    · rintro ⟨a, ⟨b, c⟩ | ⟨b, c⟩⟩
      · exact .inl ⟨a, b, c⟩
      · exact .inr ⟨a, b, c⟩
theorem done_uniq {e : End} {r r' k : Nat} (h : (e, r) ∈ doneTo many ps k) (h' : (e, r') ∈ doneTo many ps k) : r = r' := by
  obtain ⟨_, p, hp, m⟩ := mem_done.mp h
  obtain ⟨_, p', hp', m'⟩ := mem_done.mp h'
  rw [hp] at hp'; cases hp'
  obtain ⟨t, s⟩ := e
  obtain ⟨_, m⟩ := side_iff.mp m
  obtain ⟨_, m'⟩ := side_iff.mp m'
  omega
theorem done_part {e : End} {r k : Nat} (h : (e, r) ∈ doneTo many ps k) : ∃ r', (partner e, r') ∈ doneTo many ps k := by
  obtain ⟨hk, p, hp, m⟩ := mem_done.mp h
  obtain ⟨t, s⟩ := e
  obtain ⟨_, m⟩ := side_iff.mp m
  rcases m with ⟨m1, rfl, m3⟩ | ⟨m1, ⟨rfl, m3⟩ | ⟨rfl, m3⟩⟩
  · exact ⟨p.1, mem_done.mpr ⟨hk, p, hp, side_iff.mpr ⟨rfl, .inl ⟨m1, rfl, rfl⟩⟩⟩⟩
  · exact ⟨p.2, mem_done.mpr ⟨hk, p, hp, side_iff.mpr ⟨rfl, .inr ⟨m1, .inr ⟨rfl, rfl⟩⟩⟩⟩⟩
  · exact ⟨p.1, mem_done.mpr ⟨hk, p, hp, side_iff.mpr ⟨rfl, .inr ⟨m1, .inl ⟨rfl, rfl⟩⟩⟩⟩⟩
structure PsOk (many : Nat) (ps : List End) : Prop where
  one : ∀ (t : Nat) (p : End), ps[t]? = some p → p.1 < many
  other : ∀ (t : Nat) (p : End), ps[t]? = some p → p.2 ≤ many
  few : ps.length ≤ 100
  many : many ≤ 100
theorem done_lt {e : End} {r k : Nat} (P : PsOk many ps) (h : (e, r) ∈ doneTo many ps k) : r < many ∧ e.2 ≤ 2 := by
  obtain ⟨hk, p, hp, m⟩ := mem_done.mp h
  have h1 := P.one _ p hp
  have h2 := P.other _ p hp
  obtain ⟨t, s⟩ := e
  obtain ⟨_, m⟩ := side_iff.mp m
  show r < many ∧ s ≤ 2
  omega
theorem HI.join (P : PsOk many ps) (h : HI many hs (doneTo many ps ps.length)) : JoinOk hs := by
  refine ⟨fun r i r' i' e a b => ?_, fun r i e a => ?_, fun r i e a => ?_, by rw [h.len]; exact P.many, fun r x hx => ?_⟩
  · obtain ⟨m1, l1⟩ := h.of_at a
    obtain ⟨m2, l2⟩ := h.of_at b
    have := done_uniq m1 m2
    subst this
    refine ⟨rfl, ?_⟩
    obtain ⟨x, hx, hi⟩ := aT_some.mp a
    obtain ⟨x', hx', hi'⟩ := aT_some.mp b
    rw [hx] at hx'; cases hx'
    exact (List.getElem?_inj (List.getElem?_eq_some_iff.mp hi).1 (h.nd r x hx)).mp (by rw [hi, hi'])
  · exact (done_lt P (h.of_at a).1).2
  · obtain ⟨r', m⟩ := done_part (h.of_at a).1
    obtain ⟨j, hj⟩ := h.at_ (done_lt P m).1 m
    exact ⟨(r', j), hj⟩
  · rw [h.cnt r x hx]
    refine Nat.le_trans (List.countP_le_length) (Nat.le_trans (done_len _) ?_)
    have := P.few
    omega
theorem partner_partner {e : End} (h : e.2 ≤ 2) : partner (partner e) = e := by
  obtain ⟨t, s⟩ := e
  simp only at h
  rcases (show s = 0 ∨ s = 1 ∨ s = 2 by omega) with rfl | rfl | rfl <;> rfl
theorem HI.back (P : PsOk many ps) (h : HI many hs (doneTo many ps ps.length)) : Back (joinW hs) := by
  have J := h.join P
  intro r i s j a
  rw [aT_join] at a
  obtain ⟨e, he, e2⟩ := Option.map_eq_some_iff.mp a
  have hp := posOf_at (J.part r i e he)
  rw [e2] at hp
  rw [aT_join, hp]
  show some (posOf hs (partner (partner e))) = _
  rw [partner_partner (J.side r i e he), posOf_eq J.dist he]
end
end SW
namespace SW
open PySem L2

/-- the lists of half ties at L, L + 1, .., their list at L + many -/
structure Hw (S : Sto) (L many : Nat) (hs : Wb) : Prop where
  top : S[L + many]? = some (.lst ((List.range many).map fun i => .loc (L + i)))
  len : hs.length = many
  at_ : ∀ (r : Nat) (x : List End), hs[r]? = some x → S[L + r]? = some (.lst (x.map eD))
theorem Hw.hv {S : Sto} {L many : Nat} {hs : Wb} (H : Hw S L many hs) : Hv S (L + many) ((List.range many).map (L + ·)) hs := by
  refine ⟨by rw [H.top, List.map_map]; rfl, by simp [H.len], fun r l x a b => ?_⟩
  rw [List.getElem?_map] at a
  obtain ⟨i, h1, h2⟩ := Option.map_eq_some_iff.mp a
  have hr : r < many := by rw [← H.len]; exact (List.getElem?_eq_some_iff.mp b).1
  rw [List.getElem?_range hr] at h1
  cases h1
  rw [← h2]
  exact H.at_ r x b
theorem Hw.of {S S' : Sto} {L many : Nat} {hs : Wb} (H : Hw S L many hs) (k : ∀ n, L ≤ n → n < S.length → S'[n]? = S[n]?) : Hw S' L many hs :=
  ⟨(k _ (by omega) (sto_lt H.top)).trans H.top, H.len, fun r x a => (k _ (by omega) (sto_lt (H.at_ r x a))).trans (H.at_ r x a)⟩
theorem Hw.ins {S : Sto} {L many : Nat} {hs : Wb} (H : Hw S L many hs) {r : Nat} {x y : List End} (hx : hs[r]? = some x) : Hw (S.set (L + r) (.lst (y.map eD))) L many (hs.set r y) := by
  have hr : r < hs.length := (List.getElem?_eq_some_iff.mp hx).1
  have hl := H.len
  refine ⟨by rw [sto_ne (by omega)]; exact H.top, by simpa using hl, fun r' z hz => ?_⟩
  by_cases q : r = r'
  · subst q
    rw [List.getElem?_set_self hr] at hz
    cases hz
    exact sto_set (H.at_ r x hx)
  · rw [List.getElem?_set_ne q] at hz
    rw [sto_ne (by omega)]
    exact H.at_ r' z hz
theorem ins_map (x : List End) (v : Nat) (e : End) : (x.map eD).take v ++ [eD e] ++ (x.map eD).drop v = (insAt x v e).map eD := by simp [insAt, List.map_take, List.map_drop]
theorem wp_eqI {i j : Int} {S : Sto} {Q : D → Sto → Prop} : Wp (eqD (.int i) (.int j) S) Q ↔ Q (.bl (decide (i = j))) S := by
  have e : eqD (.int i) (.int j) S = some (.bl (decide (i = j)), S) := by
    have : PyData.eqv (.int i) (.int j) = decide (i = j) := by
      by_cases h : i = j
      · subst h; simp [PyData.eqv]
      · simp [PyData.eqv, h]
    show (some (D.bl (PyData.eqv (.int i) (.int j)), S)) = _
    rw [this]
  rw [e]; exact wp_some
def PC (S0 : Sto) (j : Nat) (acc : List D) (S : Sto) : Prop := acc = (List.range j).map (fun i => D.loc (S0.length + i)) ∧ S.length = S0.length + j ∧ (∀ n, n < S0.length → S[n]? = S0[n]?) ∧ ∀ i, i < j → S[S0.length + i]? = some (.lst [])
end SW
namespace SW
open PySem L2

def nD (n : Nat) : D := .int (n : Int)
/-! a list of numbers told by a function -/
def uD (many : Nat) (c : Nat → Nat) : MO := .lst ((List.range many).map fun r => nD (c r))
/-! how many half ties a room has -/
def cR (many : Nat) (ps : List End) (r : Nat) : Nat := (doneTo many ps ps.length).countP fun q => decide (q.2 = r)
/-- numbers below m, counted one by one, are no more than all -/
theorem sum_cnt {α : Type} (f : α → Nat) (l : List α) : ∀ m : Nat, (((List.range m).map fun r => l.countP fun q => decide (f q = r)).sum) = l.countP fun q => decide (f q < m)
  | 0 => by simp
  | m + 1 => by
    rw [List.range_succ, List.map_append, List.sum_append, sum_cnt f l m]
    simp only [List.map_cons, List.map_nil, List.sum_cons, List.sum_nil, Nat.add_zero]
    induction l with
    | nil => rfl
    | cons a l ih =>
      simp only [List.countP_cons]
      have : (if decide (f a < m + 1) = true then 1 else 0) = (if decide (f a < m) = true then 1 else 0) + (if decide (f a = m) = true then 1 else 0) := by
        by_cases h1 : f a < m
        · have h2 : ¬ f a = m := by omega
          have h3 : f a < m + 1 := by omega
          simp [h1, h2, h3]
        · by_cases h2 : f a = m
          · simp [h2]
          · have h3 : ¬ f a < m + 1 := by omega
            simp [h1, h2, h3]
      omega
end SW
namespace SW
open PySem L2

inductive Con (w : Wb) : Nat → Prop
  | zero : Con w 0
  | step {r s : Nat} : Con w r → Adj w r s → Con w s
/-- a web: its ends lead back, it hangs together -/
structure IsWeb (w : Wb) : Prop where
  back : Back w
  pos : 0 < w.length
  few : w.length ≤ 24
  doors : ∀ (r : Nat) (x : List End), w[r]? = some x → x.length ≤ 6
  con : ∀ r, r < w.length → Con w r
/-- ties so far: their store, their counts, a tree on the rooms below k -/
structure WB (S0 S : Sto) (b many most z k : Nat) (ps : List End) : Prop where
  us : S[S0.length + 1]? = some (uD many (cR many ps))
  pr : S[S0.length + 2]? = some (.lst (ps.map eD))
  one : ∀ (t : Nat) (p : End), ps[t]? = some p → p.1 < many
  other : ∀ (t : Nat) (p : End), ps[t]? = some p → p.2 ≤ many
  low : ∀ r, r < many → cR many ps r ≤ most
  bx : Bx S b z
  fr : Fr S0 S b
  len : S0.length + 3 ≤ S.length
  tree : ∀ r, 0 < r → r < k → ∃ (t : Nat) (p : End), ps[t]? = some p ∧ p.2 = r ∧ p.1 < r
def W1 (S0 : Sto) (b many most z : Nat) (i : Nat) (τ : Tau) (S : Sto) : Prop := ∃ (ps : List End) (o5 o6 o7 o8 o9 o10 o11 : Option D), τ = [some (.loc b), some (.int (many : Int)), some (.int (most : Int)), some (.loc (S0.length + 1)), some (.loc (S0.length + 2)), o5, o6, o7, o8, o9, o10, o11] ∧ WB S0 S b many most (z + i) (i + 1) ps ∧ ps.length = i ∧ ∀ r, i + 1 ≤ r → r < many → cR many ps r = 0
def W2 (S0 : Sto) (b many most z : Nat) (i : Nat) (τ : Tau) (S : Sto) : Prop := ∃ (ps : List End) (o5 o6 o7 o8 o9 o10 o11 : Option D), τ = [some (.loc b), some (.int (many : Int)), some (.int (most : Int)), some (.loc (S0.length + 1)), some (.loc (S0.length + 2)), o5, o6, o7, o8, o9, o10, o11] ∧ WB S0 S b many most (z + 2 * i) many ps ∧ ps.length ≤ 24 + i
theorem wq_allL {n : Nat} {ds : List D} {bs : List Bool} {S : Sto} {Q : D → Sto → Prop} (h : S[n]? = some (.lst ds)) (hb : blsOf ds = some bs) : Wp (allD [.loc n] S) Q ↔ Q (.bl (bs.all id)) S := by
  have : allD [.loc n] S = some (.bl (bs.all id), S) := by
    unfold allD
    simp only [lsOf, h, Option.bind_some, hb, Option.map_some]
  rw [this]; exact wp_some
end SW
namespace SW
open PySem L2

theorem wq_row {w : Wb} {x : List End} {r : Nat} {S : Sto} {Q : D → Sto → Prop} (h : w[r]? = some x) : Wp (sbD (wD w) (.int (r : Int)) S) Q ↔ Q (rD x) S := by
  unfold wD
  have : atI (w.map rD) (r : Int) = some (rD x) := atI_of (by rw [List.getElem?_map, h]; rfl)
  rw [wq_sbT, this]
  simp
theorem wq_door {x : List End} {e : End} {i : Nat} {S : Sto} {Q : D → Sto → Prop} (h : x[i]? = some e) : Wp (sbD (rD x) (.int (i : Int)) S) Q ↔ Q (eD e) S := by
  unfold rD
  have : atI (x.map eD) (i : Int) = some (eD e) := atI_of (by rw [List.getElem?_map, h]; rfl)
  rw [wq_sbT, this]
  simp
theorem wq_e0 {e : End} {S : Sto} {Q : D → Sto → Prop} : Wp (sbD (eD e) (.int 0) S) Q ↔ Q (.int e.1) S := by
  unfold eD
  have : atI [D.int (e.1 : Int), D.int (e.2 : Int)] 0 = some (.int e.1) := rfl
  rw [wq_sbT, this]; simp
theorem wq_e1 {e : End} {S : Sto} {Q : D → Sto → Prop} : Wp (sbD (eD e) (.int 1) S) Q ↔ Q (.int e.2) S := by
  unfold eD
  have : atI [D.int (e.1 : Int), D.int (e.2 : Int)] 1 = some (.int e.2) := rfl
  rw [wq_sbT, this]; simp
theorem len_w {w : Wb} {S : Sto} {Q : D → Sto → Prop} : Wp (lenD [wD w] S) Q ↔ Q (.int (w.length : Nat)) S := by
  unfold wD; rw [len_tup, List.length_map]
theorem len_row {x : List End} {S : Sto} {Q : D → Sto → Prop} : Wp (lenD [rD x] S) Q ↔ Q (.int (x.length : Nat)) S := by
  unfold rD; rw [len_tup, List.length_map]
/-! _law_ends -/
def leE (a b : End) : Prop := a.1 < b.1 ∨ (a.1 = b.1 ∧ a.2 ≤ b.2)
instance {a b : End} : Decidable (leE a b) := inferInstanceAs (Decidable (_ ∨ _))
theorem wq_leE {a b : End} {S : Sto} {Q : D → Sto → Prop} : Wp (leD (eD a) (eD b) S) Q ↔ Q (.bl (decide (leE a b))) S := by
  have h : lexLe [(a.1 : Int), (a.2 : Int)] [(b.1 : Int), (b.2 : Int)] = decide (leE a b) := by
    show (if decide ((a.1 : Int) = b.1) = true then (if decide ((a.2 : Int) = b.2) = true then decide (2 ≤ 2) else decide ((a.2 : Int) ≤ b.2)) else decide ((a.1 : Int) ≤ b.1)) = _
    simp only [decide_eq_true_eq]
    split
    · split
      · exact decide_eq_decide.mpr (by unfold leE; omega)
      · exact decide_eq_decide.mpr (by unfold leE; omega)
    · exact decide_eq_decide.mpr (by unfold leE; omega)
  have e : leD (eD a) (eD b) S = some (.bl (decide (leE a b)), S) := by
    rw [← h]; rfl
  rw [e]; exact wp_some
def tD (t : End × End) : D := .tup [eD t.1, eD t.2]
def rowL (w : Wb) (r : Nat) : Nat := ((w[r]?).map List.length).getD 0
theorem rowL_of {w : Wb} {r : Nat} {x : List End} (h : w[r]? = some x) : rowL w r = x.length := by unfold rowL; rw [h]; rfl
def tieAt (w : Wb) (r d : Nat) : Option (End × End) := (aT w r d).bind fun q => if leE (r, d) q then some ((r, d), q) else none
def endsRow (w : Wb) (r n : Nat) : List (End × End) := (List.range n).filterMap (tieAt w r)
/-- what _law_ends finds -/
def endsN (w : Wb) (m : Nat) : List (End × End) := (List.range m).flatMap fun r => endsRow w r (rowL w r)
theorem endsRow_succ (w : Wb) (r n : Nat) : endsRow w r (n + 1) = endsRow w r n ++ (tieAt w r n).toList := by
  unfold endsRow
  rw [List.range_succ, List.filterMap_append]
  congr 1
theorem endsN_succ (w : Wb) (m : Nat) : endsN w (m + 1) = endsN w m ++ endsRow w m (rowL w m) := by
  unfold endsN
  rw [List.range_succ, List.flatMap_append]
  simp
/-- the ties of the doors ahead of (r, d) -/
structure EsTo (w : Wb) (es : List (End × End)) (r d : Nat) : Prop where
  mem : ∀ p q : End, (p, q) ∈ es ↔ aT w p.1 p.2 = some q ∧ leE p q ∧ (p.1 < r ∨ (p.1 = r ∧ p.2 < d))
  nd : (es.map Prod.fst).Nodup
  few : es.length ≤ r * 6 + d
  is : es = endsN w r ++ endsRow w r d
theorem EsTo.yes {w : Wb} {es : List (End × End)} {r d : Nat} {q : End} (h : EsTo w es r d) (ha : aT w r d = some q) (hl : leE (r, d) q) : EsTo w (es ++ [((r, d), q)]) r (d + 1) := by
  refine ⟨fun p q' => ?_, ?_, by have := h.few; simp; omega, by rw [endsRow_succ, ← List.append_assoc, ← h.is]; simp [tieAt, ha, hl]⟩
  · rw [List.mem_append, h.mem, List.mem_singleton, Prod.mk.injEq]
    constructor
    · rintro (⟨a, b, c⟩ | ⟨rfl, rfl⟩)
      · exact ⟨a, b, by omega⟩
      · exact ⟨ha, hl, .inr ⟨rfl, by simp⟩⟩
    · rintro ⟨a, b, c⟩
      by_cases z : p = (r, d)
      · subst z
        rw [ha] at a; cases a
        exact .inr ⟨rfl, rfl⟩
      · refine .inl ⟨a, b, ?_⟩
        rcases c with c | ⟨c1, c2⟩
        · exact .inl c
        · refine .inr ⟨c1, ?_⟩
          have : p.2 ≠ d := fun y => z (Prod.ext c1 y)
          omega
  · rw [List.map_append, List.nodup_append]
    refine ⟨h.nd, by simp, fun a ha' b hb' e => ?_⟩
    simp at hb'
    subst hb'; subst e
    obtain ⟨⟨p, q'⟩, hm, he⟩ := List.mem_map.mp ha'
    simp only at he
    subst he
    have := ((h.mem _ _).mp hm).2.2
    simp at this
theorem EsTo.no {w : Wb} {es : List (End × End)} {r d : Nat} {q : End} (h : EsTo w es r d) (ha : aT w r d = some q) (hl : ¬ leE (r, d) q) : EsTo w es r (d + 1) := by
  refine ⟨fun p q' => ?_, h.nd, by have := h.few; omega, by rw [endsRow_succ, ← List.append_assoc, ← h.is]; simp [tieAt, ha, hl]⟩
  rw [h.mem]
  constructor
  · rintro ⟨a, b, c⟩
    exact ⟨a, b, by omega⟩
  · rintro ⟨a, b, c⟩
    by_cases z : p = (r, d)
    · subst z
      rw [ha] at a; cases a
      exact absurd b hl
    · refine ⟨a, b, ?_⟩
      rcases c with c | ⟨c1, c2⟩
      · exact .inl c
      · refine .inr ⟨c1, ?_⟩
        have : p.2 ≠ d := fun y => z (Prod.ext c1 y)
        omega
theorem EsTo.next {w : Wb} {es : List (End × End)} {r : Nat} {x : List End} (h : EsTo w es r x.length) (hx : w[r]? = some x) (hl : x.length ≤ 6) : EsTo w es (r + 1) 0 := by
  refine ⟨fun p q' => ?_, h.nd, by have := h.few; omega, by rw [endsN_succ, rowL_of hx, ← h.is]; simp [endsRow]⟩
  rw [h.mem]
  constructor
  · rintro ⟨a, b, c⟩
    exact ⟨a, b, by omega⟩
  · rintro ⟨a, b, c⟩
    refine ⟨a, b, ?_⟩
    by_cases z : p.1 = r
    · refine .inr ⟨z, ?_⟩
      rw [z] at a
      obtain ⟨y, hy, hi⟩ := aT_some.mp a
      rw [hx] at hy; cases hy
      exact (List.getElem?_eq_some_iff.mp hi).1
    · omega
structure EsOk (w : Wb) (es : List (End × End)) : Prop where
  mem : ∀ p q : End, (p, q) ∈ es ↔ aT w p.1 p.2 = some q ∧ leE p q
  nd : (es.map Prod.fst).Nodup
  few : es.length ≤ 144
  is : es = endsN w w.length
end SW
namespace SW
open PySem L2

/-! lists of numbers as the model's data -/
theorem can_ints (l : List Int) : PyData.canLayAll0 (l.map .int) = true := by
  induction l with
  | nil => rfl
  | cons a l ih => rw [List.map_cons]; simp only [PyData.canLayAll0, PyData.canLay0, ih, Bool.and_self]
theorem dep_ints (l : List Int) : PyData.depthAll (l.map .int) = 0 := by
  induction l with
  | nil => rfl
  | cons a l ih => rw [List.map_cons]; simp only [PyData.depthAll, PyData.depth, ih, Nat.max_self]
theorem shp_ints (l : List Int) : SeqAt.shaped (.list (l.map .int)) = true := by
  unfold SeqAt.shaped
  rw [Bool.and_eq_true]
  exact ⟨by simp only [PyData.canLay0, can_ints], by simp [PyData.depth, dep_ints]⟩
theorem pyDs_ints (g : Nat → Option PyData) (l : List Int) : pyDs g (l.map D.int) = some (l.map .int) := by
  induction l with
  | nil => rfl
  | cons a l ih =>
    rw [List.map_cons]
    simp only [pyDs, pyD, ih, Option.bind_some, Option.map_some]
    rfl
theorem pyOf_int {S : Sto} {i : Int} : pyOf S (.int i) = some (.int i) := rfl
theorem pyOf_ints {S : Sto} {n : Nat} {l : List Int} (h : S[n]? = some (.lst (l.map D.int))) : pyOf S (.loc n) = some (.list (l.map .int)) := by
  have e : pyD (pyL S 4) (.loc n) = some (.list (l.map .int)) := by
    show pyL S 4 n = _
    simp only [pyL, h, pyDs_ints, Option.map_some]
  unfold pyOf
  rw [e, Option.bind_some, if_pos (shp_ints l)]
theorem eqv_int (i j : Int) : PyData.eqv (.int i) (.int j) = decide (i = j) := by
  by_cases h : i = j
  · subst h; simp [PyData.eqv]
  · simp [PyData.eqv, h]
theorem eqvs_ints (l m : List Int) : PyData.eqvAll (l.map .int) (m.map .int) = decide (l = m) := by
  induction l generalizing m with
  | nil => cases m <;> rfl
  | cons a l ih =>
    cases m with
    | nil => rfl
    | cons b m =>
      rw [List.map_cons, List.map_cons]
      simp only [PyData.eqvAll, eqv_int, ih]
      by_cases h1 : a = b <;> by_cases h2 : l = m <;> simp [h1, h2]
theorem wq_eqL {S : Sto} {m n : Nat} {k l : List Int} {Q : D → Sto → Prop} (h1 : S[m]? = some (.lst (k.map D.int))) (h2 : S[n]? = some (.lst (l.map D.int))) : Wp (eqD (.loc m) (.loc n) S) Q ↔ Q (.bl (decide (k = l))) S := by
  have e : eqD (.loc m) (.loc n) S = some (.bl (decide (k = l)), S) := by
    unfold eqD
    rw [pyOf_ints h1, pyOf_ints h2]
    simp only [Option.bind_some, Option.map_some, PyData.eqv, eqvs_ints]
  rw [e]; exact wp_some
theorem nD_ints (xs : List Nat) : xs.map nD = (xs.map fun (n : Nat) => (n : Int)).map D.int := by rw [List.map_map]; rfl
theorem any_nat (e : Nat) (xs : List Nat) : (((xs.map fun (n : Nat) => (n : Int)).map PyData.int).any fun z => PyData.eqv z (.int (e : Int))) = decide (e ∈ xs) := by
  induction xs with
  | nil => rfl
  | cons a l ih =>
    rw [List.map_cons, List.map_cons, List.any_cons, ih, eqv_int]
    by_cases h1 : a = e
    · subst h1; simp
    · have h2 : ¬ (a : Int) = (e : Int) := by omega
      have h3 : ¬ e = a := fun z => h1 z.symm
      simp [h2, h3]
theorem wq_notIn {S : Sto} {n e : Nat} {xs : List Nat} {Q : D → Sto → Prop} (h : S[n]? = some (.lst (xs.map nD))) : Wp (notInD (.int (e : Int)) (.loc n) S) Q ↔ Q (.bl (!decide (e ∈ xs))) S := by
  rw [nD_ints] at h
  have e : notInD (.int (e : Int)) (.loc n) S = some (.bl (!decide (e ∈ xs)), S) := by
    unfold notInD inSq
    simp only [pyOf_int, pyOf_ints h, Option.bind_some, any_nat, Option.orElse]
  rw [e]; exact wp_some
/-! numbers below n, each once -/
theorem nodup_le {n : Nat} {xs : List Nat} (h : xs.Nodup) (hx : ∀ x ∈ xs, x < n) : xs.length ≤ n := by
  have e := sum_cnt (fun x : Nat => x) xs n
  have e2 : (xs.countP fun q => decide (q < n)) = xs.length := List.countP_eq_length.mpr fun a ha => by simpa using hx a ha
  rw [e2] at e
  rw [← e]
  have all : ∀ m, ((List.range m).map fun r => xs.countP fun q => decide (q = r)).sum ≤ m := by
    intro m
    induction m with
    | zero => simp
    | succ m ih =>
      rw [List.range_succ, List.map_append, List.sum_append]
      have h1 : (xs.countP fun q => decide (q = m)) ≤ 1 := by
        have := List.nodup_iff_count.mp h m
        have e3 : xs.count m = xs.countP fun q => decide (q = m) := by
          unfold List.count
          congr 1
        omega
      simp only [List.map_cons, List.map_nil, List.sum_cons, List.sum_nil]
      omega
  exact all n
theorem nodup_full {n : Nat} {xs : List Nat} (h : xs.Nodup) (hx : ∀ x ∈ xs, x < n) (hl : xs.length = n) {r : Nat} (hr : r < n) : r ∈ xs := by
  by_cases m : r ∈ xs
  · exact m
  · exfalso
    have := nodup_le (n := n) (xs := r :: xs) (List.nodup_cons.mpr ⟨m, h⟩) fun x hm => by
      rcases List.mem_cons.mp hm with rfl | hm
      · exact hr
      · exact hx x hm
    simp at this
    omega
/-! _law_reached -/
inductive Rch (w : Wb) (a : Nat) : Nat → Prop
  | refl : Rch w a a
  | step {r s : Nat} : Rch w a r → Adj w r s → Rch w a s
theorem Rch.con {w : Wb} {r : Nat} (h : Rch w 0 r) : Con w r := by
  induction h with
  | refl => exact .zero
  | step _ a ih => exact .step ih a
theorem Con.rch {w : Wb} {r : Nat} (h : Con w r) : Rch w 0 r := by
  induction h with
  | zero => exact .refl
  | step _ a ih => exact .step ih a
/-- every door leads to a room -/
def Closed (w : Wb) : Prop := ∀ r i s j, aT w r i = some (s, j) → s < w.length
theorem Back.closed {w : Wb} (h : Back w) : Closed w := fun r i s j a => by
  obtain ⟨x, hx, _⟩ := aT_some.mp (h r i s j a)
  exact (List.getElem?_eq_some_iff.mp hx).1
structure RcOk (w : Wb) (a at_ : Nat) (xs : List Nat) : Prop where
  nd : xs.Nodup
  lt : ∀ x ∈ xs, x < w.length
  rch : ∀ x ∈ xs, Rch w a x
  one : a ∈ xs
  done : ∀ (i x s : Nat), i < at_ → xs[i]? = some x → Adj w x s → s ∈ xs
end SW
namespace SW
open PySem L2

theorem wp_rgL {f : EvE} {τ : Tau} {S : Sto} {Q : D → Sto → Prop} : Wp (rgL (r1R f) τ S) Q ↔ Wp (f τ S) fun d S1 => ∃ j, d = .int j ∧ rgOk 0 j = true ∧ Q (.loc S1.length) (S1 ++ [.lst (rng 0 (j - 0).toNat)]) := by
  unfold rgL r1R
  rw [wp_bind, wp_bind]
  constructor
  · rintro ⟨d, S1, e, q⟩
    refine ⟨d, S1, e, ?_⟩
    cases d with
    | int j =>
      simp only [wp_some, wp_ite, wp_none, newD] at q
      split at q
      · rename_i hb; exact ⟨j, rfl, hb, q⟩
      · exact q.elim
    | _ => exact (wp_none.mp q).elim
  · rintro ⟨d, S1, e, j, rfl, hb, q⟩
    refine ⟨_, S1, e, ?_⟩
    simp only [wp_some, hb, if_true, newD]
    exact q
structure TurnOk (many : Nat) (own : Bool) (L : List Nat) : Prop where
  len : L.length = many
  lt : ∀ (k x : Nat), L[k]? = some x → x < many
  inj : ∀ k k' x : Nat, L[k]? = some x → L[k']? = some x → k = k'
  surj : ∀ x : Nat, x < many → ∃ k : Nat, L[k]? = some x
  own : own = true → ∀ k x : Nat, L[k]? = some x → L[x]? = some k
structure PermOk (i : Nat) (xs : List Nat) : Prop where
  nd : xs.Nodup
  lt : ∀ x ∈ xs, x < i
  len : xs.length = i
theorem PermOk.ins {i v : Nat} {xs : List Nat} (h : PermOk i xs) : PermOk (i + 1) (xs.take v ++ [i] ++ xs.drop v) := by
  have p : (xs.take v ++ [i] ++ xs.drop v).Perm (i :: xs) := by
    rw [List.append_assoc]
    have := @List.perm_middle _ i (xs.take v) (xs.drop v)
    rw [List.take_append_drop] at this
    exact this
  refine ⟨p.nodup_iff.mpr (List.nodup_cons.mpr ⟨fun m => by have := h.lt _ m; omega, h.nd⟩), fun x hx => ?_, by rw [p.length_eq, List.length_cons, h.len]⟩
  rcases List.mem_cons.mp (p.mem_iff.mp hx) with rfl | m
  · omega
  · have := h.lt _ m; omega
theorem PermOk.inj {i : Nat} {xs : List Nat} (h : PermOk i xs) {k k' x : Nat} (a : xs[k]? = some x) (b : xs[k']? = some x) : k = k' :=
  (List.getElem?_inj (List.getElem?_eq_some_iff.mp a).1 h.nd).mp (by rw [a, b])
theorem PermOk.surj {i : Nat} {xs : List Nat} (h : PermOk i xs) {x : Nat} (hx : x < i) : ∃ k : Nat, xs[k]? = some x :=
  List.getElem?_of_mem (nodup_full h.nd h.lt h.len hx)
theorem PermOk.turn {many : Nat} {xs : List Nat} (h : PermOk many xs) : TurnOk many false xs :=
  ⟨h.len, fun k x a => h.lt x (List.mem_of_getElem? a), fun k k' x a b => h.inj a b, fun x hx => h.surj hx, fun e => (nomatch e)⟩
/-- the places of the order are changed in pairs, i pairs so far -/
def flip (i p : Nat) : Nat := if p < 2 * i then (if p % 2 = 0 then p + 1 else p - 1) else p
def Flipped (many : Nat) (xs : List Nat) (i : Nat) (L : List Nat) : Prop := L.length = many ∧ ∀ p a : Nat, xs[p]? = some a → L[a]? = xs[flip i p]?
theorem Flipped.zero {many : Nat} {xs : List Nat} (h : PermOk many xs) : Flipped many xs 0 (List.range many) := by
  refine ⟨by simp, fun p a ha => ?_⟩
  have : flip 0 p = p := by unfold flip; rw [if_neg (by omega)]
  rw [this, ha, List.getElem?_range (h.lt a (List.mem_of_getElem? ha))]
theorem Flipped.succ {many i a b : Nat} {xs L : List Nat} (h : PermOk many xs) (f : Flipped many xs i L) (ha : xs[2 * i]? = some a) (hb : xs[2 * i + 1]? = some b) : Flipped many xs (i + 1) ((L.set a b).set b a) := by
  have hab : a ≠ b := fun e => by subst e; have := h.inj ha hb; omega
  have la := h.lt a (List.mem_of_getElem? ha)
  have lb := h.lt b (List.mem_of_getElem? hb)
  have hl := f.1
  refine ⟨by simpa using hl, fun p c hc => ?_⟩
  by_cases h1 : c = b
  · subst h1
    have := h.inj hc hb
    subst this
    rw [List.getElem?_set_self (by simp; omega)]
    have : flip (i + 1) (2 * i + 1) = 2 * i := by unfold flip; rw [if_pos (by omega), if_neg (by omega)]; omega
    rw [this, ha]
  · rw [List.getElem?_set_ne (fun z => h1 z.symm)]
    by_cases h2 : c = a
    · subst h2
      have := h.inj hc ha
      subst this
      rw [List.getElem?_set_self (by omega)]
      have : flip (i + 1) (2 * i) = 2 * i + 1 := by unfold flip; rw [if_pos (by omega), if_pos (by omega)]
      rw [this, hb]
    · rw [List.getElem?_set_ne (fun z => h2 z.symm), f.2 p c hc]
      have n1 : p ≠ 2 * i := fun e => by subst e; rw [ha] at hc; cases hc; exact h2 rfl
      have n2 : p ≠ 2 * i + 1 := fun e => by subst e; rw [hb] at hc; cases hc; exact h1 rfl
      congr 1
      unfold flip
      by_cases h3 : p < 2 * i
      · rw [if_pos h3, if_pos (show p < 2 * (i + 1) by omega)]
      · rw [if_neg h3, if_neg (show ¬ p < 2 * (i + 1) by omega)]
theorem flip_flip {many p : Nat} (h : p < many) : flip (many / 2) (flip (many / 2) p) = p ∧ flip (many / 2) p < many := by
  unfold flip
  by_cases h1 : p < 2 * (many / 2)
  · rw [if_pos h1]
    by_cases h2 : p % 2 = 0
    · rw [if_pos h2, if_pos (by omega), if_neg (by omega)]; omega
    · rw [if_neg h2, if_pos (by omega), if_pos (by omega)]; omega
  · rw [if_neg h1, if_neg h1]; omega
theorem Flipped.turn {many : Nat} {xs L : List Nat} (h : PermOk many xs) (f : Flipped many xs (many / 2) L) : TurnOk many true L := by
  have hl := f.1
  have hxl := h.len
  have inv : ∀ k x : Nat, L[k]? = some x → L[x]? = some k ∧ x < many := fun k x hk => by
    have hkm : k < many := by rw [← hl]; exact (List.getElem?_eq_some_iff.mp hk).1
    obtain ⟨p, hp⟩ := h.surj hkm
    have hpm : p < many := by rw [← h.len]; exact (List.getElem?_eq_some_iff.mp hp).1
    obtain ⟨f1, f2⟩ := flip_flip hpm
    have e1 := f.2 p k hp
    rw [hk] at e1
    have e2 := f.2 _ x e1.symm
    rw [f1, hp] at e2
    exact ⟨e2, h.lt x (List.mem_of_getElem? e1.symm)⟩
  refine ⟨hl, fun k x a => (inv k x a).2, fun k k' x a b => ?_, fun x hx => ?_, fun _ k x a => (inv k x a).1⟩
  · have h1 := (inv k x a).1
    have h2 := (inv k' x b).1
    rw [h1] at h2
    exact Option.some.inj h2
  · have hk : L[x]? = some L[x] := List.getElem?_eq_getElem (by omega)
    exact ⟨_, (inv x _ hk).1⟩
def T1 (S0 : Sto) (b many : Nat) (own : Bool) (z : Nat) (i : Nat) (τ : Tau) (S : Sto) : Prop := ∃ (xs : List Nat) (o4 o5 o6 o7 : Option D), τ = [some (.loc b), some (nD many), some (.bl own), some (.loc S0.length), o4, o5, o6, o7] ∧ PermOk i xs ∧ S[S0.length]? = some (.lst (xs.map nD)) ∧ Bx S b (z + i) ∧ S.length = S0.length + 1 ∧ Fr S0 S b
def T2 (S0 : Sto) (b many : Nat) (own : Bool) (z : Nat) (xs : List Nat) (i : Nat) (τ : Tau) (S : Sto) : Prop := ∃ (L : List Nat) (o4 o6 o7 : Option D), τ = [some (.loc b), some (nD many), some (.bl own), some (.loc S0.length), o4, some (.loc (S0.length + 1)), o6, o7] ∧ Flipped many xs i L ∧ S[S0.length]? = some (.lst (xs.map nD)) ∧ S[S0.length + 1]? = some (.lst (L.map nD)) ∧ Bx S b (z + many) ∧ S.length = S0.length + 2 ∧ Fr S0 S b
end SW
namespace SW
open PySem L2

/-! _law_sheeted: the plain side -/
theorem split_n {a b k l n : Nat} (ha : a < n) (hb : b < n) (h : a + k * n = b + l * n) : a = b ∧ k = l := by
  have h1 : (a + k * n) % n = a := by rw [Nat.add_mul_mod_self_right, Nat.mod_eq_of_lt ha]
  have h2 : (b + l * n) % n = b := by rw [Nat.add_mul_mod_self_right, Nat.mod_eq_of_lt hb]
  have h3 : a = b := by rw [← h1, ← h2, h]
  subst h3
  have h4 : k * n = l * n := by omega
  exact ⟨rfl, Nat.eq_of_mul_eq_mul_right (by omega) h4⟩
/-- sheets of a web: its ties, a turn for each -/
structure Sheets (w : Wb) (es : List (End × End)) (σ : List (List Nat)) (many : Nat) : Prop where
  back : Back w
  eo : EsOk w es
  len : σ.length = es.length
  turn : ∀ (t : Nat) (one other : End) (L : List Nat), es[t]? = some (one, other) → σ[t]? = some L → TurnOk many (decide (one = other)) L
def Rt (w : Wb) (es : List (End × End)) (σ : List (List Nat)) (x d : Nat) (e : End) : Prop := ∃ (t : Nat) (one other : End) (k s : Nat) (L : List Nat), es[t]? = some (one, other) ∧ σ[t]? = some L ∧ L[k]? = some s ∧
  ((x = one.1 + k * w.length ∧ d = one.2 ∧ e = (other.1 + s * w.length, other.2)) ∨ (x = other.1 + s * w.length ∧ d = other.2 ∧ e = (one.1 + k * w.length, one.2)))
section
variable {w : Wb} {es : List (End × End)} {σ : List (List Nat)} {many : Nat}
theorem Rt.swap {x d y j : Nat} (h : Rt w es σ x d (y, j)) : Rt w es σ y j (x, d) := by
  obtain ⟨t, one, other, k, s, L, h1, h2, h3, ⟨rfl, rfl, e⟩ | ⟨rfl, rfl, e⟩⟩ := h
  · cases e
    exact ⟨t, one, other, k, s, L, h1, h2, h3, .inr ⟨rfl, rfl, rfl⟩⟩
  · cases e
    exact ⟨t, one, other, k, s, L, h1, h2, h3, .inl ⟨rfl, rfl, rfl⟩⟩
theorem aT_lt {r i : Nat} {e : End} (h : aT w r i = some e) : r < w.length := by
  obtain ⟨x, hx, _⟩ := aT_some.mp h
  exact (List.getElem?_eq_some_iff.mp hx).1
theorem Sheets.at_ (H : Sheets w es σ many) {t : Nat} {one other : End} (h : es[t]? = some (one, other)) : aT w one.1 one.2 = some other ∧ aT w other.1 other.2 = some one ∧ leE one other ∧ one.1 < w.length ∧ other.1 < w.length := by
  obtain ⟨a, b⟩ := (H.eo.mem one other).mp (List.mem_of_getElem? h)
  have c := H.back _ _ other.1 other.2 a
  exact ⟨a, c, b, aT_lt a, aT_lt c⟩
theorem Sheets.uniq (H : Sheets w es σ many) {t t' : Nat} {one other other' : End} (h : es[t]? = some (one, other)) (h' : es[t']? = some (one, other')) : t = t' := by
  have a : (es.map Prod.fst)[t]? = some one := by rw [List.getElem?_map, h]; rfl
  have b : (es.map Prod.fst)[t']? = some one := by rw [List.getElem?_map, h']; rfl
  exact (List.getElem?_inj (List.getElem?_eq_some_iff.mp a).1 H.eo.nd).mp (by rw [a, b])
theorem leE_anti {a b : End} (h : leE a b) (h' : leE b a) : a = b := by
  unfold leE at h h'
  exact Prod.ext (by omega) (by omega)
theorem leE_total (a b : End) : leE a b ∨ leE b a := by
  unfold leE; omega
theorem Rt.fun_ (H : Sheets w es σ many) {x d : Nat} {e e' : End} (h : Rt w es σ x d e) (h' : Rt w es σ x d e') : e = e' := by
  obtain ⟨t, one, other, k, s, L, h1, h2, h3, c⟩ := h
  obtain ⟨t', one', other', k', s', L', h1', h2', h3', c'⟩ := h'
  obtain ⟨a1, a2, a3, a4, a5⟩ := H.at_ h1
  obtain ⟨b1, b2, b3, b4, b5⟩ := H.at_ h1'
  rcases c with ⟨x1, d1, e1⟩ | ⟨x1, d1, e1⟩ <;> rcases c' with ⟨x2, d2, e2⟩ | ⟨x2, d2, e2⟩
  · obtain ⟨y1, y2⟩ := split_n a4 b4 (x1.symm.trans x2)
    have : one = one' := Prod.ext y1 (d1.symm.trans d2)
    subst this
    have := H.uniq h1 h1'
    subst this
    rw [h1] at h1'; cases h1'
    rw [h2] at h2'; cases h2'
    subst y2
    rw [h3] at h3'; cases h3'
    rw [e1, e2]
  · obtain ⟨y1, y2⟩ := split_n a4 b5 (x1.symm.trans x2)
    have : one = other' := Prod.ext y1 (d1.symm.trans d2)
    subst this
    rw [a1] at b2; cases b2
    have := leE_anti a3 b3
    subst this
    have := H.uniq h1 h1'
    subst this
    rw [h2] at h2'; cases h2'
    have ow := (H.turn t one one L h1 h2).own (by simp)
    have := ow k' s' h3'
    subst y2
    rw [h3] at this; cases this
    rw [e1, e2]
  · obtain ⟨y1, y2⟩ := split_n a5 b4 (x1.symm.trans x2)
    have : other = one' := Prod.ext y1 (d1.symm.trans d2)
    subst this
    rw [b1] at a2; cases a2
    have := leE_anti a3 b3
    subst this
    have := H.uniq h1 h1'
    subst this
    rw [h2] at h2'; cases h2'
    have ow := (H.turn t one one L h1 h2).own (by simp)
    have := ow k s h3
    subst y2
    rw [h3'] at this; cases this
    rw [e1, e2]
  · obtain ⟨y1, y2⟩ := split_n a5 b5 (x1.symm.trans x2)
    have : other = other' := Prod.ext y1 (d1.symm.trans d2)
    subst this
    rw [a2] at b2; cases b2
    have := H.uniq h1 h1'
    subst this
    rw [h2] at h2'; cases h2'
    subst y2
    have := (H.turn t one other L h1 h2).inj k k' s h3 h3'
    subst this
    rw [e1, e2]
/-- rows being filled -/
abbrev Mat := Nat → List (Option End)
def putM (M : Mat) (x d : Nat) (e : End) : Mat := fun y => if y = x then (M x).set d (some e) else M y
def Set_ (M : Mat) (x d : Nat) : Prop := ∃ e, (M x)[d]? = some (some e)
structure MI (w : Wb) (es : List (End × End)) (σ : List (List Nat)) (many t k : Nat) (M : Mat) : Prop where
  len : ∀ x, x < many * w.length → (M x).length = rowL w (x % w.length)
  ok : ∀ (x d : Nat) (e : End), (M x)[d]? = some (some e) → Rt w es σ x d e
  done : ∀ (t' k' s : Nat) (one other : End) (L : List Nat), (t' < t ∨ (t' = t ∧ k' < k)) → es[t']? = some (one, other) → σ[t']? = some L → L[k']? = some s → Set_ M (one.1 + k' * w.length) one.2 ∧ Set_ M (other.1 + s * w.length) other.2
theorem put_len {M : Mat} {x d y : Nat} {e : End} : (putM M x d e y).length = (M y).length := by
  unfold putM
  split
  · rename_i h; subst h; simp
  · rfl
theorem put_get {M : Mat} {x d y d' : Nat} {e e' : End} (h : (putM M x d e y)[d']? = some (some e')) : (y = x ∧ d' = d ∧ e' = e) ∨ (M y)[d']? = some (some e') := by
  unfold putM at h
  split at h
  · rename_i hy; subst hy
    by_cases z : d = d'
    · subst z
      have hl : d < (M y).length := by simpa using (List.getElem?_eq_some_iff.mp h).1
      rw [List.getElem?_set_self hl] at h
      cases h
      exact .inl ⟨rfl, rfl, rfl⟩
    · rw [List.getElem?_set_ne z] at h; exact .inr h
  · exact .inr h
theorem put_keep {M : Mat} {x d y d' : Nat} {e : End} (h : Set_ M y d') : Set_ (putM M x d e) y d' := by
  obtain ⟨e', h⟩ := h
  unfold Set_ putM
  split
  · rename_i hy; subst hy
    by_cases z : d = d'
    · subst z
      exact ⟨e, List.getElem?_set_self (List.getElem?_eq_some_iff.mp h).1⟩
    · exact ⟨e', by rw [List.getElem?_set_ne z]; exact h⟩
  · exact ⟨e', h⟩
theorem put_new {M : Mat} {x d : Nat} {e : End} (h : d < (M x).length) : Set_ (putM M x d e) x d := by
  unfold Set_ putM
  rw [if_pos rfl]
  exact ⟨e, List.getElem?_set_self h⟩
theorem rowL_at {r i : Nat} {e : End} (h : aT w r i = some e) : i < rowL w r := by
  obtain ⟨x, hx, hi⟩ := aT_some.mp h
  rw [rowL_of hx]
  exact (List.getElem?_eq_some_iff.mp hi).1
theorem mod_n {a k n : Nat} (h : a < n) : (a + k * n) % n = a := by rw [Nat.add_mul_mod_self_right, Nat.mod_eq_of_lt h]
theorem lt_mn {a k n many : Nat} (h : a < n) (hk : k < many) : a + k * n < many * n := by
  have : (k + 1) * n ≤ many * n := Nat.mul_le_mul_right n hk
  rw [Nat.succ_mul] at this
  omega
theorem MI.step {t k s : Nat} {M : Mat} {one other : End} {L : List Nat} (H : Sheets w es σ many) (I : MI w es σ many t k M) (h1 : es[t]? = some (one, other)) (h2 : σ[t]? = some L) (h3 : L[k]? = some s) (hk : k < many) :
    one.2 < (M (one.1 + k * w.length)).length ∧ other.2 < (putM M (one.1 + k * w.length) one.2 (other.1 + s * w.length, other.2) (other.1 + s * w.length)).length ∧ MI w es σ many t (k + 1) (putM (putM M (one.1 + k * w.length) one.2 (other.1 + s * w.length, other.2)) (other.1 + s * w.length) other.2 (one.1 + k * w.length, one.2)) := by
  obtain ⟨a1, a2, a3, a4, a5⟩ := H.at_ h1
  have hs := (H.turn t one other L h1 h2).lt k s h3
  have l1 : one.2 < (M (one.1 + k * w.length)).length := by rw [I.len _ (lt_mn a4 hk), mod_n a4]; exact rowL_at a1
  have l2 : other.2 < (putM M (one.1 + k * w.length) one.2 (other.1 + s * w.length, other.2) (other.1 + s * w.length)).length := by rw [put_len, I.len _ (lt_mn a5 hs), mod_n a5]; exact rowL_at a2
  refine ⟨l1, l2, fun x hx => by rw [put_len, put_len]; exact I.len x hx, fun x d e he => ?_, fun t' k' s' one' other' L' ht e1 e2 e3 => ?_⟩
  · rcases put_get he with ⟨rfl, rfl, rfl⟩ | he
    · exact ⟨t, one, other, k, s, L, h1, h2, h3, .inr ⟨rfl, rfl, rfl⟩⟩
    · rcases put_get he with ⟨rfl, rfl, rfl⟩ | he
      · exact ⟨t, one, other, k, s, L, h1, h2, h3, .inl ⟨rfl, rfl, rfl⟩⟩
      · exact I.ok x d e he
  · by_cases z : t' = t ∧ k' = k
    · obtain ⟨rfl, rfl⟩ := z
      rw [h1] at e1; cases e1
      rw [h2] at e2; cases e2
      rw [h3] at e3; cases e3
      exact ⟨put_keep (put_new l1), put_new l2⟩
    · obtain ⟨d1, d2⟩ := I.done t' k' s' one' other' L' (by omega) e1 e2 e3
      exact ⟨put_keep (put_keep d1), put_keep (put_keep d2)⟩
theorem MI.next {t : Nat} {M : Mat} (H : Sheets w es σ many) (I : MI w es σ many t many M) : MI w es σ many (t + 1) 0 M := by
  refine ⟨I.len, I.ok, fun t' k' s one other L ht e1 e2 e3 => ?_⟩
  refine I.done t' k' s one other L ?_ e1 e2 e3
  by_cases z : t' = t
  · have := (H.turn t' one other L e1 e2).len
    have := (List.getElem?_eq_some_iff.mp e3).1
    omega
  · omega
/-- the rows when all is filled -/
def rowsM (M : Mat) (N : Nat) : Wb := (List.range N).map fun x => (M x).filterMap id
theorem MI.full {M : Mat} (H : Sheets w es σ many) (I : MI w es σ many es.length 0 M) {x d : Nat} (hx : x < many * w.length) (hd : d < (M x).length) : Set_ M x d := by
  have hn : 0 < w.length := by
    rcases Nat.eq_zero_or_pos w.length with z | z
    · rw [z] at hx; omega
    · exact z
  have hr : x % w.length < w.length := Nat.mod_lt _ hn
  have hk : x / w.length < many := Nat.div_lt_of_lt_mul (by rw [Nat.mul_comm]; exact hx)
  have hxe : x % w.length + x / w.length * w.length = x := by rw [Nat.mul_comm]; exact Nat.mod_add_div x w.length
  rw [I.len x hx] at hd
  have hrow : w[x % w.length]? = some w[x % w.length] := List.getElem?_eq_getElem hr
  generalize w[x % w.length] = row at hrow
  rw [rowL_of hrow] at hd
  have hq : row[d]? = some row[d] := List.getElem?_eq_getElem hd
  generalize row[d] = q at hq
  have ha : aT w (x % w.length) d = some q := aT_some.mpr ⟨row, hrow, hq⟩
  rcases leE_total (x % w.length, d) q with hle | hle
  · obtain ⟨t, ht⟩ := List.getElem?_of_mem ((H.eo.mem (x % w.length, d) q).mpr ⟨ha, hle⟩)
    have htl : t < es.length := (List.getElem?_eq_some_iff.mp ht).1
    have hL : σ[t]? = some (σ[t]'(by rw [H.len]; exact htl)) := List.getElem?_eq_getElem _
    generalize (σ[t]'(by rw [H.len]; exact htl)) = L at hL
    have T := H.turn t _ q L ht hL
    have hs : L[x / w.length]? = some (L[x / w.length]'(by rw [T.len]; exact hk)) := List.getElem?_eq_getElem _
    have := (I.done t (x / w.length) _ _ q L (.inl htl) ht hL hs).1
    simp only at this
    rw [hxe] at this
    exact this
  · have hb := H.back _ _ q.1 q.2 ha
    obtain ⟨t, ht⟩ := List.getElem?_of_mem ((H.eo.mem q (x % w.length, d)).mpr ⟨hb, hle⟩)
    have htl : t < es.length := (List.getElem?_eq_some_iff.mp ht).1
    have hL : σ[t]? = some (σ[t]'(by rw [H.len]; exact htl)) := List.getElem?_eq_getElem _
    generalize (σ[t]'(by rw [H.len]; exact htl)) = L at hL
    have T := H.turn t q _ L ht hL
    obtain ⟨k', hk'⟩ := T.surj (x / w.length) hk
    have := (I.done t k' _ q _ L (.inl htl) ht hL hk').2
    simp only at this
    rw [hxe] at this
    exact this
theorem all_some {α : Type} : ∀ l : List (Option α), (∀ d, d < l.length → ∃ e, l[d]? = some (some e)) → l = (l.filterMap id).map some
  | [], _ => rfl
  | a :: l, h => by
    obtain ⟨e, he⟩ := h 0 (by simp)
    simp at he
    subst he
    have := all_some l fun d hd => by
      obtain ⟨e, he⟩ := h (d + 1) (by simp; omega)
      exact ⟨e, by simpa using he⟩
    simp only [List.filterMap_cons, id, List.map_cons]
    exact congrArg _ this
theorem MI.row {M : Mat} (H : Sheets w es σ many) (I : MI w es σ many es.length 0 M) {x : Nat} (hx : x < many * w.length) : M x = ((M x).filterMap id).map some := all_some _ fun d hd => I.full H hx hd
theorem MI.aT_ {M : Mat} (H : Sheets w es σ many) (I : MI w es σ many es.length 0 M) {x d : Nat} {e : End} : aT (rowsM M (many * w.length)) x d = some e ↔ x < many * w.length ∧ (M x)[d]? = some (some e) := by
  unfold aT rowsM
  rw [List.getElem?_map]
  by_cases h : x < many * w.length
  · rw [List.getElem?_range h]
    simp only [Option.map_some, Option.bind_some, h, true_and]
    have := I.row H h
    generalize hr : (M x).filterMap id = r at this
    rw [this, List.getElem?_map]
    simp
  · rw [List.getElem?_eq_none_iff.mpr (by simpa using h)]
    simp [h]
theorem MI.back {M : Mat} (H : Sheets w es σ many) (I : MI w es σ many es.length 0 M) : Back (rowsM M (many * w.length)) := by
  intro x d y j a
  obtain ⟨hx, ha⟩ := (I.aT_ H).mp a
  have R := (I.ok x d _ ha).swap
  have hy : y < many * w.length ∧ j < (M y).length := by
    obtain ⟨t, one, other, k, s, L, h1, h2, h3, c⟩ := R
    obtain ⟨a1, a2, a3, a4, a5⟩ := H.at_ h1
    have hs := (H.turn t one other L h1 h2).lt k s h3
    have hk : k < many := by rw [← (H.turn t one other L h1 h2).len]; exact (List.getElem?_eq_some_iff.mp h3).1
    rcases c with ⟨rfl, rfl, _⟩ | ⟨rfl, rfl, _⟩
    · exact ⟨lt_mn a4 hk, by rw [I.len _ (lt_mn a4 hk), mod_n a4]; exact rowL_at a1⟩
    · exact ⟨lt_mn a5 hs, by rw [I.len _ (lt_mn a5 hs), mod_n a5]; exact rowL_at a2⟩
  obtain ⟨e', he'⟩ := I.full H hy.1 hy.2
  have := (I.ok y j e' he').fun_ H R
  subst this
  exact (I.aT_ H).mpr ⟨hy.1, he'⟩
end
end SW
namespace SW
open PySem L2

def oD : Option End → D
  | none => .non
  | some e => eD e
/-- the rows in the store: list x at B + 2x + 1, their list at B + 2N -/
structure Mk (S : Sto) (B N : Nat) (M : Mat) : Prop where
  top : S[B + 2 * N]? = some (.lst ((List.range N).map fun x => D.loc (B + 2 * x + 1)))
  at_ : ∀ x, x < N → S[B + 2 * x + 1]? = some (.lst ((M x).map oD))
theorem Mk.of {S S' : Sto} {B N : Nat} {M : Mat} (h : Mk S B N M) (k : ∀ n, B ≤ n → n ≤ B + 2 * N → S'[n]? = S[n]?) : Mk S' B N M :=
  ⟨(k _ (by omega) (by omega)).trans h.top, fun x hx => (k _ (by omega) (by omega)).trans (h.at_ x hx)⟩
theorem Mk.put {S : Sto} {B N x d : Nat} {M : Mat} {e : End} (h : Mk S B N M) (hx : x < N) : Mk (S.set (B + 2 * x + 1) (.lst (((M x).map oD).set d (eD e)))) B N (putM M x d e) := by
  refine ⟨by rw [sto_ne (by omega)]; exact h.top, fun y hy => ?_⟩
  unfold putM
  by_cases z : y = x
  · subst z
    rw [if_pos rfl, sto_set (h.at_ y hy), List.map_set]; rfl
  · rw [if_neg z, sto_ne (by omega)]; exact h.at_ y hy
theorem Mk.get {S : Sto} {B N x : Nat} {M : Mat} {Q : D → Sto → Prop} (h : Mk S B N M) (hx : x < N) : Wp (sbD (.loc (B + 2 * N)) (.int (x : Int)) S) Q ↔ Q (.loc (B + 2 * x + 1)) S := by
  have : atI ((List.range N).map fun x => D.loc (B + 2 * x + 1)) (x : Int) = some (.loc (B + 2 * x + 1)) := atI_of (by rw [List.getElem?_map, List.getElem?_range hx]; rfl)
  rw [wq_sbL h.top, this]
  simp
def M0 (w : Wb) : Mat := fun x => List.replicate (rowL w (x % w.length)) none
theorem MI.zero {w : Wb} {es : List (End × End)} {σ : List (List Nat)} {many : Nat} : MI w es σ many 0 0 (M0 w) := by
  refine ⟨fun x hx => by simp [M0], fun x d e h => ?_, fun t' k' s one other L h => by omega⟩
  unfold M0 at h
  rw [List.getElem?_replicate] at h
  split at h <;> cases h
end SW
namespace SW
open PySem L2

theorem wq_eqE {a b : End} {S : Sto} {Q : D → Sto → Prop} : Wp (eqD (eD a) (eD b) S) Q ↔ Q (.bl (decide (a = b))) S := by
  have e : eqD (eD a) (eD b) S = some (.bl (decide (a = b)), S) := by
    show some (D.bl (PyData.eqv (.tuple [.int a.1, .int a.2]) (.tuple [.int b.1, .int b.2])), S) = _
    congr 3
    simp only [PyData.eqv, PyData.eqvAll]
    by_cases h : a = b
    · subst h; simp
    · have : ¬ ((a.1 : Int) = (b.1 : Int) ∧ (a.2 : Int) = (b.2 : Int)) := fun ⟨x, y⟩ => h (Prod.ext (by omega) (by omega))
      simp [h]
      intro x y
      exact this ⟨by omega, by omega⟩
  rw [e]; exact wp_some
end SW
namespace SW
open PySem L2

end SW
namespace SW
open PySem L2

/-- the ends met on a way -/
def spots (w : Wb) : Nat → List Nat → Option (List End)
  | _, [] => some []
  | r, d :: ds => (aT w r d).bind fun e => (spots w e.1 ds).map (e :: ·)
def lastR (r : Nat) (es : List End) : Nat := match es.getLast? with | some e => e.1 | none => r
theorem spots_app {w : Wb} : ∀ (ds : List Nat) (r d : Nat) (es : List End) (e : End), spots w r ds = some es → aT w (lastR r es) d = some e → spots w r (ds ++ [d]) = some (es ++ [e])
  | [], r, d, es, e, h, ha => by
    simp only [spots, Option.some.injEq] at h
    subst h
    have : aT w r d = some e := ha
    simp [spots, this]
  | c :: ds, r, d, es, e, h, ha => by
    simp only [spots] at h
    obtain ⟨e1, h1, h2⟩ := Option.bind_eq_some_iff.mp h
    obtain ⟨es', h3, rfl⟩ := Option.map_eq_some_iff.mp h2
    have ha' : aT w (lastR e1.1 es') d = some e := by
      rw [← ha]
      congr 1
      unfold lastR
      cases es' with
      | nil => rfl
      | cons x l => rw [List.getLast?_cons_cons]; rw [List.getLast?_cons]; 
    have := spots_app ds e1.1 d es' e h3 ha'
    simp only [List.cons_append, spots, h1, Option.bind_some, this, Option.map_some]
theorem lastR_app {r : Nat} {es : List End} {e : End} : lastR r (es ++ [e]) = e.1 := by
  unfold lastR; simp
end SW
namespace SW
open PySem L2

/-- a way: a tuple, or a list of the store -/
def WayAt (S : Sto) (d : D) (ds : List Nat) : Prop := match d with
  | .tup l => l = ds.map nD
  | .loc n => S[n]? = some (.lst (ds.map nD))
  | _ => False
theorem WayAt.of {S S' : Sto} {d : D} {ds : List Nat} (h : WayAt S d ds) (k : ∀ n, n < S.length → S'[n]? = S[n]?) : WayAt S' d ds := by
  cases d with
  | tup l => exact h
  | loc n => exact (k n (sto_lt h)).trans h
  | _ => exact h.elim
theorem WayAt.src {S : Sto} {d : D} {ds : List Nat} (h : WayAt S d ds) : ∃ s, srcOf d S = some s ∧ s.len = ds.length ∧ (∀ S', WayAt S' d ds → ∀ i x, (ds.map nD)[i]? = some x → s.get S' i = some x) ∧ (∀ S', WayAt S' d ds → s.fin S' = true) := by
  cases d with
  | tup l =>
    have h : l = ds.map nD := h
    subst h
    exact ⟨_, src_tup, by simp [Src.fixed], fun S' _ i x hx => hx, fun _ _ => rfl⟩
  | loc n =>
    refine ⟨_, src_loc h, by simp [Src.live], fun S' h' i x hx => ?_, fun S' h' => ?_⟩
    · have h' : S'[n]? = some (.lst (ds.map nD)) := h'
      simp only [Src.live, lenAt, itemAt, h', if_true]; exact hx
    · have h' : S'[n]? = some (.lst (ds.map nD)) := h'
      simp [Src.live, lenAt, h']
  | _ => exact h.elim
theorem WayAt.len {S : Sto} {d : D} {ds : List Nat} {Q : D → Sto → Prop} (h : WayAt S d ds) : Wp (lenD [d] S) Q ↔ Q (.int (ds.length : Nat)) S := by
  cases d with
  | tup l =>
    have h : l = ds.map nD := h
    subst h
    rw [len_tup, List.length_map]
  | loc n => rw [len_loc h, List.length_map]
  | _ => exact h.elim
theorem WayAt.list {S : Sto} {d : D} {ds : List Nat} {Q : D → Sto → Prop} (h : WayAt S d ds) : Wp (listD [d] S) Q ↔ Q (.loc S.length) (S ++ [.lst (ds.map nD)]) := by
  cases d with
  | tup l =>
    have h : l = ds.map nD := h
    subst h
    rw [wq_listT]
  | loc n => rw [wq_listL h]
  | _ => exact h.elim
/-- the first k steps -/
theorem WayAt.take {S : Sto} {d : D} {ds : List Nat} {k : Nat} {Q : D → Sto → Prop} (h : WayAt S d ds) (q : ∀ (S' : Sto) (d' : D), WayAt S' d' (ds.take k) → S.length ≤ S'.length → (∀ n, n < S.length → S'[n]? = S[n]?) → Q d' S') : Wp (slD d none (some (k : Int)) S) Q := by
  cases d with
  | tup l =>
    have h : l = ds.map nD := h
    subst h
    rw [wq_slT, cut_take]
    exact q S _ (by rw [← List.map_take]; rfl) (Nat.le_refl _) fun _ _ => rfl
  | loc n =>
    rw [wq_slL h, cut_take, ← List.map_take]
    exact q _ _ sto_new (by simp) fun n hn => sto_app hn
  | _ => exact h.elim
theorem lo_way {S : Sto} {d : D} {ds : List Nat} {g : D → Tau → Option Tau} {b : EvS} {τ : Tau} {Q : Out → Sto → Prop} (h : WayAt S d ds) (I : Nat → Tau → Sto → Prop) (h0 : I 0 τ S) (hI : ∀ i τ S', I i τ S' → WayAt S' d ds)
    (hs : ∀ (i x : Nat) (τ : Tau) (S : Sto), ds[i]? = some x → I i τ S → ∃ τ1, g (.int (x : Int)) τ = some τ1 ∧ Wp (b τ1 S) (LoopQ (I (i + 1)) Q))
    (he : ∀ τ S, I ds.length τ S → Q (.nx τ) S) : ∃ s, srcOf d S = some s ∧ Wp (loE s g b s.len 0 τ S) Q := by
  obtain ⟨s, h1, h2, h3, h4⟩ := h.src
  refine ⟨s, h1, ?_⟩
  refine wp_lo s (ds.map nD) g b I (fun i x τ S' hx hi => h3 S' (hI i τ S' hi) i x hx) (fun τ S' hi => h4 S' (hI _ τ S' hi)) ?_ (by rw [List.length_map]; exact he) _ 0 τ S (by simp [h2]) h0
  intro i x τ S' hx hi
  rw [List.getElem?_map] at hx
  obtain ⟨y, hy, rfl⟩ := Option.map_eq_some_iff.mp hx
  exact hs i y τ S' hy hi
end SW
namespace SW
open PySem L2
def b_seen : EvS := (seqS (stS 3 (aE lstD (consA (aE lenD (consA (b2E sbD (vE 0) (vE 1)) nilA)) nilA)))
  (seqS (forS (sqI (vE 2)) (.nm 4) (seqS (ifS (tB (b2E geD (vE 4) (aE lenD (consA (b2E sbD (vE 0) (vE 1)) nilA)))) (rtS (cE .non)) nxS)
  (seqS (asS (b2E sbD (b2E sbD (vE 0) (vE 1)) (vE 4)) (patG (.tp [(.nm 1), (.nm 5)])))
  (exS (mE appendM (vE 3) (consA (aE tupD (consA (vE 5) (consA (aE lenD (consA (b2E sbD (vE 0) (vE 1)) nilA)) nilA))) nilA))))))
  (rtS (aE tupleD (consA (vE 3) nilA)))))
def g_seen : Fn := fnD 3 6 b_seen
end SW
namespace SW
open PySem L2

theorem lastR_cons {r : Nat} {e : End} {es : List End} : lastR r (e :: es) = lastR e.1 es := by
  unfold lastR
  cases es with
  | nil => rfl
  | cons x l => rw [List.getLast?_cons_cons, List.getLast?_cons]
theorem spots_split {w : Wb} : ∀ (as bs : List Nat) (r : Nat), spots w r (as ++ bs) = (spots w r as).bind fun es => (spots w (lastR r es) bs).map (es ++ ·)
  | [], bs, r => by
    simp only [List.nil_append, spots, Option.bind_some]
    show _ = (spots w r bs).map _
    cases spots w r bs <;> rfl
  | a :: as, bs, r => by
    simp only [List.cons_append, spots]
    cases h : aT w r a with
    | none => rfl
    | some e =>
      simp only [Option.bind_some, spots_split as bs e.1]
      cases h2 : spots w e.1 as with
      | none => rfl
      | some es =>
        simp only [Option.bind_some, Option.map_some, lastR_cons]
        cases spots w (lastR e.1 es) bs <;> rfl
theorem spots_one {w : Wb} {r d : Nat} : spots w r [d] = (aT w r d).map fun e => [e] := by
  simp only [spots]
  cases aT w r d <;> rfl
theorem spots_take {w : Wb} {r i x : Nat} {ds : List Nat} {es : List End} (h : spots w r (ds.take i) = some es) (hx : ds[i]? = some x) : spots w r (ds.take (i + 1)) = (aT w (lastR r es) x).map fun e => es ++ [e] := by
  rw [List.take_add_one, hx]
  show spots w r (ds.take i ++ [x]) = _
  rw [spots_split, h, Option.bind_some, spots_one]
  cases aT w (lastR r es) x <;> rfl
theorem spots_stop {w : Wb} {r i x : Nat} {ds : List Nat} {es : List End} (h : spots w r (ds.take i) = some es) (hx : ds[i]? = some x) (hn : aT w (lastR r es) x = none) : spots w r ds = none := by
  have h1 := spots_take h hx
  rw [hn] at h1
  have h2 := spots_split (w := w) (ds.take (i + 1)) (ds.drop (i + 1)) r
  rw [List.take_append_drop, h1] at h2
  exact h2
/-- the room reached is a room -/
theorem spots_lt {w : Wb} (hc : Closed w) : ∀ (ds : List Nat) (r : Nat) (es : List End), r < w.length → spots w r ds = some es → lastR r es < w.length
  | [], r, es, hr, h => by
    simp only [spots, Option.some.injEq] at h
    subst h; exact hr
  | d :: ds, r, es, hr, h => by
    simp only [spots] at h
    obtain ⟨e, h1, h2⟩ := Option.bind_eq_some_iff.mp h
    obtain ⟨es', h3, rfl⟩ := Option.map_eq_some_iff.mp h2
    rw [lastR_cons]
    exact spots_lt hc ds e.1 es' (hc r d e.1 e.2 h1) h3
theorem spots_len {w : Wb} : ∀ (ds : List Nat) (r : Nat) (es : List End), spots w r ds = some es → es.length = ds.length
  | [], r, es, h => by
    simp only [spots, Option.some.injEq] at h
    subst h; rfl
  | d :: ds, r, es, h => by
    simp only [spots] at h
    obtain ⟨e, h1, h2⟩ := Option.bind_eq_some_iff.mp h
    obtain ⟨es', h3, rfl⟩ := Option.map_eq_some_iff.mp h2
    simp [spots_len ds e.1 es' h3]
def seenD (w : Wb) (r : Nat) (es : List End) : List D := nD (rowL w r) :: es.map fun e => .tup [nD e.2, nD (rowL w e.1)]
def SeI (S0 : Sto) (w : Wb) (r : Nat) (d : D) (ds : List Nat) (i : Nat) (τ : Tau) (S : Sto) : Prop := ∃ (es : List End) (o4 o5 : Option D), τ = [some (wD w), some (.int (lastR r es : Nat)), some d, some (.loc S0.length), o4, o5] ∧ spots w r (ds.take i) = some es ∧ S[S0.length]? = some (.lst (seenD w r es)) ∧ S.length = S0.length + 1 ∧ ∀ n, n < S0.length → S[n]? = S0[n]?
end SW
namespace SW
open PySem L2

/-- numbers, truths, None, tuples of such, n deep -/
def pl : Nat → D → Bool
  | _, .non => true
  | _, .bl _ => true
  | _, .int _ => true
  | n + 1, .tup ds => decide (ds.length ≤ 1000) && ds.all (pl n)
  | _, _ => false
theorem wp_eqB {a b : Bool} {S : Sto} {Q : D → Sto → Prop} : Wp (eqD (.bl a) (.bl b) S) Q ↔ Q (.bl (a == b)) S := by
  have e : eqD (.bl a) (.bl b) S = some (.bl (a == b), S) := by
    cases a <;> cases b <;> rfl
  rw [e]; exact wp_some
theorem wp_neB {a b : Bool} {S : Sto} {Q : D → Sto → Prop} : Wp (neD (.bl a) (.bl b) S) Q ↔ Q (.bl (!(a == b))) S := by
  have e : neD (.bl a) (.bl b) S = some (.bl (!(a == b)), S) := by
    cases a <;> cases b <;> rfl
  rw [e]; exact wp_some
section
variable {S : Sto} {Q : D → Sto → Prop}
theorem isi_ib {i : Int} : Wp (isiD [.int i, .ty "bool"] S) Q ↔ Q (.bl false) S := by
  have e : isiD [.int i, .ty "bool"] S = some (.bl false, S) := rfl
  rw [e]; exact wp_some
theorem isi_ii {i : Int} : Wp (isiD [.int i, .ty "int"] S) Q ↔ Q (.bl true) S := by
  have e : isiD [.int i, .ty "int"] S = some (.bl true, S) := rfl
  rw [e]; exact wp_some
theorem isi_ilt {i : Int} : Wp (isiD [.int i, .tup [.ty "list", .ty "tuple"]] S) Q ↔ Q (.bl false) S := by
  have e : isiD [.int i, .tup [.ty "list", .ty "tuple"]] S = some (.bl false, S) := rfl
  rw [e]; exact wp_some
theorem isi_bb {i : Bool} : Wp (isiD [.bl i, .ty "bool"] S) Q ↔ Q (.bl true) S := by
  have e : isiD [.bl i, .ty "bool"] S = some (.bl true, S) := rfl
  rw [e]; exact wp_some
theorem isi_tb {i : List D} : Wp (isiD [.tup i, .ty "bool"] S) Q ↔ Q (.bl false) S := by
  have e : isiD [.tup i, .ty "bool"] S = some (.bl false, S) := rfl
  rw [e]; exact wp_some
theorem isi_tl {i : List D} : Wp (isiD [.tup i, .ty "list"] S) Q ↔ Q (.bl false) S := by
  have e : isiD [.tup i, .ty "list"] S = some (.bl false, S) := rfl
  rw [e]; exact wp_some
theorem isi_tt {i : List D} : Wp (isiD [.tup i, .ty "tuple"] S) Q ↔ Q (.bl true) S := by
  have e : isiD [.tup i, .ty "tuple"] S = some (.bl true, S) := rfl
  rw [e]; exact wp_some
theorem isi_tlt {i : List D} : Wp (isiD [.tup i, .tup [.ty "list", .ty "tuple"]] S) Q ↔ Q (.bl true) S := by
  have e : isiD [.tup i, .tup [.ty "list", .ty "tuple"]] S = some (.bl true, S) := rfl
  rw [e]; exact wp_some
end
theorem zips_self : ∀ ds : List D, zipsT ds ds = ds.map fun d => .tup [d, d]
  | [] => rfl
  | d :: ds => by rw [List.map_cons, ← zips_self ds]; rfl
theorem bls_rep (n : Nat) : blsOf (List.replicate n (D.bl true)) = some (List.replicate n true) := by
  induction n with
  | zero => rfl
  | succ n ih =>
    rw [List.replicate_succ]
    show (blsOf (List.replicate n (D.bl true))).map _ = _
    rw [ih]; rfl
def AlI (S0 : Sto) (i : Nat) (acc : List D) (S : Sto) : Prop := acc = List.replicate i (D.bl true) ∧ S0.length ≤ S.length ∧ ∀ n, n < S0.length → S[n]? = S0[n]?
end SW
namespace SW
open PySem L2
end SW
namespace SW
open PySem L2

end SW
namespace SW
open PySem L2
end SW
namespace SW
open PySem L2

theorem WayAt.tuple {S : Sto} {d : D} {ds : List Nat} {Q : D → Sto → Prop} (h : WayAt S d ds) : Wp (tupleD [d] S) Q ↔ Q (.tup (ds.map nD)) S := by
  cases d with
  | tup l =>
    have h : l = ds.map nD := h
    subst h
    rw [wq_tupleT]
  | loc n => rw [wq_tupleL h]
  | _ => exact h.elim
theorem WayAt.tup {S : Sto} {ds : List Nat} : WayAt S (.tup (ds.map nD)) ds := rfl
end SW
namespace SW
open PySem L2
end SW
namespace SW
open PySem L2

end SW
namespace SW
open PySem L2
def b_rooms_met : EvS := (seqS (stS 2 (aE lstD (consA (vE 1) nilA)))
  (seqS (stS 3 (cE (.int 0)))
  (seqS (whS (tB (b2E ltD (vE 3) (aE lenD (consA (vE 2) nilA)))) (seqS (forS (sqI (b2E sbD (vE 0) (b2E sbD (vE 2) (vE 3)))) (.tp [(.nm 4), (.nm 5)]) (ifS (tB (b2E notInD (vE 4) (vE 2))) (exS (mE appendM (vE 2) (consA (vE 4) nilA))) nxS))
  (augS 3 addI (cE (.int 1)))))
  (rtS (vE 2)))))
def g_rooms_met : Fn := fnD 2 6 b_rooms_met
end SW
namespace SW
open PySem L2

/-! the rooms in the order in which they are come to, told by a function -/
def metStep (xs : List Nat) (e : End) : List Nat := if e.1 ∈ xs then xs else xs ++ [e.1]
def metRow (xs : List Nat) (row : List End) : List Nat := row.foldl metStep xs
def met (w : Wb) : Nat → Nat → List Nat → List Nat
  | 0, _, xs => xs
  | n + 1, k, xs => match xs[k]? with
    | some r => met w n (k + 1) (metRow xs ((w[r]?).getD []))
    | none => xs
/-- .. from room a -/
def metL (w : Wb) (a : Nat) : List Nat := met w w.length 0 [a]
theorem met_done {w : Wb} {n k : Nat} {xs : List Nat} (h : xs.length ≤ k) : met w n k xs = xs := by
  cases n with
  | zero => rfl
  | succ n => simp only [met, List.getElem?_eq_none_iff.mpr h]
theorem metRow_take {xs : List Nat} {row : List End} {i : Nat} {e : End} (h : row[i]? = some e) : metRow xs (row.take (i + 1)) = metStep (metRow xs (row.take i)) e := by
  unfold metRow
  rw [List.take_add_one, h, List.foldl_append]; rfl
def MtI (S0 : Sto) (w : Wb) (a n : Nat) (τ : Tau) (S : Sto) : Prop := ∃ (xs : List Nat) (k : Nat) (o4 o5 : Option D), τ = [some (wD w), some (nD a), some (.loc S0.length), some (nD k), o4, o5] ∧ RcOk w a k xs ∧ k + n = w.length ∧ met w n k xs = metL w a ∧ S[S0.length]? = some (.lst (xs.map nD)) ∧ S.length = S0.length + 1 ∧ ∀ m, m < S0.length → S[m]? = S0[m]?
def MtJ (S0 : Sto) (w : Wb) (a k r : Nat) (xs0 : List Nat) (row : List End) (i : Nat) (τ : Tau) (S : Sto) : Prop := ∃ (xs : List Nat) (o4 o5 : Option D), τ = [some (wD w), some (nD a), some (.loc S0.length), some (nD k), o4, o5] ∧ RcOk w a k xs ∧ xs[k]? = some r ∧ xs = metRow xs0 (row.take i) ∧ (∀ i' e, i' < i → aT w r i' = some e → e.1 ∈ xs) ∧ S[S0.length]? = some (.lst (xs.map nD)) ∧ S.length = S0.length + 1 ∧ ∀ m, m < S0.length → S[m]? = S0[m]?
def metB (inc : EvS) : EvS := (seqS (stS 2 (aE lstD (consA (vE 1) nilA)))
  (seqS (stS 3 (cE (.int 0)))
  (seqS (whS (tB (b2E ltD (vE 3) (aE lenD (consA (vE 2) nilA)))) (seqS (forS (sqI (b2E sbD (vE 0) (b2E sbD (vE 2) (vE 3)))) (.tp [(.nm 4), (.nm 5)]) (ifS (tB (b2E notInD (vE 4) (vE 2))) (exS (mE appendM (vE 2) (consA (vE 4) nilA))) nxS))
  inc))
  (rtS (vE 2)))))
end SW
namespace SW
open PySem L2

def rowD (w : Wb) (r : Nat) : List End := (w[r]?).getD []
def mapE (ν : Nat → Nat) (row : List End) : List End := row.map fun e => (ν e.1, e.2)
/-- the web with the numbers in which its rooms are come to -/
def toldW (w : Wb) (a : Nat) : Wb := (metL w a).map fun r => mapE (fun x => (metL w a).idxOf x) (rowD w r)
/-- w' is w with other numbers -/
structure Ren (w w' : Wb) (ν : Nat → Nat) : Prop where
  len : w'.length = w.length
  lt : ∀ r, r < w.length → ν r < w.length
  inj : ∀ r s, r < w.length → s < w.length → ν r = ν s → r = s
  row : ∀ r, r < w.length → rowD w' (ν r) = mapE ν (rowD w r)
theorem rowD_lt {w : Wb} (hc : Closed w) {r : Nat} {e : End} (h : e ∈ rowD w r) : e.1 < w.length := by
  unfold rowD at h
  cases hx : w[r]? with
  | none => rw [hx] at h; simp at h
  | some x =>
    rw [hx] at h
    obtain ⟨i, hi⟩ := List.getElem?_of_mem h
    exact hc r i e.1 e.2 (aT_some.mpr ⟨x, hx, hi⟩)
section
variable {w w' : Wb} {ν : Nat → Nat}
theorem Ren.mem (R : Ren w w' ν) {xs : List Nat} (hx : ∀ x ∈ xs, x < w.length) {y : Nat} (hy : y < w.length) : ν y ∈ xs.map ν ↔ y ∈ xs := by
  constructor
  · intro h
    obtain ⟨z, hz, e⟩ := List.mem_map.mp h
    have := R.inj z y (hx z hz) hy e
    subst this
    exact hz
  · exact fun h => List.mem_map.mpr ⟨y, h, rfl⟩
theorem Ren.metRow (R : Ren w w' ν) : ∀ (row : List End) (xs : List Nat), (∀ e ∈ row, e.1 < w.length) → (∀ x ∈ xs, x < w.length) →
    SW.metRow (xs.map ν) (mapE ν row) = (SW.metRow xs row).map ν ∧ ∀ x ∈ SW.metRow xs row, x < w.length
  | [], xs, _, hx => ⟨rfl, hx⟩
  | e :: row, xs, hr, hx => by
    have he := hr e List.mem_cons_self
    have hr' : ∀ e ∈ row, e.1 < w.length := fun y hy => hr y (List.mem_cons_of_mem _ hy)
    show SW.metRow (metStep (xs.map ν) (ν e.1, e.2)) (mapE ν row) = (SW.metRow (metStep xs e) row).map ν ∧ ∀ x ∈ SW.metRow (metStep xs e) row, x < w.length
    have hm := R.mem hx he
    unfold metStep
    by_cases h : e.1 ∈ xs
    · rw [if_pos (hm.mpr h), if_pos h]
      exact Ren.metRow R row xs hr' hx
    · rw [if_neg (fun z => h (hm.mp z)), if_neg h]
      have e1 : xs.map ν ++ [ν e.1] = (xs ++ [e.1]).map ν := by rw [List.map_append]; rfl
      show SW.metRow (xs.map ν ++ [ν e.1]) _ = _ ∧ _
      rw [e1]
      refine Ren.metRow R row (xs ++ [e.1]) hr' fun x hxm => ?_
      rcases List.mem_append.mp hxm with h1 | h1
      · exact hx x h1
      · simp at h1; subst h1; exact he
theorem Ren.met (R : Ren w w' ν) (hc : Closed w) : ∀ (n k : Nat) (xs : List Nat), (∀ x ∈ xs, x < w.length) →
    SW.met w' n k (xs.map ν) = (SW.met w n k xs).map ν ∧ ∀ x ∈ SW.met w n k xs, x < w.length
  | 0, k, xs, hx => ⟨rfl, hx⟩
  | n + 1, k, xs, hx => by
    simp only [SW.met, List.getElem?_map]
    cases h : xs[k]? with
    | none => exact ⟨rfl, hx⟩
    | some r =>
      simp only [Option.map_some]
      have hr := hx r (List.mem_of_getElem? h)
      have e1 : (w'[ν r]?).getD [] = mapE ν ((w[r]?).getD []) := R.row r hr
      rw [e1]
      obtain ⟨m1, m2⟩ := R.metRow ((w[r]?).getD []) xs (fun e he => rowD_lt hc (r := r) he) hx
      rw [m1]
      exact Ren.met R hc n (k + 1) _ m2
theorem Ren.metL (R : Ren w w' ν) (hc : Closed w) {a : Nat} (ha : a < w.length) : SW.metL w' (ν a) = (SW.metL w a).map ν ∧ ∀ x ∈ SW.metL w a, x < w.length := by
  unfold SW.metL
  rw [R.len]
  exact R.met hc w.length 0 [a] (by simpa using ha)
theorem Ren.idx (R : Ren w w' ν) : ∀ (xs : List Nat) (y : Nat), (∀ x ∈ xs, x < w.length) → y < w.length → (xs.map ν).idxOf (ν y) = xs.idxOf y
  | [], y, _, _ => rfl
  | x :: xs, y, hx, hy => by
    rw [List.map_cons, List.idxOf_cons, List.idxOf_cons, Ren.idx R xs y (fun z hz => hx z (List.mem_cons_of_mem _ hz)) hy]
    have h1 := hx x List.mem_cons_self
    by_cases h : x = y
    · subst h; simp
    · have h2 : ¬ ν x = ν y := fun z => h (R.inj x y h1 hy z)
      have h3 : (ν x == ν y) = false := beq_eq_false_iff_ne.mpr h2
      have h4 : (x == y) = false := beq_eq_false_iff_ne.mpr h
      rw [h3, h4]
/-- what is told is told of each numbering alike -/
theorem Ren.told (R : Ren w w' ν) (hc : Closed w) {a : Nat} (ha : a < w.length) : toldW w' (ν a) = toldW w a := by
  obtain ⟨m1, m2⟩ := R.metL hc ha
  unfold toldW
  rw [m1, List.map_map]
  apply List.map_congr_left
  intro r hr
  show mapE (fun x => (List.map ν (SW.metL w a)).idxOf x) (rowD w' (ν r)) = _
  rw [R.row r (m2 r hr)]
  unfold mapE
  rw [List.map_map]
  apply List.map_congr_left
  intro e he
  show ((List.map ν (SW.metL w a)).idxOf (ν e.1), e.2) = _
  rw [R.idx _ _ m2 (rowD_lt hc he)]
end
theorem idx_at : ∀ {xs : List Nat} {i x : Nat}, xs.Nodup → xs[i]? = some x → xs.idxOf x = i := by
  intro xs i x hn h
  have hm : x ∈ xs := List.mem_of_getElem? h
  have hl : xs.idxOf x < xs.length := List.idxOf_lt_length_iff.mpr hm
  have hj : xs[xs.idxOf x]? = some x := by rw [List.getElem?_eq_getElem hl, List.getElem_idxOf hl]
  exact (List.getElem?_inj hl hn).mp (by rw [hj, h])
end SW
namespace SW
open PySem L2

theorem rowD_of {w : Wb} {r : Nat} {x : List End} (h : w[r]? = some x) : rowD w r = x := by unfold rowD; rw [h]; rfl
end SW
namespace SW
open PySem L2

theorem Ren.uniq {w w1 w2 : Wb} {ν : Nat → Nat} (R1 : Ren w w1 ν) (R2 : Ren w w2 ν) : w1 = w2 := by
  have hl1 := R1.len
  have hl2 := R2.len
  have row_some : ∀ (v : Wb) (p : Nat), p < v.length → v[p]? = some (rowD v p) := fun v p hp => by
    have e : v[p]? = some v[p] := List.getElem?_eq_getElem hp
    rw [rowD_of e]; exact e
  apply List.ext_getElem?
  intro p
  by_cases hp : p < w.length
  · have hm : p ∈ (List.range w.length).map ν := by
      refine nodup_full (n := w.length) ?_ (fun x hx => ?_) (by simp) hp
      · rw [List.nodup_iff_pairwise_ne, List.pairwise_map]
        refine List.Pairwise.imp_of_mem ?_ (List.nodup_iff_pairwise_ne.mp List.nodup_range)
        intro a b ha hb hne e
        exact hne (R1.inj a b (List.mem_range.mp ha) (List.mem_range.mp hb) e)
      · obtain ⟨r, hr, rfl⟩ := List.mem_map.mp hx
        exact R1.lt r (List.mem_range.mp hr)
    obtain ⟨r, hr, rfl⟩ := List.mem_map.mp hm
    have hr := List.mem_range.mp hr
    rw [row_some w1 _ (by omega), row_some w2 _ (by omega), R1.row r hr, R2.row r hr]
  · rw [List.getElem?_eq_none_iff.mpr (by omega), List.getElem?_eq_none_iff.mpr (by omega)]
theorem WayAt.get {S : Sto} {d : D} {ds : List Nat} {i x : Nat} {Q : D → Sto → Prop} (h : WayAt S d ds) (hi : ds[i]? = some x) : Wp (sbD d (.int (i : Int)) S) Q ↔ Q (.int (x : Int)) S := by
  have ha : atI (ds.map nD) (i : Int) = some (nD x) := atI_of (by rw [List.getElem?_map, hi]; rfl)
  cases d with
  | tup l =>
    have h : l = ds.map nD := h
    subst h
    rw [wq_sbT, ha]; simp [nD]
  | loc n => rw [wq_sbL h, ha]; simp [nD]
  | _ => exact h.elim
end SW
namespace SW
open PySem L2

theorem Rch.trans {w : Wb} {a b c : Nat} (h : Rch w a b) (g : Rch w b c) : Rch w a c := by
  induction g with
  | refl => exact h
  | step _ e ih => exact .step ih e
theorem Rch.symm {w : Wb} (hb : Back w) {a b : Nat} (h : Rch w a b) : Rch w b a := by
  induction h with
  | refl => exact .refl
  | step _ e ih =>
    obtain ⟨i, j, e⟩ := e
    exact Rch.trans (.step .refl ⟨j, i, hb _ _ _ _ e⟩) ih
theorem IsWeb.rch {w : Wb} (W : IsWeb w) {a b : Nat} (ha : a < w.length) (hb : b < w.length) : Rch w a b :=
  (Rch.symm W.back (W.con a ha).rch).trans (W.con b hb).rch
end SW
namespace SW
open PySem L2
end SW
namespace SW
open PySem L2

/-! webs with other numbers are webs -/
theorem aT_row {w : Wb} {r i : Nat} {e : End} (hr : r < w.length) : aT w r i = some e ↔ (rowD w r)[i]? = some e := by
  have hx : w[r]? = some w[r] := List.getElem?_eq_getElem hr
  rw [rowD_of hx]
  unfold aT
  rw [hx]; rfl
theorem Ren.at_ {w w' : Wb} {ν : Nat → Nat} (R : Ren w w' ν) {r i : Nat} {e : End} (h : aT w r i = some e) : aT w' (ν r) i = some (ν e.1, e.2) := by
  have hr := aT_lt h
  have hl := R.len
  have h2 := R.lt r hr
  rw [aT_row (by omega), R.row r hr]
  rw [aT_row hr] at h
  unfold mapE
  rw [List.getElem?_map, h]; rfl
theorem Ren.surj {w w' : Wb} {ν : Nat → Nat} (R : Ren w w' ν) {p : Nat} (hp : p < w.length) : ∃ r, r < w.length ∧ ν r = p := by
  have hm : p ∈ (List.range w.length).map ν := by
    refine nodup_full (n := w.length) ?_ (fun x hx => ?_) (by simp) hp
    · rw [List.nodup_iff_pairwise_ne, List.pairwise_map]
      refine List.Pairwise.imp_of_mem ?_ (List.nodup_iff_pairwise_ne.mp List.nodup_range)
      intro a b ha hb hne e
      exact hne (R.inj a b (List.mem_range.mp ha) (List.mem_range.mp hb) e)
    · obtain ⟨r, hr, rfl⟩ := List.mem_map.mp hx
      exact R.lt r (List.mem_range.mp hr)
  obtain ⟨r, hr, e⟩ := List.mem_map.mp hm
  exact ⟨r, List.mem_range.mp hr, e⟩
theorem Ren.rch {w w' : Wb} {ν : Nat → Nat} (R : Ren w w' ν) {a b : Nat} (h : Rch w a b) : Rch w' (ν a) (ν b) := by
  induction h with
  | refl => exact .refl
  | step _ e ih =>
    obtain ⟨i, j, e⟩ := e
    exact .step ih ⟨i, j, R.at_ e⟩
theorem Ren.web {w w' : Wb} {ν : Nat → Nat} (R : Ren w w' ν) (W : IsWeb w) : IsWeb w' := by
  have hl := R.len
  have hpos := W.pos
  have hfew := W.few
  have down : ∀ (r' i : Nat) (e' : End), aT w' r' i = some e' → ∃ (r : Nat) (e : End), r < w.length ∧ ν r = r' ∧ aT w r i = some e ∧ e' = (ν e.1, e.2) := fun r' i e' h => by
    have hr' := aT_lt h
    obtain ⟨r, hr, rfl⟩ := R.surj (p := r') (by omega)
    rw [aT_row hr', R.row r hr] at h
    unfold mapE at h
    rw [List.getElem?_map] at h
    obtain ⟨e, he, rfl⟩ := Option.map_eq_some_iff.mp h
    exact ⟨r, e, hr, rfl, (aT_row hr).mpr he, rfl⟩
  refine ⟨fun r' i s' j h => ?_, by omega, by omega, fun r' x hx => ?_, fun r' hr' => ?_⟩
  · obtain ⟨r, e, hr, rfl, ha, he⟩ := down r' i _ h
    cases he
    have := R.at_ (W.back r i e.1 e.2 ha)
    exact this
  · have hr' : r' < w'.length := (List.getElem?_eq_some_iff.mp hx).1
    obtain ⟨r, hr, rfl⟩ := R.surj (p := r') (by omega)
    have e1 := R.row r hr
    rw [rowD_of hx] at e1
    have hrow : w[r]? = some w[r] := List.getElem?_eq_getElem hr
    rw [e1, rowD_of hrow]
    have := W.doors r _ hrow
    simpa [mapE] using this
  · obtain ⟨r, hr, rfl⟩ := R.surj (p := r') (by omega)
    obtain ⟨r0, hr0, e0⟩ := R.surj (p := 0) hpos
    have := R.rch (W.rch hr0 hr)
    rw [e0] at this
    exact this.con
end SW
namespace SW
open PySem L2

def pyE (e : End) : PyData := .tuple [.int e.1, .int e.2]
theorem pyDs_map {α : Type} (g : Nat → Option PyData) (f : α → D) (p : α → PyData) (h : ∀ a, pyD g (f a) = some (p a)) : ∀ l : List α, pyDs g (l.map f) = some (l.map p)
  | [] => rfl
  | a :: l => by
    rw [List.map_cons]
    simp only [pyDs, h a, pyDs_map g f p h l, Option.bind_some, Option.map_some]
    rfl
theorem can_map {α : Type} (p : α → PyData) (h : ∀ a, (p a).canLay0 = true) : ∀ l : List α, PyData.canLayAll0 (l.map p) = true
  | [] => rfl
  | a :: l => by
    rw [List.map_cons]
    simp only [PyData.canLayAll0, h a, can_map p h l, Bool.and_self]
theorem dep_map {α : Type} (p : α → PyData) (k : Nat) (h : ∀ a, (p a).depth ≤ k) : ∀ l : List α, PyData.depthAll (l.map p) ≤ k
  | [] => by simp [PyData.depthAll]
  | a :: l => by
    rw [List.map_cons]
    simp only [PyData.depthAll]
    exact Nat.max_le.mpr ⟨h a, dep_map p k h l⟩
theorem can_E (e : End) : (pyE e).canLay0 = true := rfl
theorem dep_E (e : End) : (pyE e).depth ≤ 1 := by simp [pyE, PyData.depth, PyData.depthAll]
theorem pl_web {n : Nat} {w : Wb} (h : w.length ≤ 24) (hd : ∀ (r : Nat) (x : List End), w[r]? = some x → x.length ≤ 6) : pl (n + 3) (wD w) = true := by
  unfold wD
  rw [pl, Bool.and_eq_true]
  refine ⟨by simp; omega, ?_⟩
  rw [List.all_eq_true]
  intro d hdm
  obtain ⟨x, hx, rfl⟩ := List.mem_map.mp hdm
  obtain ⟨r, hr⟩ := List.getElem?_of_mem hx
  have := hd r x hr
  unfold rD
  rw [pl, Bool.and_eq_true]
  refine ⟨by simp; omega, ?_⟩
  rw [List.all_eq_true]
  intro d hdm
  obtain ⟨e, he, rfl⟩ := List.mem_map.mp hdm
  simp [eD, pl]
end SW
namespace SW
open PySem L2
end SW
namespace SW
open PySem L2

/-! dicts with numbers as keys -/
def kN (n : Nat) : Key := Sum.inl (n : Int)
theorem kN_inj {a b : Nat} (h : kN a = kN b) : a = b := by
  simp only [kN, Sum.inl.injEq] at h
  omega
theorem wq_dgK {a i : Nat} {kvs : List (Key × D)} {S : Sto} {Q : D → Sto → Prop} (h : S[a]? = some (.dK kvs)) : Wp (sbD (.loc a) (.int (i : Int)) S) Q ↔ ∃ d, lk kvs (kN i) = some d ∧ Q d S := by
  have e : sbD (.loc a) (.int (i : Int)) S = (lk kvs (kN i)).map fun d => (d, S) := by
    show ((ixD (.loc a) (.int (i : Int)) S).orElse fun _ => (dgD (.loc a) (.int (i : Int)) S).orElse fun _ => gnD (.loc a) (.int (i : Int)) S) = _
    have e0 : dgD (.loc a) (.int (i : Int)) S = (lk kvs (kN i)).map fun d => (d, S) := by
      simp only [dgD, h, kOf]; rfl
    rw [e0]
    simp only [ixD, h]
    cases lk kvs (kN i) with
    | some d => rfl
    | none => simp [Option.orElse, gnD, nHas, h, nkT]
  rw [e, wq_map]
theorem stD_K {a i : Nat} {kvs : List (Key × D)} {v : D} {S : Sto} (h : S[a]? = some (.dK kvs)) (hl : kvs.length ≤ 10000000) : stD (.loc a) (.int (i : Int)) v S = some (S.set a (.dK (ptK kvs (kN i) v))) := by
  simp only [stD, h, kOf]
  rw [if_pos hl]; rfl
end SW
namespace SW

/-! ways in the order: the fewest doors, of several the first -/
def lexLt : List Nat → List Nat → Prop
  | [], [] => False
  | [], _ :: _ => True
  | _ :: _, [] => False
  | a :: as, b :: bs => a < b ∨ (a = b ∧ lexLt as bs)
theorem lexLt_irr : ∀ p : List Nat, ¬ lexLt p p
  | [], h => h
  | a :: as, h => by
    rcases h with h | h
    · omega
    · exact lexLt_irr as h.2
theorem lexLt_tr : ∀ {p q r : List Nat}, lexLt p q → lexLt q r → lexLt p r
  | [], [], _, h, _ => h.elim
  | [], _ :: _, [], _, g => g.elim
  | [], _ :: _, _ :: _, _, _ => trivial
  | _ :: _, [], _, h, _ => h.elim
  | _ :: _, _ :: _, [], _, g => g.elim
  | a :: as, b :: bs, c :: cs, h, g => by
    rcases h with h | ⟨rfl, h⟩
    · rcases g with g | ⟨rfl, g⟩
      · exact .inl (by omega)
      · exact .inl h
    · rcases g with g | ⟨rfl, g⟩
      · exact .inl g
      · exact .inr ⟨rfl, lexLt_tr h g⟩
theorem lexLt_app : ∀ {p q : List Nat} (a b : Nat), p.length = q.length → lexLt p q → lexLt (p ++ [a]) (q ++ [b])
  | [], [], _, _, _, h => h.elim
  | [], _ :: _, _, _, e, _ => by simp at e
  | _ :: _, [], _, _, e, _ => by simp at e
  | x :: p, y :: q, a, b, e, h => by
    rcases h with h | ⟨rfl, h⟩
    · exact .inl h
    · exact .inr ⟨rfl, lexLt_app a b (by simpa using e) h⟩
theorem lexLt_snoc : ∀ (p : List Nat) {a b : Nat}, a < b → lexLt (p ++ [a]) (p ++ [b])
  | [], _, _, h => .inl h
  | _ :: p, _, _, h => .inr ⟨rfl, lexLt_snoc p h⟩
def sl (p q : List Nat) : Prop := p.length < q.length ∨ (p.length = q.length ∧ lexLt p q)
def sle (p q : List Nat) : Prop := sl p q ∨ p = q
theorem sl_irr {p : List Nat} (h : sl p p) : False := by
  rcases h with h | h
  · omega
  · exact lexLt_irr p h.2
theorem sl_tr {p q r : List Nat} (h : sl p q) (g : sl q r) : sl p r := by
  rcases h with h | ⟨h1, h2⟩
  · rcases g with g | ⟨g1, g2⟩
    · exact .inl (by omega)
    · exact .inl (by omega)
  · rcases g with g | ⟨g1, g2⟩
    · exact .inl (by omega)
    · exact .inr ⟨by omega, lexLt_tr h2 g2⟩
theorem sle_rfl {p : List Nat} : sle p p := .inr rfl
theorem sle_tr {p q r : List Nat} (h : sle p q) (g : sle q r) : sle p r := by
  rcases h with h | rfl
  · rcases g with g | rfl
    · exact .inl (sl_tr h g)
    · exact .inl h
  · exact g
theorem sl_sle {p q r : List Nat} (h : sl p q) (g : sle q r) : sl p r := by
  rcases g with g | rfl
  · exact sl_tr h g
  · exact h
theorem sle_anti {p q : List Nat} (h : sle p q) (g : sle q p) : p = q := by
  rcases h with h | h
  · rcases g with g | g
    · exact (sl_irr (sl_tr h g)).elim
    · exact g.symm
  · exact h
theorem sl_app {p q : List Nat} (a b : Nat) (h : sl p q) : sl (p ++ [a]) (q ++ [b]) := by
  rcases h with h | ⟨h1, h2⟩
  · exact .inl (by simp; omega)
  · exact .inr ⟨by simp [h1], lexLt_app a b h1 h2⟩
theorem sl_snoc (p : List Nat) {a b : Nat} (h : a < b) : sl (p ++ [a]) (p ++ [b]) := .inr ⟨by simp, lexLt_snoc p h⟩
theorem sle_app {p q : List Nat} (a : Nat) (h : sle p q) : sle (p ++ [a]) (q ++ [a]) := by
  rcases h with h | rfl
  · exact .inl (sl_app a a h)
  · exact sle_rfl
theorem sle_len {p q : List Nat} (h : sle p q) : p.length ≤ q.length := by
  rcases h with (h | h) | rfl
  · omega
  · omega
  · exact Nat.le_refl _
theorem sl_nil {p : List Nat} (d : Nat) : sl [] (p ++ [d]) := .inl (by simp)
/-- the least of those of which P holds -/
def Least (P : List Nat → Prop) (p : List Nat) : Prop := P p ∧ ∀ q, P q → sle p q
theorem Least.uniq {P : List Nat → Prop} {p q : List Nat} (h : Least P p) (g : Least P q) : p = q := sle_anti (h.2 q g.1) (g.2 p h.1)
theorem Least.congr {P P' : List Nat → Prop} {p : List Nat} (h : Least P p) (e : ∀ q, P q ↔ P' q) : Least P' p := ⟨(e p).mp h.1, fun q hq => h.2 q ((e q).mpr hq)⟩

/-! a search, one behind the other -/
section
variable {σ : Type}
def runS (st : σ → Nat → Option σ) : σ → List Nat → Option σ
  | s, [] => some s
  | s, d :: ds => (st s d).bind fun t => runS st t ds
theorem runS_app {st : σ → Nat → Option σ} : ∀ (p q : List Nat) (s : σ), runS st s (p ++ q) = (runS st s p).bind fun t => runS st t q
  | [], q, s => rfl
  | d :: p, q, s => by
    show (st s d).bind _ = ((st s d).bind _).bind _
    cases st s d with
    | none => rfl
    | some t => exact runS_app p q t
theorem runS_snoc {st : σ → Nat → Option σ} (p : List Nat) (d : Nat) (s : σ) : runS st s (p ++ [d]) = (runS st s p).bind fun t => st t d := by
  rw [runS_app]
  congr 1
  funext t
  show (st t d).bind _ = _
  cases st t d <;> rfl
/-- visited before door `door` of the one at place `at_` -/
def Ahead (at_ door : Nat) (j d : Nat) : Prop := j < at_ ∨ (j = at_ ∧ d < door)
structure Bfs (st : σ → Nat → Option σ) (s0 : σ) (ws : List (σ × List Nat)) (at_ door : Nat) : Prop where
  hd : ws[0]? = some (s0, [])
  par : ∀ (i : Nat) (v : σ) (p : List Nat), 0 < i → ws[i]? = some (v, p) → ∃ (j : Nat) (u : σ) (q : List Nat) (d : Nat), ws[j]? = some (u, q) ∧ st u d = some v ∧ p = q ++ [d] ∧ Ahead at_ door j d
  cov : ∀ (j : Nat) (u : σ) (q : List Nat) (d : Nat) (v : σ), ws[j]? = some (u, q) → Ahead at_ door j d → st u d = some v → ∃ (i : Nat) (p : List Nat), ws[i]? = some (v, p) ∧ sle p (q ++ [d])
  ord : ∀ (i j : Nat) (a b : σ × List Nat), i < j → ws[i]? = some a → ws[j]? = some b → sl a.2 b.2 ∧ a.1 ≠ b.1
  run : ∀ (i : Nat) (v : σ) (p : List Nat), ws[i]? = some (v, p) → runS st s0 p = some v
variable {st : σ → Nat → Option σ} {s0 : σ} {ws : List (σ × List Nat)} {at_ door : Nat}
theorem Bfs.init (st : σ → Nat → Option σ) (s0 : σ) : Bfs st s0 [(s0, [])] 0 0 where
  hd := rfl
  par := fun i v p h e => by
    cases i with
    | zero => omega
    | succ i => simp at e
  cov := fun j u q d v e a => by
    rcases a with a | a <;> omega
  ord := fun i j a b h e1 e2 => by
    cases j with
    | zero => omega
    | succ j => simp at e2
  run := fun i v p e => by
    cases i with
    | zero => simp at e; obtain ⟨rfl, rfl⟩ := e; rfl
    | succ i => simp at e
theorem Bfs.same (h : Bfs st s0 ws at_ door) {i j : Nat} {v : σ} {p q : List Nat} (e1 : ws[i]? = some (v, p)) (e2 : ws[j]? = some (v, q)) : i = j ∧ p = q := by
  rcases Nat.lt_trichotomy i j with z | z | z
  · exact absurd rfl (h.ord i j _ _ z e1 e2).2
  · subst z; rw [e1] at e2; cases e2; exact ⟨rfl, rfl⟩
  · exact absurd rfl (h.ord j i _ _ z e2 e1).2
/-- all that stands there is ahead of the next try -/
theorem Bfs.before (h : Bfs st s0 ws at_ door) {i : Nat} {a : σ × List Nat} {u : σ} {q : List Nat} (e : ws[i]? = some a) (hu : ws[at_]? = some (u, q)) : sl a.2 (q ++ [door]) := by
  cases i with
  | zero =>
    rw [h.hd] at e; cases e
    exact sl_nil door
  | succ i =>
    obtain ⟨j, u', q', d, e1, _, e2, a1⟩ := h.par (i + 1) a.1 a.2 (by omega) e
    rw [e2]
    rcases a1 with a1 | ⟨rfl, a1⟩
    · exact sl_app _ _ (h.ord j at_ _ _ a1 e1 hu).1
    · rw [e1] at hu; cases hu
      exact sl_snoc _ a1
/-- a door that leads to none, or to one that stands there -/
theorem Bfs.old (h : Bfs st s0 ws at_ door) {u : σ} {q : List Nat} (hu : ws[at_]? = some (u, q)) (ho : ∀ v, st u door = some v → ∃ (i : Nat) (p : List Nat), ws[i]? = some (v, p)) : Bfs st s0 ws at_ (door + 1) where
  hd := h.hd
  par := fun i v p hi e => by
    obtain ⟨j, u', q', d, e1, e2, e3, a⟩ := h.par i v p hi e
    exact ⟨j, u', q', d, e1, e2, e3, by unfold Ahead at a ⊢; omega⟩
  cov := fun j u' q' d v e a es => by
    by_cases z : Ahead at_ door j d
    · exact h.cov j u' q' d v e z es
    · have hj : j = at_ ∧ d = door := by unfold Ahead at a z; omega
      obtain ⟨rfl, rfl⟩ := hj
      rw [hu] at e; cases e
      obtain ⟨i, p, e1⟩ := ho v es
      exact ⟨i, p, e1, .inl (h.before e1 hu)⟩
  ord := h.ord
  run := h.run
/-- a door that leads to a new one -/
theorem Bfs.new (h : Bfs st s0 ws at_ door) {u v : σ} {q : List Nat} (hu : ws[at_]? = some (u, q)) (hs : st u door = some v) (hn : ∀ (i : Nat) (p : List Nat), ws[i]? ≠ some (v, p)) : Bfs st s0 (ws ++ [(v, q ++ [door])]) at_ (door + 1) := by
  have get : ∀ {i : Nat} {a : σ × List Nat}, (ws ++ [(v, q ++ [door])])[i]? = some a → ws[i]? = some a ∨ (i = ws.length ∧ a = (v, q ++ [door])) := fun {i a} e => by
    rw [List.getElem?_append] at e
    split at e
    · exact .inl e
    · rename_i hi
      cases hk : i - ws.length with
      | zero => rw [hk] at e; simp at e; exact .inr ⟨by omega, e.symm⟩
      | succ k => rw [hk] at e; simp at e
  have put : ∀ {i : Nat} {a : σ × List Nat}, ws[i]? = some a → (ws ++ [(v, q ++ [door])])[i]? = some a := fun {i a} e => by
    rw [List.getElem?_append_left (List.getElem?_eq_some_iff.mp e).1]; exact e
  have lt : ∀ {i : Nat} {a : σ × List Nat}, ws[i]? = some a → i < ws.length := fun e => (List.getElem?_eq_some_iff.mp e).1
  have last : (ws ++ [(v, q ++ [door])])[ws.length]? = some (v, q ++ [door]) := by simp
  refine ⟨put h.hd, fun i v' p hi e => ?_, fun j u' q' d v' e a es => ?_, fun i j a b hij e1 e2 => ?_, fun i v' p e => ?_⟩
  · rcases get e with e4 | ⟨e5, e4⟩
    · obtain ⟨j, u', q', d, e1, e2, e3, a⟩ := h.par i v' p hi e4
      exact ⟨j, u', q', d, put e1, e2, e3, by unfold Ahead at a ⊢; omega⟩
    · cases e4
      exact ⟨at_, u, q, door, put hu, hs, rfl, .inr ⟨rfl, by omega⟩⟩
  · have hau := lt hu
    rcases get e with e4 | ⟨e5, e4⟩
    · by_cases z : Ahead at_ door j d
      · obtain ⟨i, p, e1, e2⟩ := h.cov j u' q' d v' e4 z es
        exact ⟨i, p, put e1, e2⟩
      · have hj : j = at_ ∧ d = door := by unfold Ahead at a z; omega
        obtain ⟨rfl, rfl⟩ := hj
        rw [hu] at e4; cases e4
        rw [hs] at es; cases es
        exact ⟨ws.length, _, last, sle_rfl⟩
    · exfalso
      unfold Ahead at a; omega
  · rcases get e1 with e3 | ⟨e5, e3⟩
    · rcases get e2 with e4 | ⟨e6, e4⟩
      · exact h.ord i j a b hij e3 e4
      · subst e4
        refine ⟨h.before e3 hu, fun z => ?_⟩
        obtain ⟨a1, a2⟩ := a
        have z : a1 = v := z
        subst z
        exact hn i a2 e3
    · exfalso
      have := (List.getElem?_eq_some_iff.mp e2).1
      simp at this; omega
  · rcases get e with e3 | ⟨e5, e3⟩
    · exact h.run i v' p e3
    · cases e3
      rw [runS_snoc, h.run at_ u q hu]
      exact hs
theorem Bfs.next (h : Bfs st s0 ws at_ door) {u : σ} {q : List Nat} (hu : ws[at_]? = some (u, q)) (hd : ∀ d, door ≤ d → st u d = none) : Bfs st s0 ws (at_ + 1) 0 where
  hd := h.hd
  par := fun i v p hi e => by
    obtain ⟨j, u', q', d, e1, e2, e3, a⟩ := h.par i v p hi e
    exact ⟨j, u', q', d, e1, e2, e3, by unfold Ahead at a ⊢; omega⟩
  cov := fun j u' q' d v e a es => by
    by_cases z : Ahead at_ door j d
    · exact h.cov j u' q' d v e z es
    · have hj : j = at_ ∧ door ≤ d := by unfold Ahead at a z; omega
      obtain ⟨rfl, hj⟩ := hj
      rw [hu] at e; cases e
      rw [hd d hj] at es; cases es
  ord := h.ord
  run := h.run
/-- a way leads to one that stands there by a way that isn't behind it, or comes by one that isn't done -/
theorem Bfs.reach (h : Bfs st s0 ws at_ door) : ∀ (n : Nat) (p : List Nat) (v : σ), p.length = n → runS st s0 p = some v →
    (∃ (i : Nat) (q : List Nat), ws[i]? = some (v, q) ∧ sle q p) ∨ ∃ (j : Nat) (x : σ) (q' q1 : List Nat), at_ ≤ j ∧ ws[j]? = some (x, q') ∧ sle q' q1 ∧ q1.length < p.length
  | 0, p, v, hp, e => by
    have : p = [] := by simpa using hp
    subst this
    cases e
    exact .inl ⟨0, [], h.hd, sle_rfl⟩
  | n + 1, p, v, hp, e => by
    rcases List.eq_nil_or_concat p with rfl | ⟨q, d, rfl⟩
    · simp at hp
    · rw [List.concat_eq_append] at hp e ⊢
      rw [runS_snoc] at e
      obtain ⟨u, e1, e2⟩ := Option.bind_eq_some_iff.mp e
      have hq : q.length = n := by simpa using hp
      rcases h.reach n q u hq e1 with ⟨i, q', e3, e4⟩ | ⟨j, x, q', q1, a1, a2, a3, a4⟩
      · by_cases z : Ahead at_ door i d
        · obtain ⟨i', p', e5, e6⟩ := h.cov i u q' d v e3 z e2
          exact .inl ⟨i', p', e5, sle_tr e6 (sle_app d e4)⟩
        · exact .inr ⟨i, u, q', q, by unfold Ahead at z; omega, e3, e4, by simp⟩
      · exact .inr ⟨j, x, q', q1, a1, a2, a3, by simp; omega⟩
/-- the search at its end -/
theorem Bfs.all (h : Bfs st s0 ws at_ door) (hl : ws.length ≤ at_) {p : List Nat} {v : σ} (e : runS st s0 p = some v) : ∃ (i : Nat) (q : List Nat), ws[i]? = some (v, q) ∧ sle q p := by
  rcases h.reach p.length p v rfl e with r | ⟨j, x, q', q1, a1, a2, _, _⟩
  · exact r
  · have := (List.getElem?_eq_some_iff.mp a2).1
    omega
theorem Bfs.least (h : Bfs st s0 ws at_ door) (hl : ws.length ≤ at_) {i : Nat} {v : σ} {q : List Nat} (e : ws[i]? = some (v, q)) : Least (fun p => runS st s0 p = some v) q := by
  refine ⟨h.run i v q e, fun p hp => ?_⟩
  obtain ⟨j, q', e1, e2⟩ := h.all hl hp
  rw [(h.same e e1).2]
  exact e2
/-- the search stops at the first door that is bad -/
theorem Bfs.stop (h : Bfs st s0 ws at_ door) {bad : σ → Nat → Prop} (hb : ∀ (j : Nat) (u : σ) (q : List Nat) (d : Nat), ws[j]? = some (u, q) → Ahead at_ door j d → ¬ bad u d) {u : σ} {q : List Nat} (hu : ws[at_]? = some (u, q)) (hbu : bad u door) :
    Least (fun p => ∃ p' d v, p = p' ++ [d] ∧ runS st s0 p' = some v ∧ bad v d) (q ++ [door]) := by
  refine ⟨⟨q, door, u, rfl, h.run at_ u q hu, hbu⟩, ?_⟩
  rintro p ⟨p', d, v, rfl, e1, e2⟩
  have cmp : ∀ {j : Nat} {x : σ} {q' : List Nat}, at_ ≤ j → ws[j]? = some (x, q') → sle q q' := fun {j x q'} hj ej => by
    rcases Nat.lt_or_ge at_ j with z | z
    · exact .inl (h.ord at_ j _ _ z hu ej).1
    · have : j = at_ := by omega
      subst this
      rw [hu] at ej; cases ej
      exact sle_rfl
  rcases h.reach p'.length p' v rfl e1 with ⟨i, q', e3, e4⟩ | ⟨j, x, q', q1, a1, a2, a3, a4⟩
  · have hna : ¬ Ahead at_ door i d := fun z => hb i v q' d e3 z e2
    rcases Nat.lt_trichotomy i at_ with z | z | z
    · exact absurd (.inl z) hna
    · subst z
      rw [hu] at e3; cases e3
      have hd : door ≤ d := by unfold Ahead at hna; omega
      rcases Nat.lt_or_ge door d with y | y
      · exact sle_tr (.inl (sl_snoc _ y)) (sle_app d e4)
      · have : d = door := by omega
        subst this
        exact sle_app d e4
    · exact .inl (sl_app _ _ (sl_sle (h.ord at_ i _ _ z hu e3).1 e4))
  · refine .inl (.inl ?_)
    have l1 := sle_len (sle_tr (cmp a1 a2) a3)
    simp; omega
end
end SW
namespace SW
open PySem L2

/-! searches in a web, level by level: rooms with the ways on which they were found -/
def stW (w : Wb) (r d : Nat) : Option Nat := (aT w r d).map (·.1)
theorem stW_some {w : Wb} {r d s : Nat} : stW w r d = some s ↔ ∃ j, aT w r d = some (s, j) := by
  unfold stW
  constructor
  · intro h
    obtain ⟨e, h1, rfl⟩ := Option.map_eq_some_iff.mp h
    exact ⟨e.2, h1⟩
  · rintro ⟨j, h⟩
    rw [h]; rfl
abbrev Wys := List (Nat × List Nat)
def kvW (f : List Nat → D) (ws : Wys) : List (Key × D) := ws.map fun x => (kN x.1, f x.2)
def rmD (ws : Wys) : List D := ws.map fun x => nD x.1
theorem Bfs.nd {st : Nat → Nat → Option Nat} {s0 : Nat} {ws : Wys} {a d : Nat} (h : Bfs st s0 ws a d) : ∀ (i j : Nat) (x y : Nat × List Nat), i < j → ws[i]? = some x → ws[j]? = some y → x.1 ≠ y.1 := fun i j x y k e1 e2 => (h.ord i j x y k e1 e2).2
theorem Bfs.few {st : Nat → Nat → Option Nat} {s0 : Nat} {ws : Wys} {a d n : Nat} (h : Bfs st s0 ws a d) (hl : ∀ x ∈ ws, x.1 < n) : ws.length ≤ n := by
  have := nodup_le (n := n) (xs := ws.map (·.1)) ?_ ?_
  · simpa using this
  · rw [List.nodup_iff_pairwise_ne, List.pairwise_iff_getElem]
    intro i j hi hj hij
    rw [List.getElem_map, List.getElem_map]
    simp at hi hj
    exact h.nd i j _ _ hij (List.getElem?_eq_getElem hi) (List.getElem?_eq_getElem hj)
  · intro x hx
    obtain ⟨y, hy, rfl⟩ := List.mem_map.mp hx
    exact hl y hy
theorem rmD_app {ws : Wys} {v : Nat} {p : List Nat} : rmD (ws ++ [(v, p)]) = rmD ws ++ [nD v] := by simp [rmD]
/-- where a search stands in the store: the dict, the list of what's done next, of what's found -/
structure Lv (S0 S : Sto) (w : Wb) (s0 : Nat) (f : List Nat → D) (dl l : Nat) (ws : Wys) (a door : Nat) : Prop where
  dict : S[dl]? = some (.dK (kvW f ws))
  bfs : Bfs (stW w) s0 ws a door
  lt : ∀ x ∈ ws, x.1 < w.length
  len : S0.length ≤ S.length
  fr : ∀ n, n < S0.length → S[n]? = S0[n]?
structure LvI (S0 S : Sto) (w : Wb) (s0 : Nat) (f : List Nat → D) (dl l g : Nat) (ws0 more : Wys) (a i door : Nat) : Prop where
  at_ : Lv S0 S w s0 f dl l (ws0 ++ more) (a + i) door
  last : S[l]? = some (.lst (rmD (ws0.drop a)))
  next : S[g]? = some (.lst (rmD more))
  gl : g ≠ l
  dg : S0.length ≤ dl
  gg : S0.length ≤ g
theorem LvI.spot {S0 S : Sto} {w : Wb} {s0 dl l g a i door : Nat} {f : List Nat → D} {ws0 more : Wys} (h : LvI S0 S w s0 f dl l g ws0 more a i door) {x : Nat × List Nat} (hx : (ws0.drop a)[i]? = some x) : (ws0 ++ more)[a + i]? = some x := by
  rw [List.getElem?_drop] at hx
  rw [List.getElem?_append_left (List.getElem?_eq_some_iff.mp hx).1]
  exact hx
/-- a door to a room that was met -/
theorem LvI.old {S0 S : Sto} {w : Wb} {s0 dl l g a i door : Nat} {f : List Nat → D} {ws0 more : Wys} (h : LvI S0 S w s0 f dl l g ws0 more a i door) {u : Nat} {q : List Nat} (hx : (ws0.drop a)[i]? = some (u, q)) {e : End} (he : aT w u door = some e) (ho : ∃ (i : Nat) (p : List Nat), (ws0 ++ more)[i]? = some (e.1, p)) : LvI S0 S w s0 f dl l g ws0 more a i (door + 1) := by
  refine ⟨⟨h.at_.dict, h.at_.bfs.old (h.spot hx) fun v hv => ?_, h.at_.lt, h.at_.len, h.at_.fr⟩, h.last, h.next, h.gl, h.dg, h.gg⟩
  unfold stW at hv
  rw [he] at hv; cases hv
  exact ho
/-- a door to a new room -/
theorem LvI.new {S0 S : Sto} {w : Wb} {s0 dl l g a i door : Nat} {f : List Nat → D} {ws0 more : Wys} (h : LvI S0 S w s0 f dl l g ws0 more a i door) {u : Nat} {q : List Nat} (hx : (ws0.drop a)[i]? = some (u, q)) {e : End} (he : aT w u door = some e) (hel : e.1 < w.length) (hn : ∀ (i : Nat) (p : List Nat), (ws0 ++ more)[i]? ≠ some (e.1, p)) :
    LvI S0 ((S.set dl (.dK (kvW f (ws0 ++ more ++ [(e.1, q ++ [door])])))).set g (.lst (rmD more ++ [nD e.1]))) w s0 f dl l g ws0 (more ++ [(e.1, q ++ [door])]) a i (door + 1) := by
  have hd := h.at_.dict
  have hl := h.last
  have hg := h.next
  have n1 : dl ≠ g := fun z => by subst z; rw [hd] at hg; cases hg
  have n2 : dl ≠ l := fun z => by subst z; rw [hd] at hl; cases hl
  have n3 := h.gl
  have b := h.at_.bfs.new (h.spot hx) (v := e.1) (by unfold stW; rw [he]; rfl) hn
  rw [List.append_assoc] at b
  refine ⟨⟨?_, b, ?_, ?_, ?_⟩, ?_, ?_, n3, h.dg, h.gg⟩
  · rw [sto_ne (Ne.symm n1), sto_set hd, List.append_assoc]
  · intro x hx
    rw [← List.append_assoc] at hx
    rcases List.mem_append.mp hx with hx | hx
    · exact h.at_.lt x hx
    · simp at hx; subst hx; exact hel
  · simpa using h.at_.len
  · intro n hn
    rw [sto_ne (by have := h.gg; omega), sto_ne (by have := h.dg; omega)]
    exact h.at_.fr n hn
  · rw [sto_ne n3, sto_ne n2]; exact hl
  · rw [sto_set (p := .lst (rmD more)) (by rw [sto_ne n1]; exact hg), rmD_app]
end SW
namespace SW
open PySem L2

theorem Rch.run {w : Wb} {a b : Nat} (h : Rch w a b) : ∃ p, runS (stW w) a p = some b := by
  induction h with
  | refl => exact ⟨[], rfl⟩
  | step _ ad ih =>
    obtain ⟨p, hp⟩ := ih
    obtain ⟨i, j, h⟩ := ad
    refine ⟨p ++ [i], ?_⟩
    rw [runS_snoc, hp, Option.bind_some]
    exact stW_some.mpr ⟨j, h⟩
def wF (p : List Nat) : D := .tup (p.map nD)
/-! by the distances -/
/-- how far each room is from a goal -/
structure FarOk (w : Wb) (goal : Nat) (far : Nat → Nat) : Prop where
  zero : far goal = 0
  up : ∀ r d s j, aT w r d = some (s, j) → far r ≤ far s + 1
  down : ∀ r, r < w.length → r ≠ goal → ∃ d s j, aT w r d = some (s, j) ∧ far s < far r
def farOf (ws : Wys) (r : Nat) : Nat := match (ws.find? fun x => decide (x.1 = r)) with | some x => x.2.length | none => 0
theorem Bfs.find {st : Nat → Nat → Option Nat} {s0 a d : Nat} {ws : Wys} (B : Bfs st s0 ws a d) {i r : Nat} {p : List Nat} (h : ws[i]? = some (r, p)) : farOf ws r = p.length := by
  unfold farOf
  cases e : ws.find? fun x => decide (x.1 = r) with
  | none =>
    exfalso
    have := List.find?_eq_none.mp e (r, p) (List.mem_of_getElem? h)
    simp at this
  | some x =>
    have h1 := List.find?_some e
    simp at h1
    obtain ⟨j, hj⟩ := List.getElem?_of_mem (List.mem_of_find?_eq_some e)
    obtain ⟨x1, x2⟩ := x
    have h1 : x1 = r := h1
    subst h1
    rw [(B.same h hj).2]
theorem Bfs.far {w : Wb} {goal : Nat} {ws : Wys} (W : IsWeb w) (hg : goal < w.length) (B : Bfs (stW w) goal ws ws.length 0) (hl : ∀ x ∈ ws, x.1 < w.length) : FarOk w goal (farOf ws) ∧ ∀ r, r < w.length → ∃ (i : Nat) (p : List Nat), ws[i]? = some (r, p) := by
  have all : ∀ r, r < w.length → ∃ (i : Nat) (p : List Nat), ws[i]? = some (r, p) := fun r hr => by
    obtain ⟨p, hp⟩ := (W.rch hg hr).run
    obtain ⟨i, q, e, _⟩ := B.all (Nat.le_refl _) hp
    exact ⟨i, q, e⟩
  have hc := W.back.closed
  refine ⟨⟨?_, fun r d s j h => ?_, fun r hr hne => ?_⟩, all⟩
  · rw [B.find B.hd]; rfl
  · have hb := W.back r d s j h
    have hs := hc r d s j h
    obtain ⟨i, p, e⟩ := all s hs
    have hil := (List.getElem?_eq_some_iff.mp e).1
    obtain ⟨i', p', e', le⟩ := B.cov i s p j r e (.inl hil) (stW_some.mpr ⟨d, hb⟩)
    rw [B.find e, B.find e']
    have := sle_len le
    simpa using this
  · obtain ⟨i, p, e⟩ := all r hr
    have hi : 0 < i := by
      rcases Nat.eq_zero_or_pos i with rfl | z
      · rw [B.hd] at e; cases e; exact absurd rfl hne
      · exact z
    obtain ⟨j, u, q, d, e1, e2, e3, _⟩ := B.par i r p hi e
    obtain ⟨k, e4⟩ := stW_some.mp e2
    refine ⟨k, u, d, W.back u d r k e4, ?_⟩
    rw [B.find e, B.find e1, e3]; simp
/-- the doors that lead nearer, first ones: the least way -/
theorem FarOk.len {w : Wb} {goal : Nat} {far : Nat → Nat} (F : FarOk w goal far) : ∀ (p : List Nat) (r : Nat), runS (stW w) r p = some goal → far r ≤ p.length
  | [], r, h => by
    cases h
    rw [F.zero]; exact Nat.zero_le _
  | d :: p, r, h => by
    obtain ⟨s, h1, h2⟩ := Option.bind_eq_some_iff.mp h
    obtain ⟨j, h1⟩ := stW_some.mp h1
    have := F.len p s h2
    have := F.up r d s j h1
    simp; omega
theorem sle_cons {a b : Nat} {p q : List Nat} (h : a < b ∨ (a = b ∧ sle p q)) (hl : p.length = q.length) : sle (a :: p) (b :: q) := by
  rcases h with h | ⟨rfl, (h | h) | rfl⟩
  · exact .inl (.inr ⟨by simp [hl], .inl h⟩)
  · omega
  · exact .inl (.inr ⟨by simp [hl], .inr ⟨rfl, h.2⟩⟩)
  · exact sle_rfl
theorem FarOk.step {w : Wb} {goal : Nat} {far : Nat → Nat} (F : FarOk w goal far) {r d s j : Nat} {p : List Nat} (ha : aT w r d = some (s, j)) (hf : far s < far r) (hmin : ∀ d' s' j', d' < d → aT w r d' = some (s', j') → ¬ far s' < far r)
    (h : Least (fun p => runS (stW w) s p = some goal) p) (hp : p.length = far s) : Least (fun p => runS (stW w) r p = some goal) (d :: p) ∧ (d :: p).length = far r := by
  have hu := F.up r d s j ha
  have hl : (d :: p).length = far r := by simp; omega
  refine ⟨⟨?_, fun q hq => ?_⟩, hl⟩
  · show (stW w r d).bind _ = _
    rw [stW_some.mpr ⟨j, ha⟩, Option.bind_some]
    exact h.1
  · have hlen := F.len q r hq
    rcases Nat.lt_or_ge (far r) q.length with z | z
    · exact .inl (.inl (by omega))
    · cases q with
      | nil =>
        simp at hlen
        omega
      | cons d' q =>
        obtain ⟨s', h1, h2⟩ := Option.bind_eq_some_iff.mp hq
        obtain ⟨j', h1⟩ := stW_some.mp h1
        have hlq := F.len q s' h2
        simp at z
        have hlt : far s' < far r := by omega
        have hqp : p.length = q.length := by
          have := F.up r d' s' j' h1
          simp at hlen
          omega
        refine sle_cons ?_ hqp
        rcases Nat.lt_trichotomy d d' with y | y | y
        · exact .inl y
        · subst y
          rw [ha] at h1; cases h1
          exact .inr ⟨rfl, h.2 q h2⟩
        · exact absurd hlt (hmin d' s' j' y h1)
end SW
namespace SW
open PySem L2

/-! trees and their equality -/
mutual
def beqD : D → D → Bool
  | .non, .non => true
  | .bl a, .bl b => decide (a = b)
  | .int a, .int b => decide (a = b)
  | .str a, .str b => decide (a = b)
  | .tup a, .tup b => beqDs a b
  | .fl a, .fl b => beqDs a b
  | .loc a, .loc b => decide (a = b)
  | .ty a, .ty b => decide (a = b)
  | _, _ => false
def beqDs : List D → List D → Bool
  | [], [] => true
  | a :: as, b :: bs => beqD a b && beqDs as bs
  | _, _ => false
end
mutual
theorem beqD_rfl : ∀ a : D, beqD a a = true
  | .non => rfl
  | .bl _ => by simp [beqD]
  | .int _ => by simp [beqD]
  | .str _ => by simp [beqD]
  | .tup a => by simp only [beqD]; exact beqDs_rfl a
  | .fl a => by simp only [beqD]; exact beqDs_rfl a
  | .loc _ => by simp [beqD]
  | .ty _ => by simp [beqD]
theorem beqDs_rfl : ∀ a : List D, beqDs a a = true
  | [] => rfl
  | a :: as => by simp only [beqDs, beqD_rfl a, beqDs_rfl as, Bool.and_self]
end
mutual
theorem beqD_eq : ∀ a b : D, beqD a b = true → a = b
  | .non, b, h => by cases b <;> simp [beqD] at h; rfl
  | .bl _, b, h => by cases b <;> simp [beqD] at h; subst h; rfl
  | .int _, b, h => by cases b <;> simp [beqD] at h; subst h; rfl
  | .str _, b, h => by cases b <;> simp [beqD] at h; subst h; rfl
  | .tup a, b, h => by
    cases b <;> simp only [beqD, Bool.false_eq_true] at h
    rw [beqDs_eq a _ h]
  | .fl a, b, h => by
    cases b <;> simp only [beqD, Bool.false_eq_true] at h
    rw [beqDs_eq a _ h]
  | .loc _, b, h => by cases b <;> simp [beqD] at h; subst h; rfl
  | .ty _, b, h => by cases b <;> simp [beqD] at h; subst h; rfl
theorem beqDs_eq : ∀ a b : List D, beqDs a b = true → a = b
  | [], [], _ => rfl
  | [], _ :: _, h => by simp [beqDs] at h
  | _ :: _, [], h => by simp [beqDs] at h
  | a :: as, b :: bs, h => by
    simp only [beqDs, Bool.and_eq_true] at h
    rw [beqD_eq a b h.1, beqDs_eq as bs h.2]
end
instance : DecidableEq D := fun a b => if h : beqD a b = true then .isTrue (beqD_eq a b h) else .isFalse fun e => h (by rw [e]; exact beqD_rfl b)
mutual
/-- ground: nothing of the store, no truths, no texts -/
def gn : D → Bool
  | .non => true
  | .int _ => true
  | .str x => PyData.strOk x
  | .tup ds => gns ds
  | _ => false
def gns : List D → Bool
  | [] => true
  | d :: ds => gn d && gns ds
end
mutual
def toP : D → PyData
  | .int i => .int i
  | .str x => .str x
  | .bl b => .bool b
  | .tup ds => .tuple (toPs ds)
  | .fl ds => .list (toPs ds)
  | _ => .none
def toPs : List D → List PyData
  | [] => []
  | d :: ds => toP d :: toPs ds
end
mutual
def dp : D → Nat
  | .tup ds => dps ds + 1
  | _ => 0
def dps : List D → Nat
  | [] => 0
  | d :: ds => max (dp d) (dps ds)
end
mutual
theorem gn_py (g : Nat → Option PyData) : ∀ d : D, gn d = true → pyD g d = some (toP d)
  | .non, _ => rfl
  | .int _, _ => rfl
  | .str _, _ => rfl
  | .tup ds, h => by
    simp only [gn] at h
    simp only [pyD, gns_py g ds h, Option.map_some, toP]
  | .bl _, h => by simp [gn] at h
  | .fl _, h => by simp [gn] at h
  | .loc _, h => by simp [gn] at h
  | .ty _, h => by simp [gn] at h
theorem gns_py (g : Nat → Option PyData) : ∀ ds : List D, gns ds = true → pyDs g ds = some (toPs ds)
  | [], _ => rfl
  | d :: ds, h => by
    simp only [gns, Bool.and_eq_true] at h
    simp only [pyDs, gn_py g d h.1, gns_py g ds h.2, Option.bind_some, Option.map_some, toPs]
end
mutual
theorem gn_can : ∀ d : D, gn d = true → (toP d).canLay0 = true
  | .non, _ => rfl
  | .int _, _ => rfl
  | .str _, h => by simpa only [gn, toP, PyData.canLay0] using h
  | .tup ds, h => by
    simp only [gn] at h
    simp only [toP, PyData.canLay0, gns_can ds h]
  | .bl _, h => by simp [gn] at h
  | .fl _, h => by simp [gn] at h
  | .loc _, h => by simp [gn] at h
  | .ty _, h => by simp [gn] at h
theorem gns_can : ∀ ds : List D, gns ds = true → PyData.canLayAll0 (toPs ds) = true
  | [], _ => rfl
  | d :: ds, h => by
    simp only [gns, Bool.and_eq_true] at h
    simp only [toPs, PyData.canLayAll0, gn_can d h.1, gns_can ds h.2, Bool.and_self]
end
mutual
theorem gn_dep : ∀ d : D, gn d = true → (toP d).depth ≤ dp d
  | .non, _ => by simp [toP, dp, PyData.depth]
  | .int _, _ => by simp [toP, dp, PyData.depth]
  | .str _, _ => by simp [toP, dp, PyData.depth]
  | .tup ds, h => by
    simp only [gn] at h
    have := gns_dep ds h
    simp only [toP, dp, PyData.depth]
    omega
  | .bl _, h => by simp [gn] at h
  | .fl _, h => by simp [gn] at h
  | .loc _, h => by simp [gn] at h
  | .ty _, h => by simp [gn] at h
theorem gns_dep : ∀ ds : List D, gns ds = true → PyData.depthAll (toPs ds) ≤ dps ds
  | [], _ => by simp [toPs, dps, PyData.depthAll]
  | d :: ds, h => by
    simp only [gns, Bool.and_eq_true] at h
    have h1 := gn_dep d h.1
    have h2 := gns_dep ds h.2
    simp only [toPs, dps, PyData.depthAll]
    omega
end
mutual
theorem gn_eqv : ∀ a b : D, gn a = true → gn b = true → PyData.eqv (toP a) (toP b) = decide (a = b)
  | .non, b, _, hb => by cases b <;> simp [gn] at hb <;> simp [toP, PyData.eqv]
  | .int i, b, _, hb => by
    cases b <;> simp [gn] at hb <;> simp [toP, PyData.eqv]
    rename_i j
    by_cases e : i = j
    · subst e; simp
    · simp [e]
  | .str x, b, _, hb => by
    cases b <;> simp [gn] at hb <;> simp [toP, PyData.eqv]
    rename_i y
    by_cases e : x = y
    · subst e; simp
    · simp [e]
  | .tup a, b, ha, hb => by
    cases b <;> simp only [gn, Bool.false_eq_true] at ha hb
    · simp [toP, PyData.eqv]
    · simp [toP, PyData.eqv]
    · simp [toP, PyData.eqv]
    · simp only [toP, PyData.eqv, gns_eqv a _ ha hb, D.tup.injEq]
  | .bl _, _, h, _ => by simp [gn] at h
  | .fl _, _, h, _ => by simp [gn] at h
  | .loc _, _, h, _ => by simp [gn] at h
  | .ty _, _, h, _ => by simp [gn] at h
theorem gns_eqv : ∀ a b : List D, gns a = true → gns b = true → PyData.eqvAll (toPs a) (toPs b) = decide (a = b)
  | [], [], _, _ => rfl
  | [], _ :: _, _, _ => rfl
  | _ :: _, [], _, _ => rfl
  | a :: as, b :: bs, ha, hb => by
    simp only [gns, Bool.and_eq_true] at ha hb
    simp only [toPs, PyData.eqvAll, gn_eqv a b ha.1 hb.1, gns_eqv as bs ha.2 hb.2, List.cons.injEq]
    by_cases h1 : a = b <;> by_cases h2 : as = bs <;> simp [h1, h2]
end
/-- ground, not too deep -/
def gd (d : D) : Prop := gn d = true ∧ dp d ≤ 60
theorem gd_py {S : Sto} {d : D} (h : gd d) : pyOf S d = some (toP d) := by
  unfold pyOf
  rw [gn_py _ d h.1, Option.bind_some, if_pos]
  unfold SeqAt.shaped
  rw [Bool.and_eq_true]
  exact ⟨gn_can d h.1, decide_eq_true (by have := gn_dep d h.1; have := h.2; omega)⟩
theorem wq_eqG {a b : D} {S : Sto} {Q : D → Sto → Prop} (ha : gd a) (hb : gd b) : Wp (eqD a b S) Q ↔ Q (.bl (decide (a = b))) S := by
  have e : eqD a b S = some (.bl (decide (a = b)), S) := by
    unfold eqD
    rw [gd_py ha, gd_py hb]
    simp only [Option.bind_some, Option.map_some, gn_eqv a b ha.1 hb.1]
  rw [e]; exact wp_some
theorem wq_neG {a b : D} {S : Sto} {Q : D → Sto → Prop} (ha : gd a) (hb : gd b) : Wp (neD a b S) Q ↔ Q (.bl (!decide (a = b))) S := by
  have e : neD a b S = some (.bl (!decide (a = b)), S) := by
    unfold neD
    rw [gd_py ha, gd_py hb]
    simp only [Option.bind_some, Option.map_some, gn_eqv a b ha.1 hb.1]
  rw [e]; exact wp_some
theorem gns_all : ∀ {ds : List D}, (∀ d ∈ ds, gn d = true) → gns ds = true
  | [], _ => rfl
  | d :: ds, h => by
    simp only [gns, h d List.mem_cons_self, gns_all fun x hx => h x (List.mem_cons_of_mem _ hx), Bool.and_self]
theorem dps_all {k : Nat} : ∀ {ds : List D}, (∀ d ∈ ds, dp d ≤ k) → dps ds ≤ k
  | [], _ => by simp [dps]
  | d :: ds, h => by
    have h1 := h d List.mem_cons_self
    have h2 := dps_all fun x hx => h x (List.mem_cons_of_mem _ hx)
    simp only [dps]; omega
/-- ground, at most k deep -/
def gk (k : Nat) (d : D) : Prop := gn d = true ∧ dp d ≤ k
theorem gk.gd {k : Nat} {d : D} (h : gk k d) (hk : k ≤ 60 := by decide) : gd d := ⟨h.1, by have := h.2; omega⟩
theorem gk_non {k : Nat} : gk k .non := ⟨rfl, by simp [dp]⟩
theorem gk_int {k : Nat} {i : Int} : gk k (.int i) := ⟨rfl, by simp [dp]⟩
theorem gk_tup {k : Nat} {ds : List D} (h : ∀ d ∈ ds, gk k d) : gk (k + 1) (.tup ds) :=
  ⟨by simp only [gn]; exact gns_all fun d hd => (h d hd).1, by simp only [dp]; have := dps_all fun d hd => (h d hd).2; omega⟩
theorem gk_two {k : Nat} {a b : D} (ha : gk k a) (hb : gk k b) : gk (k + 1) (.tup [a, b]) := gk_tup fun d hd => by
  simp at hd
  rcases hd with rfl | rfl
  · exact ha
  · exact hb
theorem wq_neI {i j : Int} {S : Sto} {Q : D → Sto → Prop} : Wp (neD (.int i) (.int j) S) Q ↔ Q (.bl (!decide (i = j))) S := by
  rw [wq_neG (gk_int (k := 0)).gd (gk_int (k := 0)).gd]
  simp only [D.int.injEq]
theorem wq_eqI {i j : Int} {S : Sto} {Q : D → Sto → Prop} : Wp (eqD (.int i) (.int j) S) Q ↔ Q (.bl (decide (i = j))) S := by
  rw [wq_eqG (gk_int (k := 0)).gd (gk_int (k := 0)).gd]
  simp only [D.int.injEq]
end SW
namespace SW
open PySem L2
end SW
namespace SW
open PySem L2

/-! numbers by first comings -/
section
variable {α β : Type} [DecidableEq α] [DecidableEq β]
def addL (acc : List α) (x : α) : List α := if x ∈ acc then acc else acc ++ [x]
def seenL (L : List α) : List α := L.foldl addL []
def numL (L : List α) : List Nat := L.map fun x => (seenL L).idxOf x
theorem addL_mem {acc : List α} {x y : α} : y ∈ addL acc x ↔ y ∈ acc ∨ y = x := by
  unfold addL
  split
  · rename_i h
    constructor
    · exact .inl
    · rintro (h' | rfl)
      · exact h'
      · exact h
  · simp
theorem foldl_mem : ∀ (L acc : List α) (y : α), y ∈ L.foldl addL acc ↔ y ∈ acc ∨ y ∈ L
  | [], acc, y => by simp
  | x :: L, acc, y => by
    rw [List.foldl_cons, foldl_mem L, addL_mem, List.mem_cons]
    constructor
    · rintro ((h | h) | h)
      · exact .inl h
      · exact .inr (.inl h)
      · exact .inr (.inr h)
    · rintro (h | h | h)
      · exact .inl (.inl h)
      · exact .inl (.inr h)
      · exact .inr h
theorem seenL_mem {L : List α} {y : α} : y ∈ seenL L ↔ y ∈ L := by
  unfold seenL
  rw [foldl_mem]; simp
theorem addL_nd {acc : List α} {x : α} (h : acc.Nodup) : (addL acc x).Nodup := by
  unfold addL
  split
  · exact h
  · rename_i hx
    rw [List.nodup_append]
    refine ⟨h, by simp, fun a ha b hb e => ?_⟩
    simp at hb
    subst hb; subst e
    exact hx ha
theorem foldl_nd : ∀ (L acc : List α), acc.Nodup → (L.foldl addL acc).Nodup
  | [], _, h => h
  | x :: L, _, h => foldl_nd L _ (addL_nd h)
theorem seenL_nd (L : List α) : (seenL L).Nodup := foldl_nd L [] List.nodup_nil
theorem seenL_snoc (L : List α) (x : α) : seenL (L ++ [x]) = addL (seenL L) x := by
  unfold seenL
  rw [List.foldl_append]; rfl
theorem seenL_take {L : List α} {i : Nat} {x : α} (h : L[i]? = some x) : seenL (L.take (i + 1)) = addL (seenL (L.take i)) x := by
  rw [List.take_add_one, h]
  exact seenL_snoc _ _
theorem addL_len {acc : List α} {x : α} : (addL acc x).length ≤ acc.length + 1 := by
  unfold addL; split <;> simp
theorem seenL_len (L : List α) : (seenL L).length ≤ L.length := by
  have all : ∀ (L acc : List α), (L.foldl addL acc).length ≤ acc.length + L.length := by
    intro L
    induction L with
    | nil => simp
    | cons x L ih =>
      intro acc
      rw [List.foldl_cons, List.length_cons]
      have := ih (addL acc x)
      have := addL_len (acc := acc) (x := x)
      omega
  simpa [seenL] using all L []
/-- under a map that keeps unlike ones unlike -/
theorem foldl_map {f : α → β} (hf : ∀ a b, f a = f b → a = b) : ∀ (L acc : List α), (L.map f).foldl addL (acc.map f) = (L.foldl addL acc).map f
  | [], acc => rfl
  | x :: L, acc => by
    rw [List.map_cons, List.foldl_cons, List.foldl_cons]
    have : addL (acc.map f) (f x) = (addL acc x).map f := by
      unfold addL
      by_cases h : x ∈ acc
      · rw [if_pos h, if_pos (List.mem_map.mpr ⟨x, h, rfl⟩)]
      · rw [if_neg h, if_neg]
        · simp
        · intro hm
          obtain ⟨y, hy, e⟩ := List.mem_map.mp hm
          rw [hf _ _ e] at hy
          exact h hy
    rw [this, foldl_map hf L]
theorem idxOf_map {f : α → β} (hf : ∀ a b, f a = f b → a = b) (x : α) : ∀ L : List α, (L.map f).idxOf (f x) = L.idxOf x
  | [] => rfl
  | y :: L => by
    rw [List.map_cons, List.idxOf_cons, List.idxOf_cons, idxOf_map hf x L]
    by_cases h : y = x
    · subst h; simp
    · have : ¬ f y = f x := fun e => h (hf _ _ e)
      have h1 : (y == x) = false := by simpa using h
      have h2 : (f y == f x) = false := by simpa using this
      rw [h1, h2]
theorem numL_map {f : α → β} (hf : ∀ a b, f a = f b → a = b) (L : List α) : numL (L.map f) = numL L := by
  unfold numL seenL
  have := foldl_map hf L []
  rw [List.map_nil] at this
  rw [this, List.map_map]
  exact List.map_congr_left fun x _ => idxOf_map hf x _
theorem numL_len (L : List α) : (numL L).length = L.length := by simp [numL]
theorem numL_get {L : List α} {i : Nat} {x : α} (h : L[i]? = some x) : (numL L)[i]? = some ((seenL L).idxOf x) := by
  unfold numL
  rw [List.getElem?_map, h]; rfl
theorem idxOf_inj {L : List α} {x y : α} (hx : x ∈ L) (h : L.idxOf x = L.idxOf y) : x = y := by
  have h1 : L.idxOf x < L.length := List.idxOf_lt_length_iff.mpr hx
  have h2 : L.idxOf y < L.length := by omega
  have e1 := List.getElem_idxOf h1
  have e2 := List.getElem_idxOf h2
  simp only [h] at e1
  rw [← e1, e2]
/-- unlike ones have unlike numbers -/
theorem numL_eq {L : List α} {i j : Nat} {x y : α} (hi : L[i]? = some x) (hj : L[j]? = some y) : (numL L)[i]? = (numL L)[j]? ↔ x = y := by
  rw [numL_get hi, numL_get hj, Option.some.injEq]
  constructor
  · exact idxOf_inj (seenL_mem.mpr (List.mem_of_getElem? hi))
  · rintro rfl; rfl
end
section
variable {α : Type} [DecidableEq α]
end
end SW
namespace SW
open PySem L2
end SW
namespace SW
open PySem L2

/-! looks: a number and what is seen behind the doors -/
abbrev Look := Nat × List End
def kE2 (e : End) : NestedKey := .tup [.num e.1, .num e.2]
theorem nkT_end (e : End) : nkT (eD e) = some (kE2 e) := rfl
theorem kE2_inj (a b : End) (h : kE2 a = kE2 b) : a = b := by
  simp only [kE2, NestedKey.tup.injEq, List.cons.injEq, NestedKey.num.injEq, and_true] at h
  exact Prod.ext (by omega) (by omega)
/-! numbered_looks -/
section
variable {α : Type} [DecidableEq α] {enc : α → D} {mk : List α → MO}
end
/-! finer looks -/
def lookR (ns : List Nat) (r : Nat) (row : List End) : Look := (ns.getD r 0, row.map fun e => (e.2, ns.getD e.1 0))
def finer (w : Wb) (ns : List Nat) : List Look := w.zipIdx.map fun p => lookR ns p.2 p.1
theorem finer_get {w : Wb} {ns : List Nat} {r : Nat} {row : List End} (h : w[r]? = some row) : (finer w ns)[r]? = some (lookR ns r row) := by
  unfold finer
  rw [List.getElem?_map, List.getElem?_zipIdx, h]; simp
theorem finer_len (w : Wb) (ns : List Nat) : (finer w ns).length = w.length := by simp [finer]
/-! rounds -/
def rndF (w : Wb) (base : List Nat) : Nat → List Nat
  | 0 => base
  | n + 1 => numL (finer w (rndF w base n))
def rnd (w : Wb) : Nat → List Nat := rndF w (numL (w.map List.length))
theorem rndF_len {w : Wb} {base : List Nat} (hb : base.length = w.length) : ∀ n, (rndF w base n).length = w.length
  | 0 => hb
  | n + 1 => by unfold rndF; rw [numL_len, finer_len]
theorem rnd_len (w : Wb) (n : Nat) : (rnd w n).length = w.length := rndF_len (by rw [numL_len, List.length_map]) n
theorem rndF_stay {w : Wb} {base : List Nat} {n : Nat} (h : rndF w base (n + 1) = rndF w base n) : ∀ m, n ≤ m → rndF w base m = rndF w base n := by
  intro m
  induction m with
  | zero => intro hm; have : n = 0 := by omega
            subst this; rfl
  | succ m ih =>
    intro hm
    rcases Nat.lt_or_ge n (m + 1) with z | z
    · have := ih (by omega)
      show numL (finer w (rndF w base m)) = _
      rw [this]; exact h
    · have : n = m + 1 := by omega
      rw [this]
theorem ints_inj {l m : List Nat} (h : (l.map fun (n : Nat) => (n : Int)) = m.map fun (n : Nat) => (n : Int)) : l = m := by
  induction l generalizing m with
  | nil => cases m with | nil => rfl | cons _ _ => simp at h
  | cons a l ih =>
    cases m with
    | nil => simp at h
    | cons b m =>
      rw [List.map_cons, List.map_cons, List.cons.injEq] at h
      rw [ih h.2]
      congr 1
      have := h.1
      omega
end SW
namespace SW
open PySem L2

end SW
namespace SW
open PySem L2

/-! rooms by their numbers -/
def grp (ns : List Nat) (k : Nat) : List Nat := (List.range ns.length).filter fun r => decide (ns.getD r 0 = k)
/-- a list of lists of numbers, in the store -/
def Nest (S : Sto) (f : Nat) (xss : List (List Nat)) : Prop := ∃ ls : List Nat, S[f]? = some (.lst (ls.map D.loc)) ∧ ls.length = xss.length ∧ ∀ (j l : Nat) (xs : List Nat), ls[j]? = some l → xss[j]? = some xs → S[l]? = some (.lst (xs.map nD))
theorem Nest.of {S S' : Sto} {f : Nat} {xss : List (List Nat)} (h : Nest S f xss) (k : ∀ n, n < S.length → S'[n]? = S[n]?) : Nest S' f xss := by
  obtain ⟨ls, h1, h2, h3⟩ := h
  refine ⟨ls, (k f (sto_lt h1)).trans h1, h2, fun j l xs e1 e2 => ?_⟩
  have := h3 j l xs e1 e2
  exact (k l (sto_lt this)).trans this
end SW
namespace SW
open PySem L2

/-! comprehensions over enumerate(list), zip(list, list) -/
section
variable {g : D → Tau → Option Tau} {t : EvT} {f : EvE} {τ : Tau} {S : Sto} {Q : List D → Sto → Prop}
def Src.zz (m k la lb : Nat) : Src := ⟨min la lb, fun S i => (lsN (.loc m) la S).bind fun es => (lsN (.loc k) lb S).bind fun fs => (es[i]?).bind fun a => (fs[i]?).map fun b => .tup [a, b],
  fun S => (lsN (.loc m) la S).isSome && (lsN (.loc k) lb S).isSome⟩
theorem lc_zip (m k : Nat) (as bs : List D) (hab : as.length = bs.length) (hz : as.length ≤ 1000000) (I : Nat → List D → Sto → Prop) (h0 : I 0 [] S) (hl : ∀ i acc S, I i acc S → S[m]? = some (.lst as) ∧ S[k]? = some (.lst bs))
    (hs : ∀ i x y acc S, as[i]? = some x → bs[i]? = some y → I i acc S → ∃ τ1, g (.tup [x, y]) τ = some τ1 ∧ Wp (t τ1 S) fun v S1 => if v = true then Wp (f τ1 S1) fun y S2 => I (i + 1) (acc ++ [y]) S2 else I (i + 1) acc S1)
    (he : ∀ acc S, I as.length acc S → Q acc S) : ∃ s, srcZip (.loc m) (.loc k) S = some s ∧ Wp (lcL s g t f τ s.len 0 [] S) Q := by
  have lof : ∀ {S : Sto} {n : Nat} {ds : List D}, S[n]? = some (.lst ds) → lsOf (.loc n) S = some ds := fun h => by simp only [lsOf, h]
  obtain ⟨z1, z2⟩ := hl 0 [] S h0
  have hsz : srcZip (.loc m) (.loc k) S = some (.zz m k as.length bs.length) := by
    simp only [srcZip, lof z1, lof z2, Option.bind_some, Option.map_some]; rfl
  refine ⟨_, hsz, ?_⟩
  have hlen : (zipsT as bs).length = as.length := by rw [zipsT_len]; omega
  refine wp_lcL (.zz m k as.length bs.length) (zipsT as bs) g t f τ I (by omega) (fun i d acc S h hI => ?_) (fun acc S hI => ?_) (fun i d acc S h hI => ?_) (by rw [hlen]; exact he) _ 0 [] S ?_ (by simp) h0
  · obtain ⟨y1, y2⟩ := hl i acc S hI
    obtain ⟨a, b, h1, h2, rfl⟩ := zipsT_get _ _ _ _ h
    simp only [Src.zz, lsN_of y1, lsN_of y2, Option.bind_some, h1, h2, Option.map_some]
  · obtain ⟨y1, y2⟩ := hl _ acc S hI
    simp only [Src.zz, lsN_of y1, lsN_of y2]; rfl
  · obtain ⟨a, b, h1, h2, rfl⟩ := zipsT_get _ _ _ _ h
    exact hs i a b acc S h1 h2 hI
  · simp only [Src.zz]; omega
end
/-! the same, in lists and tuples -/
def Sm (S : Sto) : Nat → D → D → Prop
  | 0, a, b => ∃ i : Int, a = .int i ∧ b = .int i
  | n + 1, a, b => (∃ i : Int, a = .int i ∧ b = .int i) ∨ (∃ (m k : Nat) (as bs : List D), a = .loc m ∧ b = .loc k ∧ S[m]? = some (.lst as) ∧ S[k]? = some (.lst bs) ∧ as.length = bs.length ∧ as.length ≤ 1000 ∧ ∀ (i : Nat) (x y : D), as[i]? = some x → bs[i]? = some y → Sm S n x y)
theorem Sm.of {S S' : Sto} (f : ∀ n, n < S.length → S'[n]? = S[n]?) : ∀ (n : Nat) (a b : D), Sm S n a b → Sm S' n a b
  | 0, _, _, h => h
  | n + 1, _, _, h => by
    rcases h with h | ⟨m, k, as, bs, h1, h2, h3, h4, h5, h6, h7⟩
    · exact .inl h
    · exact .inr ⟨m, k, as, bs, h1, h2, (f m (sto_lt h3)).trans h3, (f k (sto_lt h4)).trans h4, h5, h6, fun i x y e1 e2 => Sm.of f n x y (h7 i x y e1 e2)⟩
section
variable {S : Sto} {Q : D → Sto → Prop} {n : Nat} {ds : List D}
theorem isi_Llt (h : S[n]? = some (.lst ds)) : Wp (isiD [.loc n, .tup [.ty "list", .ty "tuple"]] S) Q ↔ Q (.bl true) S := by
  have e : isiD [.loc n, .tup [.ty "list", .ty "tuple"]] S = some (.bl true, S) := by
    simp only [isiD, tyName, h]; rfl
  rw [e]; exact wp_some
theorem isi_Ll (h : S[n]? = some (.lst ds)) : Wp (isiD [.loc n, .ty "list"] S) Q ↔ Q (.bl true) S := by
  have e : isiD [.loc n, .ty "list"] S = some (.bl true, S) := by
    simp only [isiD, tyName, h]; rfl
  rw [e]; exact wp_some
end
def look0 (marks : List Nat) (r : Nat) (row : List End) : End := (row.length, if r ∈ marks then 1 else 0)
def looks0 (w : Wb) (marks : List Nat) : List End := w.zipIdx.map fun p => look0 marks p.2 p.1
theorem looks0_get {w : Wb} {marks : List Nat} {r : Nat} {row : List End} (h : w[r]? = some row) : (looks0 w marks)[r]? = some (look0 marks r row) := by
  unfold looks0
  rw [List.getElem?_map, List.getElem?_zipIdx, h]; simp
theorem looks0_len (w : Wb) (marks : List Nat) : (looks0 w marks).length = w.length := by simp [looks0]
def rndM (w : Wb) (marks : List Nat) : Nat → List Nat := rndF w (numL (looks0 w marks))
theorem rndM_nil (w : Wb) (n : Nat) : rndM w [] n = rnd w n := by
  unfold rndM rnd
  congr 1
  have : looks0 w [] = (w.map List.length).map fun n => ((n, 0) : End) := by
    refine List.ext_getElem? fun r => ?_
    rw [List.map_map, List.getElem?_map]
    cases h : w[r]? with
    | none =>
      have : w.length ≤ r := List.getElem?_eq_none_iff.mp h
      rw [Option.map_none, List.getElem?_eq_none_iff, looks0_len]; exact this
    | some row => rw [looks0_get h]; simp [look0]
  rw [this]
  exact numL_map (fun a b h => by cases h; rfl) _
end SW
namespace SW
open PySem L2

end SW
namespace SW
open PySem L2

end SW
namespace SW

/-! ways that part two rooms; marks: rooms in which something lies -/
def parts (w1 w2 : Wb) (m1 m2 : Nat → Bool) : Nat → Nat → List Nat → Prop
  | r, s, [] => (rowD w1 r).length ≠ (rowD w2 s).length ∨ m1 r ≠ m2 s
  | r, s, d :: p => ((rowD w1 r).length ≠ (rowD w2 s).length ∨ m1 r ≠ m2 s) ∨ ∃ e e' : End, (rowD w1 r)[d]? = some e ∧ (rowD w2 s)[d]? = some e' ∧ (e.2 ≠ e'.2 ∨ parts w1 w2 m1 m2 e.1 e'.1 p)
theorem parts_symm {w1 w2 : Wb} {m1 m2 : Nat → Bool} : ∀ {p : List Nat} {r s : Nat}, parts w1 w2 m1 m2 r s p → parts w2 w1 m2 m1 s r p
  | [], r, s, h => h.imp Ne.symm Ne.symm
  | d :: p, r, s, h => by
    rcases h with h | ⟨e, e', h1, h2, h3⟩
    · exact .inl (h.imp Ne.symm Ne.symm)
    · exact .inr ⟨e', e, h2, h1, h3.imp Ne.symm parts_symm⟩
theorem parts_self {w : Wb} {m : Nat → Bool} : ∀ {p : List Nat} {r : Nat}, ¬ parts w w m m r r p
  | [], r, h => h.elim (fun z => z rfl) fun z => z rfl
  | d :: p, r, h => by
    rcases h with h | ⟨e, e', h1, h2, h3⟩
    · exact h.elim (fun z => z rfl) fun z => z rfl
    · rw [h1] at h2; cases h2
      exact h3.elim (fun z => z rfl) parts_self
theorem rowD_at {w : Wb} {r d : Nat} {e : End} : (rowD w r)[d]? = some e ↔ aT w r d = some e := by
  unfold rowD aT
  cases w[r]? <;> simp
/-! rooms with one number -/
section
variable (w : Wb) (base : List Nat)
def num (n x : Nat) : Nat := (rndF w base n).getD x 0
def lkF (n : Nat) (e : End) : End := (e.2, num w base n e.1)
end
section
variable {w : Wb} {base : List Nat} {mk : Nat → Bool}
theorem num_at (hb : base.length = w.length) {n x : Nat} (hx : x < w.length) : (rndF w base n)[x]? = some (num w base n x) := by
  unfold num
  rw [List.getD_eq_getElem?_getD, List.getElem?_eq_getElem (by rw [rndF_len hb]; exact hx)]
  simp
theorem row_at {x : Nat} (hx : x < w.length) : w[x]? = some (rowD w x) := by
  unfold rowD
  rw [List.getElem?_eq_getElem hx]; rfl
theorem num_succ (hb : base.length = w.length) {n x y : Nat} (hx : x < w.length) (hy : y < w.length) : num w base (n + 1) x = num w base (n + 1) y ↔ num w base n x = num w base n y ∧ (rowD w x).map (lkF w base n) = (rowD w y).map (lkF w base n) := by
  have h1 := num_at hb (n := n + 1) hx
  have h2 := num_at hb (n := n + 1) hy
  have h := numL_eq (finer_get (ns := rndF w base n) (row_at hx)) (finer_get (row_at hy))
  have e1 : (numL (finer w (rndF w base n)))[x]? = some (num w base (n + 1) x) := h1
  have e2 : (numL (finer w (rndF w base n)))[y]? = some (num w base (n + 1) y) := h2
  rw [e1, e2, Option.some.injEq] at h
  rw [h]
  unfold lookR
  rw [Prod.mk.injEq]; rfl
theorem num_mono (hb : base.length = w.length) {n m x y : Nat} (hx : x < w.length) (hy : y < w.length) (h : num w base n x = num w base n y) (hm : m ≤ n) : num w base m x = num w base m y := by
  induction n with
  | zero =>
    have : m = 0 := by omega
    subst this; exact h
  | succ n ih =>
    rcases Nat.lt_or_ge n m with z | z
    · have : m = n + 1 := by omega
      subst this; exact h
    · exact ih ((num_succ hb hx hy).mp h).1 z
theorem map_ends {f : End → End} {l m : List End} : l.map f = m.map f ↔ l.length = m.length ∧ ∀ (d : Nat) (e e' : End), l[d]? = some e → m[d]? = some e' → f e = f e' := by
  constructor
  · intro h
    refine ⟨by simpa using congrArg List.length h, fun d e e' h1 h2 => ?_⟩
    have := congrArg (fun z => z[d]?) h
    simp only [List.getElem?_map, h1, h2, Option.map_some, Option.some.injEq] at this
    exact this
  · rintro ⟨hl, h⟩
    refine List.ext_getElem? fun d => ?_
    rw [List.getElem?_map, List.getElem?_map]
    cases h1 : l[d]? with
    | none =>
      have : m[d]? = none := List.getElem?_eq_none_iff.mpr (by rw [← hl]; exact List.getElem?_eq_none_iff.mp h1)
      rw [this]
    | some e =>
      have hd : d < m.length := by rw [← hl]; exact (List.getElem?_eq_some_iff.mp h1).1
      rw [List.getElem?_eq_getElem hd, Option.map_some, Option.map_some, h d e _ h1 (List.getElem?_eq_getElem hd)]
/-- what the first numbers tell -/
def Base (w : Wb) (base : List Nat) (mk : Nat → Bool) : Prop := base.length = w.length ∧ ∀ x y, x < w.length → y < w.length → (num w base 0 x = num w base 0 y ↔ (rowD w x).length = (rowD w y).length ∧ mk x = mk y)
theorem no_parts (hc : Closed w) (B : Base w base mk) : ∀ {p : List Nat} {n x y : Nat}, x < w.length → y < w.length → num w base n x = num w base n y → p.length ≤ n → ¬ parts w w mk mk x y p
  | [], n, x, y, hx, hy, h, _, hp => by
    have h0 := num_mono B.1 hx hy h (Nat.zero_le n)
    obtain ⟨h1, h2⟩ := (B.2 x y hx hy).mp h0
    exact hp.elim (fun z => z h1) fun z => z h2
  | d :: p, n, x, y, hx, hy, h, hl, hp => by
    have h0 := num_mono B.1 hx hy h (Nat.zero_le n)
    obtain ⟨h1, h2⟩ := (B.2 x y hx hy).mp h0
    rcases hp with hp | ⟨e, e', a1, a2, a3⟩
    · exact hp.elim (fun z => z h1) fun z => z h2
    · cases n with
      | zero => simp at hl
      | succ n =>
        obtain ⟨_, hr⟩ := (num_succ B.1 hx hy).mp h
        have := (map_ends.mp hr).2 d e e' a1 a2
        unfold lkF at this
        simp only [Prod.mk.injEq] at this
        rcases a3 with a3 | a3
        · exact a3 this.1
        · exact no_parts hc B (hc _ _ _ _ (rowD_at.mp a1)) (hc _ _ _ _ (rowD_at.mp a2)) this.2 (by simpa using hl) a3
/-- the first door behind which the numbers of the round ahead are unlike -/
def FirstDoor (w : Wb) (base : List Nat) (n x y d : Nat) : Prop := (∃ (e e' : End), (rowD w x)[d]? = some e ∧ (rowD w y)[d]? = some e' ∧ lkF w base n e ≠ lkF w base n e') ∧ ∀ d' : Nat, d' < d → ∀ e e' : End, (rowD w x)[d']? = some e → (rowD w y)[d']? = some e' → lkF w base n e = lkF w base n e'
/-- the way by the first doors -/
inductive Greedy (w : Wb) (base : List Nat) : Nat → Nat → Nat → List Nat → Prop
  | nil {x y : Nat} : Greedy w base 0 x y []
  | cons {n x y d : Nat} {e e' : End} {p : List Nat} : FirstDoor w base n x y d → (rowD w x)[d]? = some e → (rowD w y)[d]? = some e' → Greedy w base n e.1 e'.1 p → Greedy w base (n + 1) x y (d :: p)
/-- n is the first round that tells x and y apart -/
def Apart (w : Wb) (base : List Nat) (n x y : Nat) : Prop := num w base n x ≠ num w base n y ∧ ∀ m, m < n → num w base m x = num w base m y
theorem first_door (B : Base w base mk) {n x y : Nat} (hx : x < w.length) (hy : y < w.length) (A : Apart w base (n + 1) x y) : ∃ d, FirstDoor w base n x y d := by
  have h1 : num w base n x = num w base n y := A.2 n (Nat.lt_succ_self n)
  have hlen : (rowD w x).length = (rowD w y).length := ((B.2 x y hx hy).mp (num_mono B.1 hx hy h1 (Nat.zero_le n))).1
  have h2 : ¬ (rowD w x).map (lkF w base n) = (rowD w y).map (lkF w base n) := fun z => A.1 ((num_succ B.1 hx hy).mpr ⟨h1, z⟩)
  rw [map_ends] at h2
  have h3 : ∃ (d : Nat) (e e' : End), (rowD w x)[d]? = some e ∧ (rowD w y)[d]? = some e' ∧ lkF w base n e ≠ lkF w base n e' := by
    apply Classical.byContradiction
    intro z
    exact h2 ⟨hlen, fun d e e' a1 a2 => Classical.byContradiction fun b => z ⟨d, e, e', a1, a2, b⟩⟩
  obtain ⟨d, h3⟩ := h3
  have least : ∀ d : Nat, (∃ (e e' : End), (rowD w x)[d]? = some e ∧ (rowD w y)[d]? = some e' ∧ lkF w base n e ≠ lkF w base n e') → ∃ d, FirstDoor w base n x y d := by
    intro d
    induction d using Nat.strongRecOn with
    | ind d ih =>
      intro h
      by_cases z : ∃ d' : Nat, d' < d ∧ ∃ (e e' : End), (rowD w x)[d']? = some e ∧ (rowD w y)[d']? = some e' ∧ lkF w base n e ≠ lkF w base n e'
      · obtain ⟨d', hd', h'⟩ := z
        exact ih d' hd' h'
      · exact ⟨d, h, fun d' hd' e e' a1 a2 => Classical.byContradiction fun b => z ⟨d', hd', e, e', a1, a2, b⟩⟩
  exact least d h3
theorem apart_next (B : Base w base mk) {n x y d : Nat} {e e' : End} (hx : x < w.length) (hy : y < w.length) (A : Apart w base (n + 2) x y) (F : FirstDoor w base (n + 1) x y d) (h1 : (rowD w x)[d]? = some e) (h2 : (rowD w y)[d]? = some e') : e.2 = e'.2 ∧ Apart w base (n + 1) e.1 e'.1 := by
  have back : ∀ m, m < n + 1 → e.2 = e'.2 ∧ num w base m e.1 = num w base m e'.1 := fun m hm => by
    have := A.2 (m + 1) (by omega)
    obtain ⟨_, hr⟩ := (num_succ B.1 hx hy).mp this
    have := (map_ends.mp hr).2 d e e' h1 h2
    unfold lkF at this
    simpa only [Prod.mk.injEq] using this
  refine ⟨(back 0 (by omega)).1, fun z => ?_, fun m hm => (back m hm).2⟩
  obtain ⟨⟨f, f', a1, a2, a3⟩, _⟩ := F
  rw [h1] at a1; cases a1
  rw [h2] at a2; cases a2
  exact a3 (by unfold lkF; rw [(back 0 (by omega)).1, z])
theorem greedy_least (hc : Closed w) (B : Base w base mk) : ∀ {n x y : Nat} {p : List Nat}, x < w.length → y < w.length → Apart w base n x y → Greedy w base n x y p → Least (parts w w mk mk x y) p ∧ p.length = n
  | 0, x, y, _, hx, hy, A, .nil => by
    refine ⟨⟨?_, fun q _ => ?_⟩, rfl⟩
    · have := A.1
      apply Classical.byContradiction
      intro z
      have z : ¬ ((rowD w x).length ≠ (rowD w y).length ∨ mk x ≠ mk y) := z
      refine this ((B.2 x y hx hy).mpr ⟨Classical.byContradiction fun b => z (.inl b), Classical.byContradiction fun b => z (.inr b)⟩)
    · cases q with
      | nil => exact sle_rfl
      | cons a q => exact .inl (.inl (by simp))
  | n + 1, x, y, _, hx, hy, A, .cons (d := d) (e := e) (e' := e') (p := p) F h1 h2 G => by
    have hel := hc _ _ _ _ (rowD_at.mp h1)
    have hel' := hc _ _ _ _ (rowD_at.mp h2)
    have hfar : ∀ q, parts w w mk mk x y q → n + 1 ≤ q.length := fun q hq => by
      apply Classical.byContradiction
      intro z
      exact no_parts hc B hx hy (A.2 n (Nat.lt_succ_self n)) (by omega) hq
    have hdiff : lkF w base n e ≠ lkF w base n e' := by
      obtain ⟨⟨f, f', a1, a2, a3⟩, _⟩ := F
      rw [h1] at a1; cases a1
      rw [h2] at a2; cases a2
      exact a3
    have late : ∀ d' q, parts w w mk mk x y (d' :: q) → q.length = n → d ≤ d' := fun d' q hq hl => by
      rcases Nat.lt_or_ge d' d with z | z
      · exfalso
        have h0 := A.2 0 (by omega)
        obtain ⟨c1, c2⟩ := (B.2 x y hx hy).mp h0
        rcases hq with hq | ⟨f, f', a1, a2, a3⟩
        · exact hq.elim (fun z => z c1) fun z => z c2
        · have := F.2 d' z f f' a1 a2
          unfold lkF at this
          simp only [Prod.mk.injEq] at this
          rcases a3 with a3 | a3
          · exact a3 this.1
          · exact no_parts hc B (hc _ _ _ _ (rowD_at.mp a1)) (hc _ _ _ _ (rowD_at.mp a2)) this.2 (by omega) a3
      · exact z
    cases n with
    | zero =>
      cases G
      refine ⟨⟨?_, fun q hq => ?_⟩, rfl⟩
      · refine .inr ⟨e, e', h1, h2, ?_⟩
        by_cases z : e.2 = e'.2
        · refine .inr ?_
          have h3 : num w base 0 e.1 ≠ num w base 0 e'.1 := fun b => hdiff (by unfold lkF; rw [z, b])
          apply Classical.byContradiction
          intro b
          have b : ¬ ((rowD w e.1).length ≠ (rowD w e'.1).length ∨ mk e.1 ≠ mk e'.1) := b
          exact h3 ((B.2 _ _ hel hel').mpr ⟨Classical.byContradiction fun c => b (.inl c), Classical.byContradiction fun c => b (.inr c)⟩)
        · exact .inl z
      · have hq1 := hfar q hq
        cases q with
        | nil => simp at hq1
        | cons d' q =>
          cases q with
          | nil =>
            have := late d' [] hq rfl
            rcases Nat.lt_or_ge d d' with z | z
            · exact .inl (.inr ⟨rfl, .inl z⟩)
            · have : d = d' := by omega
              subst this; exact sle_rfl
          | cons d'' q => exact .inl (.inl (by simp))
    | succ n =>
      obtain ⟨hsame, A'⟩ := apart_next B hx hy A F h1 h2
      obtain ⟨L, hpl⟩ := greedy_least hc B hel hel' A' G
      refine ⟨⟨.inr ⟨e, e', h1, h2, .inr L.1⟩, fun q hq => ?_⟩, by simp [hpl]⟩
      have hq1 := hfar q hq
      rcases Nat.lt_or_ge (n + 1 + 1) q.length with z | z
      · exact .inl (.inl (by simp [hpl]; omega))
      · cases q with
        | nil => simp at hq1
        | cons d' q =>
          have hql : q.length = n + 1 := by simp at hq1 z; omega
          have := late d' q hq hql
          rcases Nat.lt_or_ge d d' with y | y
          · exact .inl (.inr ⟨by simp [hpl, hql], .inl y⟩)
          · have : d = d' := by omega
            subst this
            have h0 := A.2 0 (by omega)
            obtain ⟨c1, c2⟩ := (B.2 x _ hx hy).mp h0
            rcases hq with hq | ⟨f, f', a1, a2, a3⟩
            · exact (hq.elim (fun z => z c1) fun z => z c2).elim
            · rw [h1] at a1; cases a1
              rw [h2] at a2; cases a2
              rcases a3 with a3 | a3
              · exact absurd hsame a3
              · rcases L.2 q a3 with (l | l) | l
                · omega
                · exact .inl (.inr ⟨by simp [hpl, hql], .inr ⟨rfl, l.2⟩⟩)
                · rw [l]; exact sle_rfl
end
end SW
namespace SW

theorem nodup_sub {α : Type} [DecidableEq α] : ∀ (L M : List α), L.Nodup → (∀ x ∈ L, x ∈ M) → L.length ≤ M.length
  | [], M, _, _ => Nat.zero_le _
  | a :: L, M, hn, hs => by
    rw [List.nodup_cons] at hn
    have ha : a ∈ M := hs a List.mem_cons_self
    have ih := nodup_sub L (M.erase a) hn.2 fun x hx => by
      have hne : x ≠ a := fun e => hn.1 (e ▸ hx)
      exact (List.mem_erase_of_ne hne).mpr (hs x (List.mem_cons_of_mem _ hx))
    have := List.length_erase_of_mem ha
    have := List.length_pos_of_mem ha
    simp; omega
theorem nodup_cover {α : Type} [DecidableEq α] : ∀ (M L : List α), L.Nodup → (∀ x ∈ L, x ∈ M) → M.length ≤ L.length → M.Nodup
  | [], _, _, _, _ => List.nodup_nil
  | a :: M, L, hn, hs, hl => by
    have hno : ¬ ∀ x ∈ L, x ∈ M := fun z => by
      have := nodup_sub L M hn z
      simp at hl; omega
    have hal : a ∈ L := by
      apply Classical.byContradiction
      intro z
      refine hno fun x hx => ?_
      rcases List.mem_cons.mp (hs x hx) with rfl | h
      · exact absurd hx z
      · exact h
    have ham : a ∉ M := fun z => hno fun x hx => by
      rcases List.mem_cons.mp (hs x hx) with rfl | h
      · exact z
      · exact h
    rw [List.nodup_cons]
    refine ⟨ham, nodup_cover M (L.erase a) (hn.erase a) (fun x hx => ?_) ?_⟩
    · have h1 := (hn.mem_erase_iff).mp hx
      rcases List.mem_cons.mp (hs x h1.2) with h | h
      · exact absurd h h1.1
      · exact h
    · rw [List.length_erase_of_mem hal]
      simp at hl; omega
theorem nodup_map_inj {α β : Type} {g : α → β} : ∀ {L : List α} {a b : α}, (L.map g).Nodup → a ∈ L → b ∈ L → g a = g b → a = b
  | [], _, _, _, h, _, _ => by simp at h
  | x :: L, a, b, hn, ha, hb, e => by
    rw [List.map_cons, List.nodup_cons] at hn
    rcases List.mem_cons.mp ha with ea | ha'
    · rcases List.mem_cons.mp hb with eb | hb'
      · rw [ea, eb]
      · exact absurd (List.mem_map.mpr ⟨b, hb', by rw [← ea]; exact e.symm⟩) hn.1
    · rcases List.mem_cons.mp hb with eb | hb'
      · exact absurd (List.mem_map.mpr ⟨a, ha', by rw [← eb]; exact e⟩) hn.1
      · exact nodup_map_inj hn.2 ha' hb' e
section
variable {A B : List Nat}
/-- B is finer than A -/
def Fine (A B : List Nat) : Prop := A.length = B.length ∧ ∀ x y, x < B.length → y < B.length → B.getD x 0 = B.getD y 0 → A.getD x 0 = A.getD y 0
def pick (A B : List Nat) (b : Nat) : Nat := A.getD (B.idxOf b) 0
theorem getD_get {L : List Nat} {x : Nat} (h : x < L.length) : L.getD x 0 = L[x] := by
  rw [List.getD_eq_getElem?_getD, List.getElem?_eq_getElem h]; rfl
theorem pick_at (F : Fine A B) {x : Nat} (h : x < B.length) : pick A B (B.getD x 0) = A.getD x 0 := by
  unfold pick
  have hm : B.getD x 0 ∈ B := by rw [getD_get h]; exact List.getElem_mem h
  have h1 : B.idxOf (B.getD x 0) < B.length := List.idxOf_lt_length_iff.mpr hm
  refine F.2 _ _ h1 h ?_
  rw [getD_get h1, List.getElem_idxOf h1]
theorem cover (F : Fine A B) : ∀ a ∈ seenL A, a ∈ (seenL B).map (pick A B) := by
  intro a ha
  rw [seenL_mem] at ha
  obtain ⟨x, hx, rfl⟩ := List.getElem_of_mem ha
  have hx' : x < B.length := by rw [← F.1]; exact hx
  refine List.mem_map.mpr ⟨B.getD x 0, seenL_mem.mpr (by rw [getD_get hx']; exact List.getElem_mem hx'), ?_⟩
  rw [pick_at F hx', getD_get hx]
theorem fine_eq (F : Fine A B) (h : (seenL B).length ≤ (seenL A).length) {x y : Nat} (hx : x < B.length) (hy : y < B.length) (e : A.getD x 0 = A.getD y 0) : B.getD x 0 = B.getD y 0 := by
  have hn := nodup_cover _ _ (seenL_nd A) (cover F) (by simpa using h)
  refine nodup_map_inj hn (seenL_mem.mpr (by rw [getD_get hx]; exact List.getElem_mem hx)) (seenL_mem.mpr (by rw [getD_get hy]; exact List.getElem_mem hy)) ?_
  rw [pick_at F hx, pick_at F hy, e]
end
section
variable {w : Wb} {base : List Nat} {mk : Nat → Bool}
theorem rnd_fine (hb : base.length = w.length) (n : Nat) : Fine (rndF w base n) (rndF w base (n + 1)) := by
  refine ⟨by rw [rndF_len hb, rndF_len hb], fun x y hx hy h => ?_⟩
  rw [rndF_len hb] at hx hy
  exact ((num_succ hb hx hy).mp h).1
/-- two rounds of one partition: all later ones are of it -/
theorem stay_on (hb : base.length = w.length) (hc : Closed w) {n : Nat} (h : ∀ x y, x < w.length → y < w.length → num w base n x = num w base n y → num w base (n + 1) x = num w base (n + 1) y) : ∀ k x y, x < w.length → y < w.length → num w base n x = num w base n y → num w base (n + k) x = num w base (n + k) y := by
  intro k
  induction k with
  | zero => exact fun x y _ _ e => e
  | succ k ih =>
    intro x y hx hy e
    refine (num_succ hb hx hy).mpr ⟨ih x y hx hy e, ?_⟩
    obtain ⟨_, hr⟩ := (num_succ hb hx hy).mp (h x y hx hy e)
    rw [map_ends] at hr ⊢
    refine ⟨hr.1, fun d f f' a1 a2 => ?_⟩
    have := hr.2 d f f' a1 a2
    unfold lkF at this ⊢
    simp only [Prod.mk.injEq] at this ⊢
    exact ⟨this.1, ih _ _ (hc _ _ _ _ (rowD_at.mp a1)) (hc _ _ _ _ (rowD_at.mp a2)) this.2⟩
theorem stable (hb : base.length = w.length) (hc : Closed w) (hp : 0 < w.length) : ∃ n, n < w.length ∧ ∀ k x y, x < w.length → y < w.length → num w base n x = num w base n y → num w base (n + k) x = num w base (n + k) y := by
  have hex : ∃ n, n < w.length ∧ (seenL (rndF w base (n + 1))).length ≤ (seenL (rndF w base n)).length := by
    apply Classical.byContradiction
    intro z
    have grow : ∀ n, n ≤ w.length → n + 1 ≤ (seenL (rndF w base n)).length := by
      intro n
      induction n with
      | zero =>
        intro _
        have h0 : 0 < (rndF w base 0).length := by rw [rndF_len hb]; exact hp
        have : (rndF w base 0)[0] ∈ seenL (rndF w base 0) := seenL_mem.mpr (List.getElem_mem h0)
        exact List.length_pos_of_mem this
      | succ n ih =>
        intro hn
        have h1 := ih (by omega)
        have h2 : ¬ (seenL (rndF w base (n + 1))).length ≤ (seenL (rndF w base n)).length := fun b => z ⟨n, by omega, b⟩
        omega
    have := grow w.length (Nat.le_refl _)
    have h3 := seenL_len (rndF w base w.length)
    rw [rndF_len hb] at h3
    omega
  obtain ⟨n, hn, hle⟩ := hex
  refine ⟨n, hn, stay_on hb hc fun x y hx hy e => ?_⟩
  exact fine_eq (rnd_fine hb n) hle (by rw [rndF_len hb]; exact hx) (by rw [rndF_len hb]; exact hy) e
theorem greedy_ex (hc : Closed w) (B : Base w base mk) : ∀ {n x y : Nat}, x < w.length → y < w.length → Apart w base n x y → ∃ p, Greedy w base n x y p
  | 0, x, y, _, _, _ => ⟨[], .nil⟩
  | n + 1, x, y, hx, hy, A => by
    obtain ⟨d, F⟩ := first_door B hx hy A
    obtain ⟨⟨e, e', h1, h2, h3⟩, _⟩ := id F
    have hel := hc _ _ _ _ (rowD_at.mp h1)
    have hel' := hc _ _ _ _ (rowD_at.mp h2)
    cases n with
    | zero => exact ⟨[d], .cons F h1 h2 .nil⟩
    | succ n =>
      obtain ⟨_, A'⟩ := apart_next B hx hy A F h1 h2
      obtain ⟨p, G⟩ := greedy_ex hc B hel hel' A'
      exact ⟨d :: p, .cons F h1 h2 G⟩
theorem looks0_base (w : Wb) (marks : List Nat) : Base w (numL (looks0 w marks)) fun r => decide (r ∈ marks) := by
  have hb : (numL (looks0 w marks)).length = w.length := by rw [numL_len, looks0_len]
  refine ⟨hb, fun x y hx hy => ?_⟩
  have h1 := num_at hb (n := 0) hx
  have h2 := num_at hb (n := 0) hy
  have h := numL_eq (looks0_get (marks := marks) (row_at hx)) (looks0_get (marks := marks) (row_at hy))
  have e1 : (numL (looks0 w marks))[x]? = some (num w (numL (looks0 w marks)) 0 x) := h1
  have e2 : (numL (looks0 w marks))[y]? = some (num w (numL (looks0 w marks)) 0 y) := h2
  rw [e1, e2, Option.some.injEq] at h
  rw [h]
  unfold look0
  rw [Prod.mk.injEq]
  by_cases a : x ∈ marks <;> by_cases b : y ∈ marks <;> simp [a, b]
end
end SW
namespace SW
open PySem L2
end SW
namespace SW
open PySem L2

/-! pairs of rooms with ways -/
abbrev Wps := List (End × List Nat)
/-! steps of both at once, and what is seen unlike -/
def st2 (w1 w2 : Wb) (u : End) (d : Nat) : Option End := ((rowD w1 u.1)[d]?).bind fun e => ((rowD w2 u.2)[d]?).map fun e' => (e.1, e'.1)
def sightN (w : Wb) (m : Nat → Bool) (e : End) : Nat × Nat × Bool := (e.2, (rowD w e.1).length, m e.1)
def bad2 (w1 w2 : Wb) (m1 m2 : Nat → Bool) (u : End) (d : Nat) : Prop := ∃ e e' : End, (rowD w1 u.1)[d]? = some e ∧ (rowD w2 u.2)[d]? = some e' ∧ sightN w1 m1 e ≠ sightN w2 m2 e'
section
variable {w1 w2 : Wb} {m1 m2 : Nat → Bool}
/-- both rooms look alike -/
def Like2 (w1 w2 : Wb) (m1 m2 : Nat → Bool) (u : End) : Prop := (rowD w1 u.1).length = (rowD w2 u.2).length ∧ m1 u.1 = m2 u.2
end
def markS (s : Option Nat) (r : Nat) : Bool := decide (s = some r)
end SW
namespace SW
open PySem L2

structure PtOk (w1 w2 : Wb) (m1 m2 : Nat → Bool) (a b : Nat) (ws : Wps) (at_ door : Nat) : Prop where
  bfs : Bfs (st2 w1 w2) (a, b) ws at_ door
  lt : ∀ x ∈ ws, x.1.1 < w1.length ∧ x.1.2 < w2.length
  like : ∀ x ∈ ws, Like2 w1 w2 m1 m2 x.1
  good : ∀ (j : Nat) (u : End) (q : List Nat) (d : Nat), ws[j]? = some (u, q) → Ahead at_ door j d → ¬ bad2 w1 w2 m1 m2 u d
theorem PtOk.nd {w1 w2 : Wb} {m1 m2 : Nat → Bool} {a b at_ door : Nat} {ws : Wps} (h : PtOk w1 w2 m1 m2 a b ws at_ door) : ∀ (i j : Nat) (x y : End × List Nat), i < j → ws[i]? = some x → ws[j]? = some y → x.1 ≠ y.1 := fun i j x y k e1 e2 => (h.bfs.ord i j x y k e1 e2).2
theorem PtOk.few {w1 w2 : Wb} {m1 m2 : Nat → Bool} {a b at_ door : Nat} {ws : Wps} (h : PtOk w1 w2 m1 m2 a b ws at_ door) (h1 : w1.length ≤ 24) (h2 : w2.length ≤ 24) : ws.length ≤ 576 := by
  have := nodup_le (n := 576) (xs := ws.map fun x => x.1.1 * 24 + x.1.2) ?_ ?_
  · simpa using this
  · rw [List.nodup_iff_pairwise_ne, List.pairwise_iff_getElem]
    intro i j hi hj hij
    rw [List.getElem_map, List.getElem_map]
    simp at hi hj
    have hne := h.nd i j _ _ hij (List.getElem?_eq_getElem hi) (List.getElem?_eq_getElem hj)
    have l1 := h.lt _ (List.getElem_mem hi)
    have l2 := h.lt _ (List.getElem_mem hj)
    intro e
    exact hne (Prod.ext (by omega) (by omega))
  · intro x hx
    obtain ⟨y, hy, rfl⟩ := List.mem_map.mp hx
    have := h.lt y hy
    omega
section
variable (S0 : Sto) (w1 w2 : Wb) (s1 s2 : Option Nat) (a b : Nat)
end
end SW
namespace SW
open PySem L2

theorem src_W {w : Wb} {S : Sto} : srcOf (wD w) S = some (.fixed (w.map rD)) := rfl
theorem wq_neE {a b : End} {S : Sto} {Q : D → Sto → Prop} : Wp (neD (eD a) (eD b) S) Q ↔ Q (.bl (!decide (a = b))) S := by
  rw [wq_neG (a := eD a) (b := eD b) (gk_two (k := 0) gk_int gk_int).gd (gk_two (k := 0) gk_int gk_int).gd]
  have : decide (eD a = eD b) = decide (a = b) := by
    by_cases h : a = b
    · simp [h]
    · have : ¬ eD a = eD b := fun z => h (kE2_inj _ _ (by have := congrArg nkT z; rw [nkT_end, nkT_end] at this; exact Option.some.inj this))
      simp [h, this]
  rw [this]
section
variable (S0 : Sto) (w : Wb) (base : List Nat) (bl f : Nat) (r s : Nat)
end
end SW
namespace SW
open PySem L2

/-! lines with their doors turned -/
def fp (b i : Nat) : Nat := if b = 0 then i else 1 - i
end SW
namespace SW
open PySem L2

end SW
namespace SW
open PySem L2

theorem bls_mapI : ∀ bs : List Bool, blsOf (bs.map D.bl) = some bs
  | [] => rfl
  | b :: bs => by
    have := bls_mapI bs
    simp only [List.map_cons, blsOf, this]; rfl
end SW
namespace SW
open PySem L2

/-- what tells two rooms apart, if anything does -/
def Tells (w1 w2 : Wb) (m1 m2 : Nat → Bool) (a b : Nat) : Option (List Nat) → Prop
  | none => ∀ p, ¬ parts w1 w2 m1 m2 a b p
  | some p => Least (parts w1 w2 m1 m2 a b) p
theorem Tells.uniq {w1 w2 : Wb} {m1 m2 : Nat → Bool} {a b : Nat} {x y : Option (List Nat)} (h : Tells w1 w2 m1 m2 a b x) (g : Tells w1 w2 m1 m2 a b y) : x = y := by
  cases x with
  | none => cases y with
    | none => rfl
    | some q => exact absurd g.1 (h q)
  | some p => cases y with
    | none => exact absurd h.1 (g p)
    | some q => rw [Least.uniq (P := parts w1 w2 m1 m2 a b) h g]
theorem Tells.symm {w1 w2 : Wb} {m1 m2 : Nat → Bool} {a b : Nat} {x : Option (List Nat)} (h : Tells w1 w2 m1 m2 a b x) : Tells w2 w1 m2 m1 b a x := by
  cases x with
  | none => exact fun p hp => h p (parts_symm hp)
  | some p => exact Least.congr (P := parts w1 w2 m1 m2 a b) h fun q => ⟨parts_symm, parts_symm⟩
theorem Tells.self {w : Wb} {m : Nat → Bool} {a : Nat} : Tells w w m m a a none := fun p => parts_self
def ff : Nat → Bool := fun _ => false
end SW
namespace SW
open PySem L2

/-! with a stone in both first rooms: not parted just where told alike -/
section
variable {w1 w2 : Wb} {a b : Nat}
abbrev NP (w1 w2 : Wb) (a b r s : Nat) : Prop := ∀ p, ¬ parts w1 w2 (markS (some a)) (markS (some b)) r s p
theorem NP.len {r s : Nat} (h : NP w1 w2 a b r s) : (rowD w1 r).length = (rowD w2 s).length := Classical.byContradiction fun z => h [] (.inl z)
theorem NP.mark {r s : Nat} (h : NP w1 w2 a b r s) : r = a ↔ s = b := by
  have : markS (some a) r = markS (some b) s := Classical.byContradiction fun z => h [] (.inr z)
  unfold markS at this
  simp only [Option.some.injEq, decide_eq_decide] at this
  exact ⟨fun e => (this.mp e.symm).symm, fun e => (this.mpr e.symm).symm⟩
theorem NP.next {r s d : Nat} {e e' : End} (h : NP w1 w2 a b r s) (h1 : (rowD w1 r)[d]? = some e) (h2 : (rowD w2 s)[d]? = some e') : e.2 = e'.2 ∧ NP w1 w2 a b e.1 e'.1 := by
  refine ⟨Classical.byContradiction fun z => h [d] (.inr ⟨e, e', h1, h2, .inl z⟩), fun p hp => h (d :: p) (.inr ⟨e, e', h1, h2, .inr hp⟩)⟩
theorem NP.symm {r s : Nat} (h : NP w1 w2 a b r s) : NP w2 w1 b a s r := fun p hp => h p (parts_symm hp)
/-- both come to by one way -/
inductive Tw (w1 w2 : Wb) (a b : Nat) : Nat → Nat → Prop
  | base : Tw w1 w2 a b a b
  | step {r s d : Nat} {e e' : End} : Tw w1 w2 a b r s → (rowD w1 r)[d]? = some e → (rowD w2 s)[d]? = some e' → Tw w1 w2 a b e.1 e'.1
theorem Tw.symm {r s : Nat} (h : Tw w1 w2 a b r s) : Tw w2 w1 b a s r := by
  induction h with
  | base => exact .base
  | step _ h1 h2 ih => exact .step ih h2 h1
theorem Tw.np {r s : Nat} (H : NP w1 w2 a b a b) (h : Tw w1 w2 a b r s) : NP w1 w2 a b r s := by
  induction h with
  | base => exact H
  | step _ h1 h2 ih => exact (ih.next h1 h2).2
theorem row_back {w : Wb} (B : Back w) {r d : Nat} {e : End} (h : (rowD w r)[d]? = some e) : (rowD w e.1)[e.2]? = some (r, d) := rowD_at.mpr (B r d e.1 e.2 (rowD_at.mp h))
theorem Tw.uniq {r s : Nat} (B1 : Back w1) (B2 : Back w2) (H : NP w1 w2 a b a b) (h : Tw w1 w2 a b r s) : ∀ t, Tw w1 w2 a b r t → s = t := by
  induction h with
  | base => exact fun t g => ((g.np H).mark.mp rfl).symm
  | @step r s d e e' h0 h1 h2 ih =>
    intro t g
    have hb1 := row_back B1 h1
    have hb2 := row_back B2 h2
    have hj := ((h0.np H).next h1 h2).1
    have hlt : e.2 < (rowD w1 e.1).length := (List.getElem?_eq_some_iff.mp hb1).1
    have hf : (rowD w2 t)[e.2]? = some ((rowD w2 t)[e.2]'(by rw [← (g.np H).len]; exact hlt)) := List.getElem?_eq_getElem _
    generalize (rowD w2 t)[e.2]'(by rw [← (g.np H).len]; exact hlt) = f at hf
    have hfd := ((g.np H).next hb1 hf).1
    have g2 : Tw w1 w2 a b r f.1 := Tw.step g hb1 hf
    have := ih f.1 g2
    have hb3 := row_back B2 hf
    rw [← hfd, ← this] at hb3
    rw [hb3] at h2
    cases h2; rfl
theorem Tw.lt {r s : Nat} (c1 : Closed w1) (c2 : Closed w2) (ha : a < w1.length) (hb : b < w2.length) (h : Tw w1 w2 a b r s) : r < w1.length ∧ s < w2.length := by
  cases h with
  | base => exact ⟨ha, hb⟩
  | step _ h1 h2 => exact ⟨c1 _ _ _ _ (rowD_at.mp h1), c2 _ _ _ _ (rowD_at.mp h2)⟩
theorem Tw.all {r : Nat} (H : NP w1 w2 a b a b) (h : Rch w1 a r) : ∃ s, Tw w1 w2 a b r s := by
  induction h with
  | refl => exact ⟨b, .base⟩
  | step _ ad ih =>
    obtain ⟨s, hs⟩ := ih
    obtain ⟨i, j, h⟩ := ad
    have h1 := rowD_at.mpr h
    have hlt := (List.getElem?_eq_some_iff.mp h1).1
    rw [(hs.np H).len] at hlt
    exact ⟨_, .step hs h1 (List.getElem?_eq_getElem hlt)⟩
open Classical in
end
end SW
namespace SW
open PySem L2
end SW
namespace SW
open PySem L2

/-! _law_row_of of numbers and tuples -/
def rt : Nat → D → Bool
  | _, .int _ => true
  | n + 1, .tup ds => decide (ds.length ≤ 1000) && ds.all (rt n)
  | _, _ => false
end SW
namespace SW
open PySem L2

end SW
namespace SW
open PySem L2
end SW
namespace SW
open PySem L2

/-! pairs of rooms come to by the same ways -/
def sx (w1 w2 : Wb) (p : End) : List End := List.zipWith (fun e e' : End => (e.1, e'.1)) (rowD w1 p.1) (rowD w2 p.2)
theorem sx_mem {w1 w2 : Wb} {p v : End} : v ∈ sx w1 w2 p ↔ ∃ (d : Nat) (e e' : End), (rowD w1 p.1)[d]? = some e ∧ (rowD w2 p.2)[d]? = some e' ∧ v = (e.1, e'.1) := by
  unfold sx
  rw [List.mem_iff_getElem?]
  constructor
  · rintro ⟨d, h⟩
    rw [List.getElem?_zipWith] at h
    cases h1 : (rowD w1 p.1)[d]? with
    | none => rw [h1] at h; simp at h
    | some e =>
      cases h2 : (rowD w2 p.2)[d]? with
      | none => rw [h1, h2] at h; simp at h
      | some e' =>
        rw [h1, h2] at h
        exact ⟨d, e, e', h1, h2, by simpa using h.symm⟩
  · rintro ⟨d, e, e', h1, h2, rfl⟩
    refine ⟨d, ?_⟩
    rw [List.getElem?_zipWith, h1, h2]
abbrev TwP (w1 w2 : Wb) (a b : Nat) (p : End) : Prop := Tw w1 w2 a b p.1 p.2
theorem TwP.next {w1 w2 : Wb} {a b : Nat} {p v : End} (h : TwP w1 w2 a b p) (hv : v ∈ sx w1 w2 p) : TwP w1 w2 a b v := by
  obtain ⟨d, e, e', h1, h2, rfl⟩ := sx_mem.mp hv
  exact Tw.step (e := e) (e' := e') h h1 h2
theorem tw_few {w1 w2 : Wb} {a b : Nat} {ks : List End} (W1 : IsWeb w1) (W2 : IsWeb w2) (ha : a < w1.length) (hb : b < w2.length) (hn : ks.Nodup) (h : ∀ p ∈ ks, TwP w1 w2 a b p) : ks.length ≤ 576 := by
  have f1 := W1.few
  have f2 := W2.few
  have := nodup_le (n := 576) (xs := ks.map fun x => x.1 * 24 + x.2) ?_ ?_
  · simpa using this
  · rw [List.nodup_iff_pairwise_ne, List.pairwise_iff_getElem]
    intro i j hi hj hij
    rw [List.getElem_map, List.getElem_map]
    simp at hi hj
    have l1 := (h _ (List.getElem_mem hi)).lt W1.back.closed W2.back.closed ha hb
    have l2 := (h _ (List.getElem_mem hj)).lt W1.back.closed W2.back.closed ha hb
    have hne : ks[i] ≠ ks[j] := by
      rw [List.nodup_iff_pairwise_ne, List.pairwise_iff_getElem] at hn
      exact hn i j hi hj hij
    intro e
    exact hne (Prod.ext (by omega) (by omega))
  · intro x hx
    obtain ⟨y, hy, rfl⟩ := List.mem_map.mp hx
    have := (h y hy).lt W1.back.closed W2.back.closed ha hb
    omega
/-! sorted -/
def i2 (p : End) : Int × Int := ((p.1 : Int), (p.2 : Int))
/-- all pairs, rising -/
def Rise (w1 w2 : Wb) (a b : Nat) (L : List (Int × Int)) : Prop := ∃ ks : List End, ks.Nodup ∧ (∀ p, p ∈ ks ↔ TwP w1 w2 a b p) ∧ L = sortPL (ks.map i2)
theorem Rise.uniq {w1 w2 : Wb} {a b : Nat} {L M : List (Int × Int)} (h : Rise w1 w2 a b L) (g : Rise w1 w2 a b M) : L = M := by
  obtain ⟨ks, n1, m1, rfl⟩ := h
  obtain ⟨js, n2, m2, rfl⟩ := g
  have hp : ks.Perm js := (List.perm_ext_iff_of_nodup n1 n2).mpr fun p => (m1 p).trans (m2 p).symm
  exact lex_uniq ((sortPL_perm _).trans ((hp.map i2).trans (sortPL_perm _).symm)) (sortPL_pw _) (sortPL_pw _)
theorem Rise.len {w1 w2 : Wb} {a b : Nat} {L : List (Int × Int)} (W1 : IsWeb w1) (W2 : IsWeb w2) (ha : a < w1.length) (hb : b < w2.length) (h : Rise w1 w2 a b L) : L.length ≤ 576 := by
  obtain ⟨ks, n1, m1, rfl⟩ := h
  rw [(sortPL_perm _).length_eq, List.length_map]
  exact tw_few W1 W2 ha hb n1 fun p hp => (m1 p).mp hp
theorem wq_extend {n m : Nat} {ds es : List D} {S : Sto} {Q : D → Sto → Prop} (h : S[n]? = some (.lst ds)) (h2 : S[m]? = some (.lst es)) : Wp (extendM (.loc n) [.loc m] S) Q ↔ ds.length + es.length ≤ 10000000 ∧ Q .non (S.set n (.lst (ds ++ es))) := by
  unfold extendM lstAt
  simp only [h, h2, Option.map_some, Option.bind_some]
  constructor
  · intro q
    split at q
    · exact ⟨by assumption, wp_some.mp q⟩
    · exact (wp_none.mp q).elim
  · rintro ⟨h, q⟩
    rw [if_pos h]; exact wp_some.mpr q
theorem pyOf_EL {S : Sto} {n : Nat} {l : List End} (h : S[n]? = some (.lst (l.map eD))) : pyOf S (.loc n) = some (.list (l.map pyE)) := by
  have eE : ∀ (g : Nat → Option PyData) (a : End), pyD g (eD a) = some (pyE a) := fun g a => rfl
  have e : pyD (pyL S 4) (.loc n) = some (.list (l.map pyE)) := by
    show pyL S 4 n = _
    simp only [pyL, h, pyDs_map _ _ _ (eE _) l, Option.map_some]
  unfold pyOf
  rw [e, Option.bind_some, if_pos]
  unfold SeqAt.shaped
  rw [Bool.and_eq_true]
  refine ⟨by simp only [PyData.canLay0]; exact can_map pyE can_E l, decide_eq_true ?_⟩
  simp only [PyData.depth]
  have := dep_map pyE 1 dep_E l
  omega
end SW
namespace SW
open PySem L2

/-! pairing -/
section
variable (S0 : Sto) (w1 w2 : Wb) (a b : Nat)
structure PgO (cur : Option End) (ks wt : List End) : Prop where
  nd : ks.Nodup
  tw : ∀ p ∈ ks, TwP w1 w2 a b p
  hd : (a, b) ∈ ks
  wnd : wt.Nodup
  sub : ∀ p ∈ wt, p ∈ ks
  cl : ∀ p ∈ ks, p ∈ wt ∨ some p = cur ∨ ∀ v ∈ sx w1 w2 p, v ∈ ks
end
end SW
namespace SW
open PySem L2

theorem PgO.few {w1 w2 : Wb} {a b : Nat} {cur : Option End} {ks wt : List End} (h : PgO w1 w2 a b cur ks wt) (W1 : IsWeb w1) (W2 : IsWeb w2) (ha : a < w1.length) (hb : b < w2.length) : ks.length ≤ 576 ∧ wt.length ≤ 576 := by
  have h1 := tw_few W1 W2 ha hb h.nd h.tw
  have h2 := nodup_sub wt ks h.wnd h.sub
  omega
end SW
namespace SW
open PySem L2

/-! _law_pairs_from -/
section
variable (S0 : Sto) (w1 w2 : Wb) (a b : Nat)
end
end SW
namespace SW
open PySem L2
def b_is_count : EvS := (rtS (andE (aE isiD (consA (vE 0) (consA (cE (.ty "int")) nilA))) (andE (notE (aE isiD (consA (vE 0) (consA (cE (.ty "bool")) nilA)))) (chE leD ltD (cE (.int 0)) (vE 0) (vE 1)))))
def g_is_count : Fn := fnD 2 2 b_is_count
def b_is_end_in : EvS := (seqS (ifS (orT' (notT (tB (aE isiD (consA (vE 1) (consA (cE (.ty "tuple")) nilA))))) (orT' (tB (b2E neD (aE lenD (consA (vE 1) nilA)) (cE (.int 2)))) (notT (tB (aE g_is_count (consA (b2E sbD (vE 1) (cE (.int 0))) (consA (aE lenD (consA (vE 0) nilA)) nilA))))))) (rtS (cE (.bl false))) nxS)
  (rtS (aE g_is_count (consA (b2E sbD (vE 1) (cE (.int 1))) (consA (aE lenD (consA (b2E sbD (vE 0) (b2E sbD (vE 1) (cE (.int 0)))) nilA)) nilA)))))
def g_is_end_in : Fn := fnD 2 2 b_is_end_in
def b_are_told_ends : EvS := (seqS (forS (enI (b2E sbD (vE 0) (vE 1))) (.tp [(.nm 2), (.nm 3)]) (ifS (orT' (notT (tB (aE g_is_end_in (consA (vE 0) (consA (vE 3) nilA))))) (tB (b2E neD (b2E sbD (b2E sbD (vE 0) (b2E sbD (vE 3) (cE (.int 0)))) (b2E sbD (vE 3) (cE (.int 1)))) (aE tupD (consA (vE 1) (consA (vE 2) nilA)))))) (rtS (cE (.bl false))) nxS))
  (rtS (cE (.bl true))))
def g_are_told_ends : Fn := fnD 2 4 b_are_told_ends
def b_is_web : EvS := (seqS (ifS (orT' (notT (tB (aE isiD (consA (vE 0) (consA (cE (.ty "tuple")) nilA))))) (orT' (tB (b2E eqD (aE lenD (consA (vE 0) nilA)) (cE (.int 0)))) (notT (tB (aE allD (consA (lcE (sqI (vE 0)) (.nm 2) yesT (aE isiD (consA (vE 2) (consA (cE (.ty "tuple")) nilA))) [2]) nilA)))))) (rtS (cE (.bl false))) nxS)
  (seqS (ifS (notT (tB (aE allD (consA (lcE (rgI1 (aE lenD (consA (vE 0) nilA))) (.nm 1) yesT (aE g_are_told_ends (consA (vE 0) (consA (vE 1) nilA))) [1]) nilA)))) (rtS (cE (.bl false))) nxS)
  (rtS (b2E eqD (aE lenD (consA (aE g_rooms_met (consA (vE 0) (consA (cE (.int 0)) nilA))) nilA)) (aE lenD (consA (vE 0) nilA))))))
def g_is_web : Fn := fnD 1 3 b_is_web
end SW
namespace SW
open PySem L2

theorem metB_ok2 {inc : EvS} (hinc : ∀ (o0 o1 o2 o4 o5 : Option D) (k : Nat) (S : Sto) (Q : Out → Sto → Prop), Q (.nx [o0, o1, o2, some (nD (k + 1)), o4, o5]) S → Wp (inc [o0, o1, o2, some (nD k), o4, o5] S) Q)
    {S : Sto} {w : Wb} {a : Nat} {Q : D → Sto → Prop} (hc : Closed w) (ha : a < w.length) (hw : w.length ≤ 100)
    (q : ∀ S' : Sto, RcOk w a (metL w a).length (metL w a) → S'[S.length]? = some (.lst ((metL w a).map nD)) → S'.length = S.length + 1 → (∀ n, n < S.length → S'[n]? = S[n]?) → Q (.loc S.length) S') : Wp (fnD 2 6 (metB inc) [wD w, nD a] S) Q := by
  refine (wp_fnD (by rfl)).mpr ?_
  unfold metB
  (simp! only [])
  refine wp_while (MtI S w a) w.length (by omega) ⟨[a], 0, _, _, rfl, ⟨by simp, by simpa using ha, by simp; exact .refl, by simp, fun i _ _ hi => by omega⟩, by omega, rfl, sto_new, by simp, fun n hn => sto_app hn⟩ ?_
  rintro n τ S1 ⟨xs, k, o4, o5, rfl, R, hkn, hmet, hx, hl, hf⟩
  have hxl := nodup_le R.nd R.lt
  (simp! only [len_loc hx, List.length_map, nD])
  by_cases hk : k < xs.length
  · rw [if_pos (by omega)]
    have hr : xs[k]? = some xs[k] := List.getElem?_eq_getElem hk
    generalize xs[k] = r at hr
    have hrl := R.lt r (List.mem_of_getElem? hr)
    have hat : atI (xs.map nD) (k : Int) = some (nD r) := atI_of (by rw [List.getElem?_map, hr]; rfl)
    have hrow : w[r]? = some w[r] := List.getElem?_eq_getElem hrl
    generalize w[r] = x at hrow
    (simp! only [wq_sbL hx])
    refine ⟨_, hat, ?_⟩
    unfold nD
    rw [wq_row hrow]
    refine ⟨_, rfl, ?_⟩
    have hJ0 : MtJ S w a k r xs x 0 [some (wD w), some (nD a), some (.loc S.length), some (nD k), o4, o5] S1 := ⟨xs, _, _, rfl, R, hr, rfl, fun i' e h => by omega, hx, hl, hf⟩
    refine lo_fixed (x.map eD) (MtJ S w a k r xs x) hJ0 ?_ ?_
    · rintro i d τ S2 hd ⟨ys, o4, o5, rfl, R, hr, hys, hdn, hx, hl, hf⟩
      rw [List.getElem?_map] at hd
      obtain ⟨e, he, rfl⟩ := Option.map_eq_some_iff.mp hd
      have hat : aT w r i = some e := aT_some.mpr ⟨x, hrow, he⟩
      have hes := hc r i e.1 e.2 hat
      have hst := metRow_take (xs := xs) he
      rw [← hys] at hst
      unfold metStep at hst
      unfold eD
      (simp! only [wq_notIn hx])
      have hstep : ∀ zs : List Nat, (∀ y ∈ ys, y ∈ zs) → e.1 ∈ zs → ∀ i' e', i' < i + 1 → aT w r i' = some e' → e'.1 ∈ zs := fun zs h1 h2 i' e' hi' ha' => by
        by_cases z : i' = i
        · subst z; rw [hat] at ha'; cases ha'; exact h2
        · exact h1 _ (hdn i' e' (by omega) ha')
      by_cases hm : e.1 ∈ ys
      · rw [if_pos hm] at hst
        simp only [hm, decide_true, Bool.not_true, Bool.false_eq_true, if_false]
        exact ⟨ys, _, _, rfl, R, hr, hst.symm, hstep ys (fun _ h => h) hm, hx, hl, hf⟩
      · rw [if_neg hm] at hst
        simp only [hm, decide_false, Bool.not_false, if_true]
        have hxl := nodup_le R.nd R.lt
        (simp! only [isLst_loc hx, wq_append hx, List.length_map])
        refine ⟨by omega, ys ++ [e.1], _, _, rfl, ⟨?_, ?_, ?_, ?_, ?_⟩, ?_, hst.symm, hstep _ (fun y h => List.mem_append_left _ h) (by simp), ?_, by simpa using hl, fun n hn => by rw [sto_ne (by omega)]; exact hf n hn⟩
        · rw [List.nodup_append]
          refine ⟨R.nd, by simp, fun y hy z hz e => ?_⟩
          simp at hz
          subst hz; subst e
          exact hm hy
        · intro y hy
          rcases List.mem_append.mp hy with hy | hy
          · exact R.lt y hy
          · simp at hy; subst hy; exact hes
        · intro y hy
          rcases List.mem_append.mp hy with hy | hy
          · exact R.rch y hy
          · simp at hy; subst hy; exact .step (R.rch r (List.mem_of_getElem? hr)) ⟨i, e.2, hat⟩
        · exact List.mem_append_left _ R.one
        · intro i' y s hi' hy hadj
          have hkl : k < ys.length := (List.getElem?_eq_some_iff.mp hr).1
          rw [List.getElem?_append_left (by omega)] at hy
          exact List.mem_append_left _ (R.done i' y s hi' hy hadj)
        · rw [List.getElem?_append_left (List.getElem?_eq_some_iff.mp hr).1]; exact hr
        · rw [sto_set hx, List.map_append]; rfl
    · rintro τ S2 ⟨ys, o4, o5, rfl, R, hr', hys, hdn, hx, hl, hf⟩
      rw [List.length_map] at hdn hys
      rw [List.take_length] at hys
      rw [cont_nx]
      refine hinc _ _ _ _ _ k S2 _ ?_
      have hn : n = (n - 1) + 1 := by omega
      refine ⟨n - 1, by omega, ys, k + 1, o4, o5, rfl, ⟨R.nd, R.lt, R.rch, R.one, ?_⟩, by omega, ?_, hx, hl, hf⟩
      · intro i y s hi hy hadj
        by_cases z : i = k
        · subst z
          rw [hr'] at hy; cases hy
          obtain ⟨i', j, h⟩ := hadj
          refine hdn i' _ ?_ h
          obtain ⟨x', hx', hi'⟩ := aT_some.mp h
          rw [hrow] at hx'; cases hx'
          exact (List.getElem?_eq_some_iff.mp hi').1
        · exact R.done i y s (by omega) hy hadj
      · rw [← hmet]
        conv => rhs; rw [hn]
        simp only [met, hr, hrow, Option.getD_some]
        rw [← hys]
  · rw [if_neg (by omega)]
    (simp! only [])
    rw [met_done (by omega)] at hmet
    subst hmet
    exact q S1 ⟨R.nd, R.lt, R.rch, R.one, fun i y s hi => R.done i y s (by omega)⟩ hx hl hf
theorem rooms_met_ok2 {S : Sto} {w : Wb} {a : Nat} {Q : D → Sto → Prop} (hc : Closed w) (ha : a < w.length) (hw : w.length ≤ 100)
    (q : ∀ S' : Sto, S'[S.length]? = some (.lst ((metL w a).map nD)) → S'.length = S.length + 1 → (∀ n, n < S.length → S'[n]? = S[n]?) → Q (.loc S.length) S') : Wp (g_rooms_met [wD w, nD a] S) Q := by
  refine metB_ok2 (inc := augS 3 addI (cE (.int 1))) (fun o0 o1 o2 o4 o5 k S Q h => ?_) hc ha hw fun S' _ => q S'
  unfold nD
  (simp! only [])
  exact h
/-! told ends -/
def ToldR (w : Wb) (r : Nat) : Prop := ∀ (d : Nat) (e : End), (rowD w r)[d]? = some e → (rowD w e.1)[e.2]? = some (r, d)
def WebP (w : Wb) : Prop := 0 < w.length ∧ (∀ r, r < w.length → ToldR w r) ∧ (metL w 0).length = w.length
theorem rowD_none {w : Wb} {r : Nat} (h : ¬ r < w.length) : rowD w r = [] := by
  unfold rowD
  rw [List.getElem?_eq_none_iff.mpr (by omega)]; rfl
theorem told_closed {w : Wb} (h : ∀ r, r < w.length → ToldR w r) : Closed w := fun r i s j a => by
  obtain ⟨row, h1, _⟩ := aT_some.mp a
  have h2 := h r (List.getElem?_eq_some_iff.mp h1).1 i (s, j) (rowD_at.mpr a)
  by_cases z : s < w.length
  · exact z
  · have h2 : (rowD w s)[j]? = some (r, i) := h2
    rw [rowD_none z] at h2; simp at h2
theorem is_count_ok {a b : Nat} {S : Sto} {Q : D → Sto → Prop} (q : Q (.bl (decide (a < b))) S) : Wp (g_is_count [nD a, nD b] S) Q := by
  unfold g_is_count
  refine (wp_fnD (by rfl)).mpr ?_
  unfold b_is_count
  (simp! only [nD, isi_ii, isi_ib])
  have : decide ((a : Int) < (b : Int)) = decide (a < b) := by by_cases h : a < b <;> simp [h] <;> omega
  rw [this]
  exact q
theorem is_end_in_ok {w : Wb} {e : End} {S : Sto} {Q : D → Sto → Prop} (q : Q (.bl (decide (e.2 < (rowD w e.1).length))) S) : Wp (g_is_end_in [wD w, eD e] S) Q := by
  unfold g_is_end_in
  refine (wp_fnD (by rfl)).mpr ?_
  unfold b_is_end_in
  have eeD : eD e = .tup [.int (e.1 : Int), .int (e.2 : Int)] := rfl
  have e1 : D.int (e.1 : Int) = nD e.1 := rfl
  have e2 : D.int (e.2 : Int) = nD e.2 := rfl
  have ai0 : atI [D.int (e.1 : Int), D.int (e.2 : Int)] 0 = some (.int (e.1 : Int)) := rfl
  have ai1 : atI [D.int (e.1 : Int), D.int (e.2 : Int)] 1 = some (.int (e.2 : Int)) := rfl
  (simp! only [eeD, isi_tt, len_tup, wq_neI, ai0, ai1, len_w])
  rw [if_neg (by decide)]
  show Wp (g_is_count [nD e.1, nD w.length] S) _
  refine is_count_ok ?_
  by_cases h : e.1 < w.length
  · rw [decide_eq_true h]
    have hr := row_at h
    refine ⟨true, rfl, ?_⟩
    rw [if_neg (by decide)]
    (simp! only [ai0, ai1, wq_row hr, len_row])
    show Wp (g_is_count [nD e.2, nD (rowD w e.1).length] S) _
    exact is_count_ok q
  · rw [decide_eq_false h]
    refine ⟨false, rfl, ?_⟩
    rw [if_pos (by decide)]
    (simp! only [])
    rw [rowD_none h] at q
    simpa using q
end SW
namespace SW
open PySem L2

def TeI (S0 : Sto) (w : Wb) (r : Nat) (i : Nat) (τ : Tau) (S : Sto) : Prop := ∃ o2 o3 : Option D, τ = [some (wD w), some (nD r), o2, o3] ∧ S = S0 ∧ ∀ (d : Nat) (e : End), d < i → (rowD w r)[d]? = some e → (rowD w e.1)[e.2]? = some (r, d)
theorem srcE_R {x : List End} {S : Sto} : srcEnum (rD x) S = some (.fixed (enumsT 0 (x.map eD))) := srcE_tup
theorem srcE_W {w : Wb} {S : Sto} : srcEnum (wD w) S = some (.fixed (enumsT 0 (w.map rD))) := srcE_tup
theorem are_told_ok {w : Wb} {r : Nat} {S : Sto} {Q : D → Sto → Prop} (hr : r < w.length) (q1 : ToldR w r → Q (.bl true) S) (q2 : ¬ ToldR w r → Q (.bl false) S) : Wp (g_are_told_ends [wD w, nD r] S) Q := by
  unfold g_are_told_ends
  refine (wp_fnD (by rfl)).mpr ?_
  unfold b_are_told_ends
  have hra := row_at hr
  unfold nD
  (simp! only [wq_row hra, srcE_R])
  refine lo_enT ((rowD w r).map eD) (TeI S w r) ⟨none, none, rfl, rfl, fun d e h => by omega⟩ ?_ ?_
  · rintro i d τ S1 hd ⟨o2, o3, rfl, rfl, hdn⟩
    rw [List.getElem?_map] at hd
    obtain ⟨e, he, rfl⟩ := Option.map_eq_some_iff.mp hd
    (simp! only [pr])
    refine is_end_in_ok ?_
    by_cases h : e.2 < (rowD w e.1).length
    · rw [decide_eq_true h]
      refine ⟨true, rfl, ?_⟩
      rw [if_neg (by decide)]
      have h1 : e.1 < w.length := by
        by_cases z : e.1 < w.length
        · exact z
        · rw [rowD_none z] at h; simp at h
      have hrow := row_at h1
      have he' : (rowD w e.1)[e.2]? = some (rowD w e.1)[e.2] := List.getElem?_eq_getElem h
      generalize (rowD w e.1)[e.2] = e' at he'
      have ep : D.tup [nD r, D.int (i : Int)] = eD (r, i) := rfl
      (simp! only [wq_e0, wq_e1, wq_row hrow, wq_door he', ep, wq_neE])
      by_cases hz : e' = (r, i)
      · rw [if_neg (by simp [hz])]
        refine ⟨_, _, rfl, rfl, fun d f hdl hf => ?_⟩
        by_cases y : d = i
        · subst y
          rw [he] at hf; cases hf
          rw [he', hz]
        · exact hdn d f (by omega) hf
      · rw [if_pos (by simp [hz])]
        refine q2 fun T => hz ?_
        have := T i e he
        rw [he'] at this
        exact Option.some.inj this
    · rw [decide_eq_false h]
      refine ⟨false, rfl, ?_⟩
      rw [if_pos (by decide)]
      (simp! only [])
      refine q2 fun T => ?_
      have := T i e he
      rw [List.getElem?_eq_none_iff.mpr (by omega)] at this
      cases this
  · rintro τ S1 ⟨o2, o3, rfl, rfl, hdn⟩
    rw [List.length_map] at hdn
    (simp! only [])
    exact q1 fun d e he => hdn d e (List.getElem?_eq_some_iff.mp he).1 he
def RpI (S0 : Sto) (i : Nat) (acc : List D) (S : Sto) : Prop := acc = (List.replicate i true).map D.bl ∧ S = S0
def BsI (S0 : Sto) (w : Wb) (i : Nat) (acc : List D) (S : Sto) : Prop := ∃ bs : List Bool, acc = bs.map D.bl ∧ bs.length = i ∧ (∀ (j : Nat) (b : Bool), bs[j]? = some b → (b = true ↔ ToldR w j)) ∧ S = S0
theorem is_web_ok {w : Wb} {S : Sto} {Q : D → Sto → Prop} (hl : w.length ≤ 100) (q : ∀ (S' : Sto) (b : Bool), (b = true ↔ WebP w) → S.length ≤ S'.length → (∀ n, n < S.length → S'[n]? = S[n]?) → Q (.bl b) S') : Wp (g_is_web [wD w] S) Q := by
  unfold g_is_web
  refine (wp_fnD (by rfl)).mpr ?_
  unfold b_is_web
  have ewD : wD w = .tup (w.map rD) := rfl
  have isiW : ∀ {S : Sto} {Q : D → Sto → Prop}, Wp (isiD [wD w, .ty "tuple"] S) Q ↔ Q (.bl true) S := isi_tt
  (simp! only [isiW, len_w, wq_eqI])
  by_cases h0 : w.length = 0
  · rw [if_pos (show ((w.length : Nat) : Int) = 0 by omega)]
    exact q S false ⟨fun h => (by cases h), fun h => by have := h.1; omega⟩ (Nat.le_refl _) fun _ _ => rfl
  rw [if_neg (show ¬ ((w.length : Nat) : Int) = 0 by omega)]
  (simp! only [src_W])
  refine lc_fixed (w.map rD) (by simp; omega) (RpI S) ⟨rfl, rfl⟩ ?_ ?_
  · rintro i d acc S1 hd ⟨rfl, rfl⟩
    rw [List.getElem?_map] at hd
    obtain ⟨x, _, rfl⟩ := Option.map_eq_some_iff.mp hd
    have isiR : ∀ {S : Sto} {Q : D → Sto → Prop}, Wp (isiD [rD x, .ty "tuple"] S) Q ↔ Q (.bl true) S := isi_tt
    refine ⟨_, pb_nm, ?_⟩
    (simp! only [isiR])
    refine ⟨?_, rfl⟩
    rw [List.replicate_succ', List.map_append]; rfl
  · rintro acc S1 ⟨rfl, rfl⟩
    (simp! only [])
    rw [wq_allL sto_new (bls_mapI _)]
    have : (List.replicate (w.map rD).length true).all id = true := by simp
    rw [this]
    refine ⟨true, rfl, ?_⟩
    rw [if_neg (by decide)]
    have fr1 : ∀ n, n < S1.length → (S1 ++ [MO.lst ((List.replicate (w.map rD).length true).map D.bl)])[n]? = S1[n]? := fun n hn => sto_app hn
    have ln1 : S1.length ≤ (S1 ++ [MO.lst ((List.replicate (w.map rD).length true).map D.bl)]).length := by simp
    generalize S1 ++ [MO.lst ((List.replicate (w.map rD).length true).map D.bl)] = S2 at fr1 ln1 ⊢
    (simp! only [len_w])
    refine ⟨by simp [big62]; omega, ?_⟩
    rw [Int.toNat_natCast]
    refine lc_rng 0 w.length (by omega) (BsI S2 w) ⟨[], rfl, rfl, fun j b e => by simp at e, rfl⟩ ?_ ?_
    · rintro i acc S3 hi ⟨bs, rfl, hbl, hb, rfl⟩
      have e0 : ((0 : Int) + (i : Int)) = (i : Int) := by omega
      rw [e0]
      refine ⟨_, pb_nm, ?_⟩
      have step : ∀ c : Bool, (c = true ↔ ToldR w i) → BsI S3 w (i + 1) (bs.map D.bl ++ [D.bl c]) S3 := fun c hc => ⟨bs ++ [c], by rw [List.map_append]; rfl, by simp [hbl], fun j b e => by
        by_cases z : j < bs.length
        · rw [List.getElem?_append_left z] at e; exact hb j b e
        · have hj : j = bs.length := by have := (List.getElem?_eq_some_iff.mp e).1; simp at this; omega
          subst hj
          rw [List.getElem?_append_right (Nat.le_refl _), Nat.sub_self] at e
          cases e
          rw [hbl]; exact hc, rfl⟩
      (simp! only [])
      show Wp (g_are_told_ends [wD w, nD i] S3) _
      exact are_told_ok hi (fun h => step true ⟨fun _ => h, fun _ => rfl⟩) fun h => step false ⟨fun z => (by cases z), fun z => absurd z h⟩
    · rintro acc S3 ⟨bs, rfl, hbl, hb, rfl⟩
      (simp! only [])
      rw [wq_allL sto_new (bls_mapI _)]
      have fr3 : ∀ n, n < S3.length → (S3 ++ [MO.lst (bs.map D.bl)])[n]? = S3[n]? := fun n hn => sto_app hn
      have ln3 : S3.length ≤ (S3 ++ [MO.lst (bs.map D.bl)]).length := by simp
      generalize S3 ++ [MO.lst (bs.map D.bl)] = S4 at fr3 ln3 ⊢
      have hall : bs.all id = true ↔ ∀ r, r < w.length → ToldR w r := by
        rw [List.all_eq_true]
        constructor
        · intro h r hr
          have hbr : bs[r]? = some bs[r] := List.getElem?_eq_getElem (by omega)
          exact (hb r _ hbr).mp (h _ (List.getElem_mem _))
        · intro h b hbm
          obtain ⟨j, hj⟩ := List.getElem?_of_mem hbm
          exact (hb j b hj).mpr (h j (by have := (List.getElem?_eq_some_iff.mp hj).1; omega))
      refine ⟨_, rfl, ?_⟩
      by_cases ha : bs.all id = true
      · rw [ha, if_neg (by decide)]
        have hT := hall.mp ha
        have hc := told_closed hT
        (simp! only [])
        show Wp (g_rooms_met [wD w, nD 0] S4) _
        refine rooms_met_ok2 hc (by omega) hl fun S5 h5 l5 f5 => ?_
        (simp! only [len_loc h5, List.length_map, len_w, wq_eqI])
        refine q S5 _ ?_ (by omega) fun n hn => by rw [f5 n (by omega), fr3 n (by omega)]; exact fr1 n hn
        rw [decide_eq_true_eq]
        exact ⟨fun h => ⟨by omega, hT, by omega⟩, fun h => by have := h.2.2; omega⟩
      · have hf : bs.all id = false := by simpa using ha
        rw [hf, if_pos (by decide)]
        (simp! only [])
        exact q S4 false ⟨fun h => (by cases h), fun h => absurd (hall.mpr h.2.1) ha⟩ (by omega) fun n hn => by rw [fr3 n (by omega)]; exact fr1 n hn
end SW
namespace SW
open PySem L2
def b_ties : EvS := (seqS (stS 1 (aE lstD nilA))
  (seqS (forS (enI (vE 0)) (.tp [(.nm 2), (.nm 3)]) (forS (enI (vE 3)) (.tp [(.nm 4), (.nm 5)]) (ifS (tB (b2E leD (aE tupD (consA (vE 2) (consA (vE 4) nilA))) (vE 5))) (exS (mE appendM (vE 1) (consA (aE tupD (consA (aE tupD (consA (vE 2) (consA (vE 4) nilA))) (consA (vE 5) nilA))) nilA))) nxS)))
  (rtS (vE 1))))
def g_ties : Fn := fnD 1 6 b_ties
end SW
namespace SW
open PySem L2

def Ti1 (S0 : Sto) (w : Wb) (i : Nat) (τ : Tau) (S : Sto) : Prop := ∃ (es : List (End × End)) (o2 o3 o4 o5 : Option D), τ = [some (wD w), some (.loc S0.length), o2, o3, o4, o5] ∧ EsTo w es i 0 ∧ S[S0.length]? = some (.lst (es.map tD)) ∧ S.length = S0.length + 1 ∧ ∀ n, n < S0.length → S[n]? = S0[n]?
def Ti2 (S0 : Sto) (w : Wb) (r : Nat) (x : List End) (i : Nat) (τ : Tau) (S : Sto) : Prop := ∃ (es : List (End × End)) (o4 o5 : Option D), τ = [some (wD w), some (.loc S0.length), some (nD r), some (rD x), o4, o5] ∧ EsTo w es r i ∧ S[S0.length]? = some (.lst (es.map tD)) ∧ S.length = S0.length + 1 ∧ ∀ n, n < S0.length → S[n]? = S0[n]?
theorem ties_ok {S : Sto} {w : Wb} {Q : D → Sto → Prop} (hw : w.length ≤ 24) (hd : ∀ (r : Nat) (x : List End), w[r]? = some x → x.length ≤ 6)
    (q : ∀ (S' : Sto) (es : List (End × End)), EsOk w es → S'[S.length]? = some (.lst (es.map tD)) → S'.length = S.length + 1 → (∀ n, n < S.length → S'[n]? = S[n]?) → Q (.loc S.length) S') : Wp (g_ties [wD w] S) Q := by
  unfold g_ties
  refine (wp_fnD (by rfl)).mpr ?_
  unfold b_ties
  (simp! only [srcE_W])
  refine lo_enT (w.map rD) (Ti1 S w) ⟨[], _, _, _, _, rfl, ⟨by simp, by simp, by simp, rfl⟩, sto_new, by simp, fun n hn => sto_app hn⟩ ?_ ?_
  · rintro r d τ S1 hdr ⟨es, o2, o3, o4, o5, rfl, E, he, hl, hf⟩
    rw [List.getElem?_map] at hdr
    obtain ⟨x, hx, rfl⟩ := Option.map_eq_some_iff.mp hdr
    have hr : r < w.length := (List.getElem?_eq_some_iff.mp hx).1
    have hxl := hd r x hx
    (simp! only [srcE_R])
    refine lo_enT (x.map eD) (Ti2 S w r x) ⟨es, _, _, rfl, E, he, hl, hf⟩ ?_ ?_
    · rintro d dd τ S2 hdd ⟨es, o4, o5, rfl, E, he, hl, hf⟩
      rw [List.getElem?_map] at hdd
      obtain ⟨e, hq, rfl⟩ := Option.map_eq_some_iff.mp hdd
      have hdl : d < x.length := (List.getElem?_eq_some_iff.mp hq).1
      have ha : aT w r d = some e := aT_some.mpr ⟨x, hx, hq⟩
      have hed : D.tup [D.int (r : Int), D.int (d : Int)] = eD (r, d) := rfl
      (simp! only [nD, hed, wq_leE])
      by_cases hle : leE (r, d) e
      · rw [if_pos hle]
        have hfew := E.few
        (simp! only [isLst_loc he, wq_append he, List.length_map, hed])
        refine ⟨by omega, es ++ [((r, d), e)], _, _, rfl, E.yes ha hle, ?_, by simpa using hl, fun n hn => by rw [sto_ne (by omega)]; exact hf n hn⟩
        rw [sto_set he, List.map_append]; rfl
      · rw [if_neg hle]
        exact ⟨es, _, _, rfl, E.no ha hle, he, hl, hf⟩
    · rintro τ S2 ⟨es, o4, o5, rfl, E, he, hl, hf⟩
      (simp! only [])
      rw [List.length_map] at E
      exact ⟨es, _, _, _, _, rfl, E.next hx hxl, he, hl, hf⟩
  · rintro τ S1 ⟨es, o2, o3, o4, o5, rfl, E, he, hl, hf⟩
    rw [List.length_map] at E
    (simp! only [])
    refine q S1 es ⟨fun p q => ?_, E.nd, by have := E.few; omega, by rw [E.is]; simp [endsRow]⟩ he hl hf
    rw [E.mem]
    constructor
    · rintro ⟨a, b, c⟩; exact ⟨a, b⟩
    · rintro ⟨a, b⟩
      refine ⟨a, b, .inl ?_⟩
      obtain ⟨x, hx, _⟩ := aT_some.mp a
      exact (List.getElem?_eq_some_iff.mp hx).1
end SW
namespace SW
open PySem L2

/-! the web of the sheets, told exactly -/
structure ShOf (w : Wb) (es : List (End × End)) (σ : List (List Nat)) (many : Nat) (w' : Wb) : Prop where
  len : w'.length = many * w.length
  row : ∀ (x : Nat) (l : List End), w'[x]? = some l → l.length = rowL w (x % w.length)
  at_ : ∀ (x d : Nat) (e : End), aT w' x d = some e → Rt w es σ x d e
theorem ShOf.uniq {w : Wb} {es : List (End × End)} {σ : List (List Nat)} {many : Nat} {w1 w2 : Wb} (H : Sheets w es σ many) (h1 : ShOf w es σ many w1) (h2 : ShOf w es σ many w2) : w1 = w2 := by
  apply List.ext_getElem?
  intro x
  by_cases hx : x < many * w.length
  · have g1 : w1[x]? = some (w1[x]'(by rw [h1.len]; exact hx)) := List.getElem?_eq_getElem _
    have g2 : w2[x]? = some (w2[x]'(by rw [h2.len]; exact hx)) := List.getElem?_eq_getElem _
    generalize (w1[x]'(by rw [h1.len]; exact hx)) = l1 at g1
    generalize (w2[x]'(by rw [h2.len]; exact hx)) = l2 at g2
    rw [g1, g2]
    congr 1
    have e1 := h1.row x l1 g1
    have e2 := h2.row x l2 g2
    apply List.ext_getElem?
    intro d
    by_cases hd : d < l1.length
    · have k1 : l1[d]? = some l1[d] := List.getElem?_eq_getElem hd
      have k2 : l2[d]? = some (l2[d]'(by omega)) := List.getElem?_eq_getElem _
      generalize l1[d] = a1 at k1
      generalize (l2[d]'(by omega)) = a2 at k2
      rw [k1, k2]
      congr 1
      exact (h1.at_ x d a1 (aT_some.mpr ⟨l1, g1, k1⟩)).fun_ H (h2.at_ x d a2 (aT_some.mpr ⟨l2, g2, k2⟩))
    · rw [List.getElem?_eq_none_iff.mpr (by omega), List.getElem?_eq_none_iff.mpr (by omega)]
  · rw [List.getElem?_eq_none_iff.mpr (by rw [h1.len]; omega), List.getElem?_eq_none_iff.mpr (by rw [h2.len]; omega)]
section
variable {S : Sto} {Q : D → Sto → Prop}
end
end SW
namespace SW
open PySem L2

/-! the program's spread -/
section
variable {g : D → Tau → Option Tau} {b : EvS} {τ : Tau} {S : Sto} {Q : Out → Sto → Prop}
end
/-- rows in the store, wherever they lie -/
structure MkA (S : Sto) (A : Nat → Nat) (T U N : Nat) (M : Mat) : Prop where
  top : S[T]? = some (.lst ((List.range N).map fun x => D.loc (A x)))
  at_ : ∀ x, x < N → S[A x]? = some (.lst ((M x).map oD))
  lo : ∀ x, x < N → T < A x
  hi : ∀ x, x < N → A x < U
  inj : ∀ x y, x < N → y < N → A x = A y → x = y
theorem MkA.of {S S' : Sto} {A : Nat → Nat} {T U N : Nat} {M : Mat} (h : MkA S A T U N M) (hT : T < U) (k : ∀ n, T ≤ n → n < U → S'[n]? = S[n]?) : MkA S' A T U N M :=
  ⟨(k _ (Nat.le_refl _) hT).trans h.top, fun x hx => (k _ (Nat.le_of_lt (h.lo x hx)) (h.hi x hx)).trans (h.at_ x hx), h.lo, h.hi, h.inj⟩
theorem MkA.put {S : Sto} {A : Nat → Nat} {T U N x d : Nat} {M : Mat} {e : End} (h : MkA S A T U N M) (hx : x < N) : MkA (S.set (A x) (.lst (((M x).map oD).set d (eD e)))) A T U N (putM M x d e) := by
  refine ⟨by rw [sto_ne (by have := h.lo x hx; omega)]; exact h.top, fun y hy => ?_, h.lo, h.hi, h.inj⟩
  unfold putM
  by_cases z : y = x
  · subst z
    rw [if_pos rfl, sto_set (h.at_ y hy), List.map_set]; rfl
  · rw [if_neg z, sto_ne fun e => z (h.inj y x hy hx e.symm)]; exact h.at_ y hy
theorem MkA.get {S : Sto} {A : Nat → Nat} {T U N x : Nat} {M : Mat} {Q : D → Sto → Prop} (h : MkA S A T U N M) (hx : x < N) : Wp (sbD (.loc T) (.int (x : Int)) S) Q ↔ Q (.loc (A x)) S := by
  have : atI ((List.range N).map fun x => D.loc (A x)) (x : Int) = some (.loc (A x)) := atI_of (by rw [List.getElem?_map, List.getElem?_range hx]; rfl)
  rw [wq_sbL h.top, this]
  simp
end SW
namespace SW
open PySem L2

end SW
namespace SW
open PySem L2

end SW
namespace SW
open PySem L2

/-! a web over another one: kinds by kinds -/
section
variable {α : Type} [DecidableEq α]
def Rep (L L' : List α) : Prop := 0 < L.length ∧ L.length ≤ L'.length ∧ ∀ x, x < L'.length → L'[x]? = L[x % L.length]?
theorem foldl_in : ∀ (L acc : List α), (∀ x ∈ L, x ∈ acc) → L.foldl addL acc = acc
  | [], _, _ => rfl
  | a :: L, acc, h => by
    have : addL acc a = acc := by unfold addL; rw [if_pos (h a (by simp))]
    rw [List.foldl_cons, this]
    exact foldl_in L acc fun x hx => h x (by simp [hx])
theorem Rep.take {L L' : List α} (R : Rep L L') : L'.take L.length = L := by
  obtain ⟨h0, hl, h⟩ := R
  apply List.ext_getElem?
  intro i
  by_cases hi : i < L.length
  · rw [List.getElem?_take_of_lt hi, h i (by omega), Nat.mod_eq_of_lt hi]
  · rw [List.getElem?_eq_none_iff.mpr (by rw [List.length_take]; omega), List.getElem?_eq_none_iff.mpr (by omega)]
theorem Rep.seen {L L' : List α} (R : Rep L L') : seenL L' = seenL L := by
  have e : L' = L ++ L'.drop L.length := by
    conv => lhs; rw [← List.take_append_drop L.length L', R.take]
  have h2 : seenL L' = (L'.drop L.length).foldl addL (seenL L) := by
    conv => lhs; rw [e]
    unfold seenL
    rw [List.foldl_append]
  rw [h2]
  refine foldl_in _ _ fun x hx => seenL_mem.mpr ?_
  obtain ⟨i, hi⟩ := List.getElem?_of_mem (List.mem_of_mem_drop hx)
  have hl := (List.getElem?_eq_some_iff.mp hi).1
  rw [R.2.2 i hl] at hi
  exact List.mem_of_getElem? hi
theorem Rep.num {L L' : List α} (R : Rep L L') : Rep (numL L) (numL L') := by
  obtain ⟨h0, hl, h⟩ := id R
  refine ⟨by rw [numL_len]; exact h0, by rw [numL_len, numL_len]; exact hl, fun x hx => ?_⟩
  rw [numL_len] at hx ⊢
  have hm : x % L.length < L.length := Nat.mod_lt _ h0
  have g : L[x % L.length]? = some L[x % L.length] := List.getElem?_eq_getElem hm
  rw [numL_get g, numL_get ((h x hx).trans g), R.seen]
/-- the same pattern, the same numbers -/
theorem numL_pat {β : Type} [DecidableEq β] {L : List α} {M : List β} (hl : L.length = M.length) (h : ∀ i j, i < L.length → j < L.length → (L[i]? = L[j]? ↔ M[i]? = M[j]?)) : numL L = numL M := by
  have first : ∀ i, i ≤ L.length → ∃ F : List Nat, (∀ f ∈ F, f < i) ∧ (seenL (L.take i)).map some = F.map (L[·]?) ∧ (seenL (M.take i)).map some = F.map (M[·]?) := by
    intro i
    induction i with
    | zero => intro _; exact ⟨[], by simp, rfl, rfl⟩
    | succ i ih =>
      intro hi
      obtain ⟨F, f1, f2, f3⟩ := ih (by omega)
      have g1 : L[i]? = some L[i] := List.getElem?_eq_getElem (by omega)
      have g2 : M[i]? = some (M[i]'(by omega)) := List.getElem?_eq_getElem _
      generalize L[i] = a at g1
      generalize (M[i]'(by omega)) = b at g2
      rw [seenL_take g1, seenL_take g2]
      have m1 : a ∈ seenL (L.take i) ↔ ∃ f ∈ F, L[f]? = L[i]? := by
        rw [g1, ← List.mem_map (f := fun f : Nat => L[f]?), ← f2]
        simp
      have m2 : b ∈ seenL (M.take i) ↔ ∃ f ∈ F, M[f]? = M[i]? := by
        rw [g2, ← List.mem_map (f := fun f : Nat => M[f]?), ← f3]
        simp
      have mm : a ∈ seenL (L.take i) ↔ b ∈ seenL (M.take i) := by
        rw [m1, m2]
        constructor
        · rintro ⟨f, hf, e⟩; exact ⟨f, hf, (h f i (by have := f1 f hf; omega) (by omega)).mp e⟩
        · rintro ⟨f, hf, e⟩; exact ⟨f, hf, (h f i (by have := f1 f hf; omega) (by omega)).mpr e⟩
      unfold addL
      by_cases z : a ∈ seenL (L.take i)
      · rw [if_pos z, if_pos (mm.mp z)]
        exact ⟨F, fun f hf => by have := f1 f hf; omega, f2, f3⟩
      · rw [if_neg z, if_neg fun y => z (mm.mpr y)]
        refine ⟨F ++ [i], fun f hf => ?_, ?_, ?_⟩
        · rw [List.mem_append, List.mem_singleton] at hf
          rcases hf with hf | rfl
          · have := f1 f hf; omega
          · omega
        · rw [List.map_append, List.map_append, f2]; simp [g1]
        · rw [List.map_append, List.map_append, f3]; simp [g2]
  obtain ⟨F, f1, f2, f3⟩ := first L.length (Nat.le_refl _)
  rw [List.take_length] at f2
  rw [hl, List.take_length] at f3
  apply List.ext_getElem?
  intro j
  by_cases hj : j < L.length
  · have g1 : L[j]? = some L[j] := List.getElem?_eq_getElem hj
    have g2 : M[j]? = some (M[j]'(by omega)) := List.getElem?_eq_getElem _
    generalize L[j] = a at g1
    generalize (M[j]'(by omega)) = b at g2
    rw [numL_get g1, numL_get g2]
    congr 1
    have i1 : (seenL L).idxOf a = F.findIdx fun f => L[f]? == some a := by
      have e1 : ((seenL L).map some).findIdx (fun o => o == some a) = (seenL L).findIdx (· == a) := by
        rw [List.findIdx_map]
        congr 1
      unfold List.idxOf
      rw [← e1, f2, List.findIdx_map]; rfl
    have i2 : (seenL M).idxOf b = F.findIdx fun f => M[f]? == some b := by
      have e1 : ((seenL M).map some).findIdx (fun o => o == some b) = (seenL M).findIdx (· == b) := by
        rw [List.findIdx_map]
        congr 1
      unfold List.idxOf
      rw [← e1, f3, List.findIdx_map]; rfl
    rw [i1, i2]
    have : ∀ F : List Nat, (∀ f ∈ F, f < L.length) → F.findIdx (fun f => L[f]? == some a) = F.findIdx fun f => M[f]? == some b := by
      intro F
      induction F with
      | nil => intro _; rfl
      | cons f F ih =>
        intro hf
        have e : (L[f]? == some a) = (M[f]? == some b) := by
          rw [← g1, ← g2]
          have := h f j (hf f (by simp)) hj
          by_cases z : L[f]? = L[j]?
          · rw [beq_iff_eq.mpr z, beq_iff_eq.mpr (this.mp z)]
          · rw [beq_eq_false_iff_ne.mpr z, beq_eq_false_iff_ne.mpr fun y => z (this.mpr y)]
        rw [List.findIdx_cons, List.findIdx_cons, e, ih fun x hx => hf x (by simp [hx])]
    exact this F f1
  · rw [List.getElem?_eq_none_iff.mpr (by rw [numL_len]; omega), List.getElem?_eq_none_iff.mpr (by rw [numL_len]; omega)]
end
structure Cov (w w' : Wb) (many : Nat) : Prop where
  pos : 0 < w.length
  pm : 0 < many
  len : w'.length = many * w.length
  row : ∀ x, x < w'.length → (rowD w' x).map (fun e => (e.1 % w.length, e.2)) = rowD w (x % w.length)
theorem Cov.rep {w w' : Wb} {many : Nat} (C : Cov w w' many) {α : Type} {L L' : List α} (h1 : L.length = w.length) (h2 : L'.length = w'.length) (h : ∀ x, x < w'.length → L'[x]? = L[x % w.length]?) : Rep L L' := by
  have := C.pos
  refine ⟨by omega, ?_, fun x hx => by rw [h1]; exact h x (by omega)⟩
  rw [h1, h2, C.len]
  exact Nat.le_mul_of_pos_left _ C.pm
theorem ShOf.cov {w w' : Wb} {σ : List (List Nat)} {many : Nat} (h0 : 0 < w.length) (hm : 0 < many) (H : Sheets w (endsN w w.length) σ many) (h : ShOf w (endsN w w.length) σ many w') : Cov w w' many := by
  refine ⟨h0, hm, h.len, fun x hx => ?_⟩
  have hr := row_at hx
  have hxm : x % w.length < w.length := Nat.mod_lt _ h0
  have hl := h.row x _ hr
  rw [rowL_of (row_at hxm)] at hl
  apply List.ext_getElem?
  intro d
  by_cases hd : d < (rowD w' x).length
  · have g : (rowD w' x)[d]? = some (rowD w' x)[d] := List.getElem?_eq_getElem hd
    generalize (rowD w' x)[d] = e at g
    rw [List.getElem?_map, g]
    obtain ⟨t, one, other, k, s, L, h1, h2, h3, c⟩ := h.at_ x d e (rowD_at.mp g)
    obtain ⟨a1, a2, a3, a4, a5⟩ := H.at_ h1
    rcases c with ⟨x1, d1, e1⟩ | ⟨x1, d1, e1⟩
    · rw [x1, mod_n a4, d1, rowD_at.mpr a1, e1]
      show some ((other.1 + s * w.length) % w.length, other.2) = _
      rw [mod_n a5]
    · rw [x1, mod_n a5, d1, rowD_at.mpr a2, e1]
      show some ((one.1 + k * w.length) % w.length, one.2) = _
      rw [mod_n a4]
  · rw [List.getElem?_eq_none_iff.mpr (by rw [List.length_map]; omega), List.getElem?_eq_none_iff.mpr (by omega)]
theorem Cov.rnd {w w' : Wb} {many : Nat} (C : Cov w w' many) (hc : Closed w') : ∀ t, Rep (SW.rnd w t) (SW.rnd w' t) := by
  have hlt : ∀ x, x % w.length < w.length := fun x => Nat.mod_lt _ C.pos
  have rl : ∀ x, x < w'.length → (rowD w' x).length = (rowD w (x % w.length)).length := fun x hx => by rw [← C.row x hx, List.length_map]
  intro t
  induction t with
  | zero =>
    refine Rep.num (C.rep (by simp) (by simp) fun x hx => ?_)
    rw [List.getElem?_map, List.getElem?_map, row_at hx, row_at (hlt x)]
    show some _ = some _
    rw [rl x hx]
  | succ t ih =>
    refine Rep.num (C.rep (finer_len _ _) (finer_len _ _) fun x hx => ?_)
    rw [finer_get (row_at hx), finer_get (row_at (hlt x))]
    have hg : ∀ y, y < w'.length → (SW.rnd w' t).getD y 0 = (SW.rnd w t).getD (y % w.length) 0 := fun y hy => by
      have := ih.2.2 y (by rw [rnd_len]; exact hy)
      rw [rnd_len] at this
      rw [List.getD_eq_getElem?_getD, List.getD_eq_getElem?_getD, this]
    congr 1
    show ((SW.rnd w' t).getD x 0, (rowD w' x).map fun e => (e.2, (SW.rnd w' t).getD e.1 0)) = ((SW.rnd w t).getD (x % w.length) 0, (rowD w (x % w.length)).map fun e => (e.2, (SW.rnd w t).getD e.1 0))
    rw [hg x hx, ← C.row x hx, List.map_map]
    congr 1
    refine List.map_congr_left fun e he => ?_
    obtain ⟨d, hd⟩ := List.getElem?_of_mem he
    have := hc x d e.1 e.2 (rowD_at.mp hd)
    show (e.2, (SW.rnd w' t).getD e.1 0) = (e.2, (SW.rnd w t).getD (e.1 % w.length) 0)
    rw [hg e.1 this]
end SW
namespace SW
open PySem L2

theorem numL_idem {α : Type} [DecidableEq α] (L : List α) : numL (numL L) = numL L := by
  refine numL_pat (numL_len L) fun i j hi hj => ?_
  rw [numL_len] at hi hj
  have g1 : L[i]? = some L[i] := List.getElem?_eq_getElem hi
  have g2 : L[j]? = some L[j] := List.getElem?_eq_getElem hj
  generalize L[i] = a at g1
  generalize L[j] = b at g2
  rw [numL_eq g1 g2, g1, g2]
  simp
theorem rnd_num (w : Wb) (t : Nat) : numL (rnd w t) = rnd w t := by
  cases t with
  | zero => exact numL_idem _
  | succ t => exact numL_idem _
/-- after so many rounds as there are rooms nothing changes -/
theorem rnd_stop {w : Wb} (hc : Closed w) (hp : 0 < w.length) {t : Nat} (ht : w.length ≤ t) : rnd w t = rnd w w.length := by
  have hb : (numL (w.map List.length)).length = w.length := by rw [numL_len, List.length_map]
  obtain ⟨m, hm, hs⟩ := stable hb hc hp
  have e : rnd w (m + 1) = rnd w m := by
    rw [← rnd_num w (m + 1), ← rnd_num w m]
    refine numL_pat (by rw [rnd_len, rnd_len]) fun i j hi hj => ?_
    rw [rnd_len] at hi hj
    have a1 := num_at (n := m + 1) hb hi
    have a2 := num_at (n := m + 1) hb hj
    have a3 := num_at (n := m) hb hi
    have a4 := num_at (n := m) hb hj
    unfold rnd
    rw [a1, a2, a3, a4]
    constructor
    · intro h
      rw [num_mono hb hi hj (Option.some.inj h) (Nat.le_succ m)]
    · intro h
      rw [hs 1 i j hi hj (Option.some.inj h)]
  have st := rndF_stay e
  show rndF w _ t = rndF w _ w.length
  rw [st t (by omega), st w.length (by omega)]
theorem Cov.kin {w w' : Wb} {many : Nat} (C : Cov w w' many) (hc : Closed w) (hc' : Closed w') : Rep (SW.rnd w w.length) (SW.rnd w' w'.length) := by
  have h := C.rnd hc' w'.length
  rw [rnd_stop hc C.pos (t := w'.length) (by rw [C.len]; exact Nat.le_mul_of_pos_left _ C.pm)] at h
  exact h
end SW
namespace SW
open PySem L2
end SW
namespace SW
open PySem L2

/-- the numbers of kinds -/
def kd (w : Wb) : List Nat := rnd w w.length
theorem kd_len (w : Wb) : (kd w).length = w.length := rnd_len w _
end SW
namespace SW
open PySem L2

def rowBy (f : Nat → Nat) (row : List End) : List End := row.map fun e => (f e.1, e.2)
/-- the folded web -/
def kdN (w : Wb) (x : Nat) : Nat := (kd w).getD x 0
theorem kd_at {w : Wb} {x : Nat} (h : x < w.length) : (kd w)[x]? = some (kdN w x) := by
  unfold kdN
  rw [List.getD_eq_getElem?_getD, List.getElem?_eq_getElem (by rw [kd_len]; exact h)]; rfl
end SW
namespace SW
open PySem L2

theorem Rep.mem {α : Type} [DecidableEq α] {L L' : List α} (R : Rep L L') (k : α) : k ∈ L ↔ k ∈ L' := by
  rw [← seenL_mem (L := L), ← seenL_mem (L := L'), R.seen]
theorem Cov.kdN {w w' : Wb} {many : Nat} (C : Cov w w' many) (hc : Closed w) (hc' : Closed w') {x : Nat} (hx : x < w'.length) : SW.kdN w' x = SW.kdN w (x % w.length) := by
  have R := C.kin hc hc'
  have h := R.2.2 x (by rw [rnd_len]; exact hx)
  rw [rnd_len] at h
  have a := kd_at hx
  have b := kd_at (w := w) (x := x % w.length) (Nat.mod_lt _ C.pos)
  unfold kd at a b
  rw [a, b] at h
  exact Option.some.inj h
theorem Cov.sheets {w w' : Wb} {many : Nat} (C : Cov w w' many) (hc : Closed w) (hc' : Closed w') (k : Nat) : (grp (kd w') k).length = many * (grp (kd w) k).length := by
  have hn : 0 < w.length := C.pos
  have key : ∀ m, m ≤ many → ((List.range (m * w.length)).filter fun r => decide (SW.kdN w' r = k)).length = m * ((List.range w.length).filter fun r => decide (SW.kdN w r = k)).length := by
    intro m
    induction m with
    | zero => intro _; simp
    | succ m ih =>
      intro hm
      have hle : (m + 1) * w.length ≤ many * w.length := Nat.mul_le_mul_right _ hm
      rw [Nat.succ_mul] at hle
      rw [Nat.succ_mul, List.range_add, List.filter_append, List.length_append, ih (by omega), Nat.succ_mul, List.filter_map, List.length_map]
      congr 2
      refine List.filter_congr fun r hr => ?_
      rw [List.mem_range] at hr
      show decide (SW.kdN w' (m * w.length + r) = k) = _
      rw [C.kdN hc hc' (by rw [C.len]; omega), Nat.add_comm, Nat.add_mul_mod_self_right, Nat.mod_eq_of_lt hr]
  have := key many (Nat.le_refl _)
  rw [← C.len] at this
  unfold grp
  rw [kd_len, kd_len]
  exact this
end SW
namespace SW
open PySem L2

section
variable {g : D → Tau → Option Tau} {t : EvT} {f : EvE} {τ : Tau} {S : Sto} {Q : List D → Sto → Prop}
end
end SW
namespace SW
open PySem L2

end SW
namespace SW
open PySem L2

end SW
namespace SW
open PySem L2
end SW
namespace SW
open PySem L2
end SW
namespace SW
open PySem L2
end SW
namespace SW
open PySem L2
end SW
namespace SW
open PySem L2

end SW
namespace SW
open PySem L2

theorem pat_num {α : Type} [DecidableEq α] {L : List α} {n : Nat} (hn : L.length = n) (x y : Nat) (hx : x < n) (hy : y < n) : (numL L).getD x 0 = (numL L).getD y 0 ↔ L[x]? = L[y]? := by
  have g1 : L[x]? = some (L[x]'(by omega)) := List.getElem?_eq_getElem _
  have g2 : L[y]? = some (L[y]'(by omega)) := List.getElem?_eq_getElem _
  have h := numL_eq g1 g2
  rw [List.getD_eq_getElem?_getD, List.getD_eq_getElem?_getD, numL_get g1, numL_get g2, g1, g2]
  rw [numL_get g1, numL_get g2] at h
  simp only [Option.getD_some, Option.some.injEq] at h ⊢
  exact h
end SW
namespace SW
open PySem L2

theorem map_fun {F G : Nat → Nat} {n : Nat} (h : ∀ a b, a < n → b < n → (F a = F b ↔ G a = G b)) : ∀ {l m : List End}, (∀ e ∈ l, e.1 < n) → (∀ e ∈ m, e.1 < n) → ((l.map fun e => ((e.2, F e.1) : End)) = (m.map fun e => ((e.2, F e.1) : End)) ↔ (l.map fun e => ((e.2, G e.1) : End)) = m.map fun e => ((e.2, G e.1) : End))
  | [], [], _, _ => by simp
  | [], _ :: _, _, _ => by simp
  | _ :: _, [], _, _ => by simp
  | e :: l, f :: m, hl, hm => by
    have ih := map_fun h (l := l) (m := m) (fun e he => hl e (by simp [he])) (fun e he => hm e (by simp [he]))
    have := h e.1 f.1 (hl e (by simp)) (hm f (by simp))
    simp only [List.map_cons, List.cons.injEq, Prod.mk.injEq, ih, this]
/-- renumbered rooms go together as they did -/
theorem Ren.pat {w w' : Wb} {ν : Nat → Nat} (R : Ren w w' ν) (hc : Closed w) : ∀ t x y, x < w.length → y < w.length → ((rnd w' t).getD (ν x) 0 = (rnd w' t).getD (ν y) 0 ↔ (rnd w t).getD x 0 = (rnd w t).getD y 0) := by
  have hlt : ∀ x, x < w.length → ν x < w'.length := fun x hx => by rw [R.len]; exact R.lt x hx
  intro t
  induction t with
  | zero =>
    intro x y hx hy
    have e1 : rnd w' 0 = numL (w'.map List.length) := rfl
    have e2 : rnd w 0 = numL (w.map List.length) := rfl
    rw [e1, e2, pat_num (by simp) _ _ (hlt x hx) (hlt y hy), pat_num (by simp) x y hx hy]
    rw [List.getElem?_map, List.getElem?_map, List.getElem?_map, List.getElem?_map, row_at hx, row_at hy, row_at (hlt x hx), row_at (hlt y hy), R.row x hx, R.row y hy]
    simp [mapE]
  | succ t ih =>
    intro x y hx hy
    have e1 : rnd w' (t + 1) = numL (finer w' (rnd w' t)) := rfl
    have e2 : rnd w (t + 1) = numL (finer w (rnd w t)) := rfl
    rw [e1, e2, pat_num (finer_len _ _) _ _ (hlt x hx) (hlt y hy), pat_num (finer_len _ _) x y hx hy]
    rw [finer_get (row_at hx), finer_get (row_at hy), finer_get (row_at (hlt x hx)), finer_get (row_at (hlt y hy)), R.row x hx, R.row y hy]
    have c : ∀ z, z < w.length → ∀ e ∈ rowD w z, e.1 < w.length := fun z hz e he => by
      obtain ⟨d, hd⟩ := List.getElem?_of_mem he
      exact hc z d e.1 e.2 (rowD_at.mp hd)
    have h1 := map_fun (F := fun a => (rnd w' t).getD (ν a) 0) (G := fun a => (rnd w t).getD a 0) (fun a b ha hb => ih a b ha hb) (c x hx) (c y hy)
    have h2 := ih x y hx hy
    simp only [Option.some.injEq, lookR, Prod.mk.injEq, mapE, List.map_map]
    have m : ∀ l : List End, (l.map ((fun e : End => ((e.2, (rnd w' t).getD e.1 0) : End)) ∘ fun e : End => ((ν e.1, e.2) : End))) = l.map fun e : End => ((e.2, (rnd w' t).getD (ν e.1) 0) : End) := fun l => rfl
    rw [m, m, h1, h2]
theorem Ren.kin {w w' : Wb} {ν : Nat → Nat} (R : Ren w w' ν) (hc : Closed w) {x y : Nat} (hx : x < w.length) (hy : y < w.length) : kdN w' (ν x) = kdN w' (ν y) ↔ kdN w x = kdN w y := by
  have := R.pat hc w.length x y hx hy
  unfold kdN kd
  rw [R.len]
  exact this
end SW
namespace SW
open PySem L2

/-! webs one upon the other -/
structure Mor (w w' : Wb) (f : Nat → Nat) : Prop where
  lt : ∀ x, x < w.length → f x < w'.length
  row : ∀ x, x < w.length → rowD w' (f x) = rowBy f (rowD w x)
theorem Mor.pat {w w' : Wb} {f : Nat → Nat} (R : Mor w w' f) (hc : Closed w) : ∀ t x y, x < w.length → y < w.length → ((rnd w' t).getD (f x) 0 = (rnd w' t).getD (f y) 0 ↔ (rnd w t).getD x 0 = (rnd w t).getD y 0) := by
  intro t
  induction t with
  | zero =>
    intro x y hx hy
    have e1 : rnd w' 0 = numL (w'.map List.length) := rfl
    have e2 : rnd w 0 = numL (w.map List.length) := rfl
    rw [e1, e2, pat_num (by simp) _ _ (R.lt x hx) (R.lt y hy), pat_num (by simp) x y hx hy]
    rw [List.getElem?_map, List.getElem?_map, List.getElem?_map, List.getElem?_map, row_at hx, row_at hy, row_at (R.lt x hx), row_at (R.lt y hy), R.row x hx, R.row y hy]
    simp [rowBy]
  | succ t ih =>
    intro x y hx hy
    have e1 : rnd w' (t + 1) = numL (finer w' (rnd w' t)) := rfl
    have e2 : rnd w (t + 1) = numL (finer w (rnd w t)) := rfl
    rw [e1, e2, pat_num (finer_len _ _) _ _ (R.lt x hx) (R.lt y hy), pat_num (finer_len _ _) x y hx hy]
    rw [finer_get (row_at hx), finer_get (row_at hy), finer_get (row_at (R.lt x hx)), finer_get (row_at (R.lt y hy)), R.row x hx, R.row y hy]
    have c : ∀ z, z < w.length → ∀ e ∈ rowD w z, e.1 < w.length := fun z hz e he => by
      obtain ⟨d, hd⟩ := List.getElem?_of_mem he
      exact hc z d e.1 e.2 (rowD_at.mp hd)
    have h1 := map_fun (F := fun a => (rnd w' t).getD (f a) 0) (G := fun a => (rnd w t).getD a 0) (fun a b ha hb => ih a b ha hb) (c x hx) (c y hy)
    have h2 := ih x y hx hy
    simp only [Option.some.injEq, lookR, Prod.mk.injEq, rowBy, List.map_map]
    have m : ∀ l : List End, (l.map ((fun e : End => ((e.2, (rnd w' t).getD e.1 0) : End)) ∘ fun e : End => ((f e.1, e.2) : End))) = l.map fun e : End => ((e.2, (rnd w' t).getD (f e.1) 0) : End) := fun l => rfl
    rw [m, m, h1, h2]
theorem Mor.kin {w w' : Wb} {f : Nat → Nat} (R : Mor w w' f) (hc : Closed w) (hc' : Closed w') (h0 : 0 < w.length) {x y : Nat} (hx : x < w.length) (hy : y < w.length) : kdN w' (f x) = kdN w' (f y) ↔ kdN w x = kdN w y := by
  have h0' : 0 < w'.length := Nat.lt_of_le_of_lt (Nat.zero_le _) (R.lt x hx)
  have := R.pat hc (max w.length w'.length) x y hx hy
  rw [rnd_stop hc h0 (Nat.le_max_left _ _), rnd_stop hc' h0' (Nat.le_max_right _ _)] at this
  exact this
end SW
namespace SW
open PySem L2

end SW
namespace SW
open PySem L2

def f0 : Nat → Bool := fun _ => false
/-- rooms that no way parts are of one kind -/
theorem np_kin {w : Wb} (hc : Closed w) {x y : Nat} (hx : x < w.length) (hy : y < w.length) (h : ∀ p, ¬ parts w w f0 f0 x y p) : kdN w x = kdN w y := by
  have B := looks0_base w []
  have e0 : (fun r : Nat => decide (r ∈ ([] : List Nat))) = f0 := by funext r; simp [f0]
  rw [e0] at B
  have key : ∀ n, num w (numL (looks0 w [])) n x = num w (numL (looks0 w [])) n y := by
    intro n
    induction n using Nat.strongRecOn with
    | ind n ih =>
      refine Classical.byContradiction fun hne => ?_
      have A : Apart w (numL (looks0 w [])) n x y := ⟨hne, ih⟩
      obtain ⟨p, G⟩ := greedy_ex hc B hx hy A
      exact h p (greedy_least hc B hx hy A G).1.1
  have := key w.length
  unfold num at this
  have hr : rndF w (numL (looks0 w [])) w.length = rnd w w.length := rndM_nil w w.length
  rw [hr] at this
  exact this
end SW
namespace SW
open PySem L2
end SW
namespace SW
open PySem L2

theorem any_end (e : End) (l : List End) : ((l.map pyE).any fun z => PyData.eqv z (pyE e)) = decide (e ∈ l) := by
  induction l with
  | nil => rfl
  | cons a l ih =>
    rw [List.map_cons, List.any_cons, ih]
    have h : PyData.eqv (pyE a) (pyE e) = decide (a = e) := by
      unfold pyE
      simp only [PyData.eqv, PyData.eqvAll, Bool.and_true]
      obtain ⟨a1, a2⟩ := a
      obtain ⟨e1, e2⟩ := e
      by_cases h1 : a1 = e1 <;> by_cases h2 : a2 = e2 <;> simp [h1, h2] <;> omega
    rw [h]
    by_cases h1 : a = e
    · subst h1; simp
    · have h3 : ¬ e = a := fun z => h1 z.symm
      simp [h1, h3]
theorem pyOf_E {S : Sto} {e : End} : pyOf S (eD e) = some (pyE e) := rfl
theorem wq_notInE {S : Sto} {n : Nat} {e : End} {l : List End} {Q : D → Sto → Prop} (h : S[n]? = some (.lst (l.map eD))) : Wp (notInD (eD e) (.loc n) S) Q ↔ Q (.bl (!decide (e ∈ l))) S := by
  have e : notInD (eD e) (.loc n) S = some (.bl (!decide (e ∈ l)), S) := by
    unfold notInD inSq
    simp only [pyOf_E, pyOf_EL h, Option.bind_some, any_end, Option.orElse]
  rw [e]; exact wp_some
end SW
namespace SW
open PySem L2

/-! rooms that no way parts -/
def NQ (w1 w2 : Wb) (a b : Nat) : Prop := ∀ p, ¬ parts w1 w2 ff ff a b p
theorem NQ.len {w1 w2 : Wb} {a b : Nat} (h : NQ w1 w2 a b) : (rowD w1 a).length = (rowD w2 b).length :=
  Classical.byContradiction fun z => h [] (.inl z)
theorem NQ.step {w1 w2 : Wb} {a b d : Nat} {e e' : End} (h : NQ w1 w2 a b) (h1 : (rowD w1 a)[d]? = some e) (h2 : (rowD w2 b)[d]? = some e') : e.2 = e'.2 ∧ NQ w1 w2 e.1 e'.1 :=
  ⟨Classical.byContradiction fun z => h [d] (.inr ⟨e, e', h1, h2, .inl z⟩), fun p hp => h (d :: p) (.inr ⟨e, e', h1, h2, .inr hp⟩)⟩
theorem NQ.symm {w1 w2 : Wb} {a b : Nat} (h : NQ w1 w2 a b) : NQ w2 w1 b a := fun p hp => h p (parts_symm hp)
theorem NQ.trans {w1 w2 w3 : Wb} : ∀ {a b c : Nat}, NQ w1 w2 a b → NQ w2 w3 b c → NQ w1 w3 a c := by
  intro a b c h g p
  induction p generalizing a b c with
  | nil =>
    rintro (z | z)
    · exact z (h.len.trans g.len)
    · exact z rfl
  | cons d p ih =>
    rintro ((z | z) | ⟨e, e'', h1, h3, z⟩)
    · exact z (h.len.trans g.len)
    · exact z rfl
    · have hd : d < (rowD w2 b).length := by rw [← h.len]; exact (List.getElem?_eq_some_iff.mp h1).1
      have h2 : (rowD w2 b)[d]? = some (rowD w2 b)[d] := List.getElem?_eq_getElem hd
      obtain ⟨a1, a2⟩ := h.step h1 h2
      obtain ⟨b1, b2⟩ := g.step h2 h3
      rcases z with z | z
      · exact z (a1.trans b1)
      · exact ih a2 b2 z
theorem NQ.kin {w : Wb} (hc : Closed w) {x y : Nat} (hx : x < w.length) (hy : y < w.length) (h : NQ w w x y) : kdN w x = kdN w y := np_kin hc hx hy h
/-! what is seen on a way -/
def seenO (w : Wb) (a : Nat) (p : List Nat) : D := match spots w a p with
  | some es => .tup (seenD w a es)
  | none => .non
def seL (w : Wb) (es : List End) : List D := es.map fun e => .tup [nD e.2, nD (rowL w e.1)]
theorem spots_cons (w : Wb) (a d : Nat) (p : List Nat) : spots w a (d :: p) = ((rowD w a)[d]?).bind fun e => (spots w e.1 p).map (e :: ·) := by
  have : aT w a d = (rowD w a)[d]? := by
    unfold aT rowD
    cases w[a]? <;> simp
  rw [← this]; rfl
theorem gd_seen {w : Wb} {a : Nat} {p : List Nat} : gd (seenO w a p) := by
  unfold seenO
  split
  · refine ⟨?_, ?_⟩
    · unfold seenD nD
      simp only [gn, gns, Bool.and_eq_true, true_and]
      have : ∀ l : List End, gns (l.map fun e => D.tup [.int e.2, .int (rowL w e.1)]) = true := by
        intro l
        induction l with
        | nil => rfl
        | cons e l ih => simp [gn, gns]; exact ih
      exact this _
    · unfold seenD nD
      simp only [dp, dps]
      have : ∀ l : List End, dps (l.map fun e => D.tup [.int e.2, .int (rowL w e.1)]) ≤ 3 := by
        intro l
        induction l with
        | nil => simp [dps]
        | cons e l ih => simp [dps, dp]; omega
      have := this ‹List End›
      omega
  · exact (gk_non (k := 0)).gd
end SW
namespace SW
open PySem L2

end SW
namespace SW
open PySem L2
end SW
namespace SW
open PySem L2

end SW
namespace SW
open PySem L2
end SW
namespace SW
open PySem L2

/-! no way of at most n doors parts -/
def NB (n : Nat) (w1 w2 : Wb) (a b : Nat) : Prop := ∀ p : List Nat, p.length ≤ n → ¬ parts w1 w2 ff ff a b p
theorem NB.symm {n : Nat} {w1 w2 : Wb} {a b : Nat} (h : NB n w1 w2 a b) : NB n w2 w1 b a := fun p hp z => h p hp (parts_symm z)
theorem NB.len {n : Nat} {w1 w2 : Wb} {a b : Nat} (h : NB n w1 w2 a b) : (rowD w1 a).length = (rowD w2 b).length :=
  Classical.byContradiction fun z => h [] (by simp) (.inl z)
theorem NB.step {n : Nat} {w1 w2 : Wb} {a b d : Nat} {e e' : End} (h : NB (n + 1) w1 w2 a b) (h1 : (rowD w1 a)[d]? = some e) (h2 : (rowD w2 b)[d]? = some e') : e.2 = e'.2 ∧ NB n w1 w2 e.1 e'.1 :=
  ⟨Classical.byContradiction fun z => h [d] (by simp) (.inr ⟨e, e', h1, h2, .inl z⟩), fun p hp z => h (d :: p) (by simp; omega) (.inr ⟨e, e', h1, h2, .inr z⟩)⟩
theorem NB.trans {w1 w2 w3 : Wb} : ∀ {n a b c : Nat}, NB n w1 w2 a b → NB n w2 w3 b c → NB n w1 w3 a c := by
  intro n a b c h g p
  induction p generalizing n a b c with
  | nil =>
    rintro _ (z | z)
    · exact z (h.len.trans g.len)
    · exact z rfl
  | cons d p ih =>
    rintro hn ((z | z) | ⟨e, e'', h1, h3, z⟩)
    · exact z (h.len.trans g.len)
    · exact z rfl
    · cases n with
      | zero => simp at hn
      | succ n =>
        have hd : d < (rowD w2 b).length := by rw [← h.len]; exact (List.getElem?_eq_some_iff.mp h1).1
        have h2 : (rowD w2 b)[d]? = some (rowD w2 b)[d] := List.getElem?_eq_getElem hd
        obtain ⟨a1, a2⟩ := h.step h1 h2
        obtain ⟨b1, b2⟩ := g.step h2 h3
        rcases z with z | z
        · exact z (a1.trans b1)
        · exact ih a2 b2 (by simp at hn; omega) z
theorem intsOf_ints : ∀ l : List Int, intsOf (l.map D.int) = some l
  | [] => rfl
  | a :: l => by
    show (intsOf (l.map D.int)).map _ = _
    rw [intsOf_ints l]; rfl
end SW
namespace SW
open PySem L2

end SW
namespace SW
open PySem L2
end SW
namespace SW
open PySem L2

end SW
namespace SW
open PySem L2
end SW
namespace SW
open PySem L2

end SW
namespace SW
open PySem L2

section
variable {τ : Tau} {S : Sto} {cs : List String} {f : Str}
theorem fst_at {n : Nat} {c : String} {fs : List (Str × D)} {d : D} (h : S[n]? = some (.ins c fs)) (hc : c ∈ cs) (hl : fs.length < 999) : fstD cs f (.loc n) d S = some (S.set n (.ins c (pF f d fs))) := by
  unfold fstD
  simp only [h]
  rw [if_pos ⟨hc, hl⟩]
end
/-! a walker -/
structure Wk where
  w : Wb
  r : Nat
  hand : Nat
  came : D
  steps : Nat
  ly : List Nat
def Wk.fs (W : Wk) (l : Nat) : List (Str × D) := [("web", wD W.w), ("room", nD W.r), ("stones_left", nD W.hand), ("came_by", W.came), ("gone_through", nD W.steps), ("lying", .loc l)]
def CameOk (d : D) : Prop := d = .non ∨ ∃ c : Nat, d = nD c
structure WkAt (S : Sto) (n l : Nat) (W : Wk) : Prop where
  ob : S[n]? = some (.ins "Walker" (W.fs l))
  ls : S[l]? = some (.lst (W.ly.map nD))
  ne : n ≠ l
  web : IsWeb W.w
  lt : W.r < W.w.length
  len : W.ly.length = W.w.length
  cm : CameOk W.came
theorem WkAt.of {S S' : Sto} {n l : Nat} {W : Wk} (h : WkAt S n l W) (e1 : S'[n]? = S[n]?) (e2 : S'[l]? = S[l]?) : WkAt S' n l W := ⟨e1.trans h.ob, e2.trans h.ls, h.ne, h.web, h.lt, h.len, h.cm⟩
section
variable {S : Sto} {n l : Nat} {W : Wk} {Q : D → Sto → Prop}
end
/-- what is here -/
def Wk.here (W : Wk) : D := .tup [nD (rowL W.w W.r), W.came, nD (W.ly.getD W.r 0)]
/-! what a walker does -/
structure FrW (S S' : Sto) (n l : Nat) : Prop where
  len : S'.length = S.length
  at_ : ∀ m, m ≠ n → m ≠ l → S'[m]? = S[m]?
def Wk.go (W : Wk) (e : End) : Wk := {W with r := e.1, came := nD e.2, steps := W.steps + 1}
def Wk.lay (W : Wk) : Wk := {W with hand := W.hand - 1, ly := W.ly.set W.r (W.ly.getD W.r 0 + 1)}
def Wk.take (W : Wk) : Wk := {W with hand := W.hand + 1, ly := W.ly.set W.r (W.ly.getD W.r 0 - 1)}
theorem WkAt.put {S : Sto} {n l : Nat} {W W' : Wk} {f : Str} {v : D} (h : WkAt S n l W) (e : pF f v (W.fs l) = W'.fs l) (hw : W'.w = W.w) (hr : W'.r < W.w.length) (hl : W'.ly = W.ly) (hc : CameOk W'.came) : WkAt (S.set n (.ins "Walker" (pF f v (W.fs l)))) n l W' ∧ FrW S (S.set n (.ins "Walker" (pF f v (W.fs l)))) n l :=
  ⟨⟨by rw [sto_set h.ob, e], by rw [sto_ne h.ne, hl]; exact h.ls, h.ne, by rw [hw]; exact h.web, by rw [hw]; exact hr, by rw [hl, hw]; exact h.len, hc⟩, by simp, fun m h1 _ => sto_ne (Ne.symm h1)⟩
theorem FrW.trans {S S' S2 : Sto} {n l : Nat} (a : FrW S S' n l) (b : FrW S' S2 n l) : FrW S S2 n l := ⟨b.len.trans a.len, fun m h1 h2 => (b.at_ m h1 h2).trans (a.at_ m h1 h2)⟩
def W0 (w : Wb) (r h : Nat) : Wk := ⟨w, r, h, .non, 0, List.replicate w.length 0⟩
/-! onlooker -/
def expL (L : List Nat) (i : Nat) : List Nat := (List.range i).flatMap fun k => List.replicate (L.getD k 0) k
def Wk.onl (W : Wk) : D := .tup [nD W.r, .tup ((expL W.ly W.ly.length).map nD)]
theorem expL_len (L : List Nat) : ∀ i, i ≤ L.length → (expL L i).length = (L.take i).sum
  | 0, _ => rfl
  | i + 1, h => by
    have hi : L[i]? = some (L.getD i 0) := by rw [List.getD_eq_getElem?_getD, List.getElem?_eq_getElem (by omega)]; rfl
    unfold expL
    rw [List.range_succ, List.flatMap_append, List.length_append, List.take_add_one, hi, List.sum_append]
    have := expL_len L i (by omega)
    unfold expL at this
    rw [this]
    simp
end SW
namespace SW
open PySem L2

/-! one deed -/
def Wk.did (W : Wk) (a b : Nat) : Wk × D :=
  if a < 4 ∧ 0 < rowL W.w W.r then
    match (rowD W.w W.r)[b % rowL W.w W.r]? with
    | some e => (W.go e, (W.go e).here)
    | none => (W, W.here)
  else if a < 6 ∧ 0 < W.hand then (W.lay, W.lay.here)
  else if 0 < W.ly.getD W.r 0 then (W.take, W.take.here)
  else (W, W.here)
theorem sb_tup {S : Sto} {ds : List D} {i : Int} {d : D} {Q : D → Sto → Prop} (h : atI ds i = some d) : Wp (sbD (.tup ds) (.int i) S) Q ↔ Q d S := by
  rw [wq_sbT]
  exact ⟨fun ⟨d', e, k⟩ => by rw [h] at e; cases e; exact k, fun k => ⟨_, h, k⟩⟩
/-! many deeds -/
def runW (W : Wk) (ds : List (Nat × Nat)) : Wk × List D := ds.foldl (fun p x => ((p.1.did x.1 x.2).1, p.2 ++ [(p.1.did x.1 x.2).2])) (W, [])
/-- what stays so on a walk: few stones, plain trees -/
structure Wk.Ok (W : Wk) (t : Nat) : Prop where
  came : CameOk W.came
  sum : W.hand + W.ly.sum = t
  lt : W.r < W.ly.length
theorem gn_came {d : D} (h : CameOk d) : gn d = true ∧ dp d = 0 := by
  rcases h with rfl | ⟨c, rfl⟩
  · exact ⟨rfl, rfl⟩
  · exact ⟨rfl, rfl⟩
theorem gn_here {W : Wk} {t : Nat} (h : W.Ok t) : gn W.here = true ∧ dp W.here ≤ 2 := by
  obtain ⟨h1, h2⟩ := gn_came h.came
  unfold Wk.here nD
  refine ⟨by simp [gn, gns, h1], ?_⟩
  simp [dp, dps, h2]
theorem sum_set : ∀ (L : List Nat) (i v : Nat), i < L.length → (L.set i v).sum + L.getD i 0 = L.sum + v
  | [], i, v, h => by simp at h
  | a :: L, 0, v, _ => by simp; omega
  | a :: L, i + 1, v, h => by
    have := sum_set L i v (by simpa using h)
    simp at this ⊢
    omega
theorem Wk.Ok.did {W : Wk} {t a b : Nat} (h : W.Ok t) (hc : ∀ (d : Nat) (e : End), (rowD W.w W.r)[d]? = some e → e.1 < W.ly.length) : (W.did a b).1.Ok t ∧ gn (W.did a b).2 = true ∧ dp (W.did a b).2 ≤ 2 ∧ (W.did a b).1.w = W.w ∧ (W.did a b).1.ly.length = W.ly.length := by
  have self : W.Ok t ∧ gn W.here = true ∧ dp W.here ≤ 2 ∧ W.w = W.w ∧ W.ly.length = W.ly.length := ⟨h, (gn_here h).1, (gn_here h).2, rfl, rfl⟩
  unfold Wk.did
  split
  · split
    · rename_i e he
      have h2 : (W.go e).Ok t := ⟨.inr ⟨e.2, rfl⟩, h.sum, hc _ e he⟩
      exact ⟨h2, (gn_here h2).1, (gn_here h2).2, rfl, rfl⟩
    · exact self
  · split
    · rename_i h3
      have hs := sum_set W.ly W.r (W.ly.getD W.r 0 + 1) h.lt
      have h2 : (W.lay).Ok t := ⟨h.came, by have := h.sum; show W.hand - 1 + (W.ly.set W.r (W.ly.getD W.r 0 + 1)).sum = t; omega, by have := h.lt; simpa [Wk.lay] using this⟩
      exact ⟨h2, (gn_here h2).1, (gn_here h2).2, rfl, by simp [Wk.lay]⟩
    · split
      · rename_i h3
        have hs := sum_set W.ly W.r (W.ly.getD W.r 0 - 1) h.lt
        have h2 : (W.take).Ok t := ⟨h.came, by have := h.sum; show W.hand + 1 + (W.ly.set W.r (W.ly.getD W.r 0 - 1)).sum = t; omega, by have := h.lt; simpa [Wk.take] using this⟩
        exact ⟨h2, (gn_here h2).1, (gn_here h2).2, rfl, by simp [Wk.take]⟩
      · exact self
end SW
namespace SW
open PySem L2

structure Ad where
  (p4 p5 n0 l0 n1 l1 p6 d0 d1 p7 t0 t1 p8 : Nat)
def prN (x : Nat × Nat) : D := .tup [nD x.1, nD x.2]
structure L28 (S : Sto) (c b z : Nat) (cs : List Int) (A : Ad) (w : Wb) (s0 s1 h0 h1 : Nat) (x0 x1 : List (Nat × Nat)) : Prop where
  hc : S[c]? = some (.lst (cs.map D.int))
  bx : Bx S b z
  a4 : S[A.p4]? = some (.lst [nD s0, nD s1])
  a5 : S[A.p5]? = some (.lst [nD h0, nD h1])
  w0 : WkAt S A.n0 A.l0 (runW (W0 w s0 h0) x0).1
  w1 : WkAt S A.n1 A.l1 (runW (W0 w s1 h1) x1).1
  a6 : S[A.p6]? = some (.lst [.loc A.n0, .loc A.n1])
  e0 : S[A.d0]? = some (.lst (x0.map prN))
  e1 : S[A.d1]? = some (.lst (x1.map prN))
  a7 : S[A.p7]? = some (.lst [.loc A.d0, .loc A.d1])
  t0 : S[A.t0]? = some (.lst (runW (W0 w s0 h0) x0).2)
  t1 : S[A.t1]? = some (.lst (runW (W0 w s1 h1) x1).2)
  a8 : S[A.p8]? = some (.lst [.loc A.t0, .loc A.t1])
  ord : c < b ∧ b < A.p4 ∧ A.p4 < A.p5 ∧ A.p5 < A.n0 ∧ A.n0 < A.l0 ∧ A.l0 < A.n1 ∧ A.n1 < A.l1 ∧ A.l1 < A.p6 ∧ A.p6 < A.d0 ∧ A.d0 < A.d1 ∧ A.d1 < A.p7 ∧ A.p7 < A.t0 ∧ A.t0 < A.t1 ∧ A.t1 < A.p8 ∧ A.p8 < S.length
end SW
namespace SW
open PySem L2

theorem L28.keep {S S' : Sto} {c b z : Nat} {cs : List Int} {A : Ad} {w : Wb} {s0 s1 h0 h1 : Nat} {x0 x1 : List (Nat × Nat)} (H : L28 S c b z cs A w s0 s1 h0 h1 x0 x1) (l : S.length ≤ S'.length) (f : ∀ m, m < S.length → S'[m]? = S[m]?) : L28 S' c b z cs A w s0 s1 h0 h1 x0 x1 := by
  have ord := H.ord
  exact { hc := by rw [f _ (by omega)]; exact H.hc, bx := H.bx.of (f _ (by omega)), a4 := by rw [f _ (by omega)]; exact H.a4, a5 := by rw [f _ (by omega)]; exact H.a5, w0 := H.w0.of (f _ (by omega)) (f _ (by omega)), w1 := H.w1.of (f _ (by omega)) (f _ (by omega)), a6 := by rw [f _ (by omega)]; exact H.a6, e0 := by rw [f _ (by omega)]; exact H.e0, e1 := by rw [f _ (by omega)]; exact H.e1, a7 := by rw [f _ (by omega)]; exact H.a7, t0 := by rw [f _ (by omega)]; exact H.t0, t1 := by rw [f _ (by omega)]; exact H.t1, a8 := by rw [f _ (by omega)]; exact H.a8, ord := by omega }
end SW
namespace SW
open PySem L2
end SW
namespace SW
open PySem L2

/-! views: trees as deep as asked -/
def viewT (w : Wb) : Nat → Nat → D
  | 0, r => .tup [nD (rowL w r)]
  | k + 1, r => .tup (nD (rowL w r) :: (rowD w r).map fun e => .tup [nD e.2, viewT w k e.1])
theorem nD_inj' {a b : Nat} (h : nD a = nD b) : a = b := by
  have e : ∀ a : Nat, nD a = .int (a : Int) := fun _ => rfl
  rw [e, e] at h
  injection h with h
  omega
/-! the walk -/
structure Wk.Like (W W' : Wk) : Prop where
  w : W'.w = W.w
  hand : W'.hand = W.hand
  ly : W'.ly = W.ly
  steps : W.steps ≤ W'.steps
theorem Wk.Like.refl (W : Wk) : W.Like W := ⟨rfl, rfl, rfl, Nat.le_refl _⟩
theorem Wk.Like.trans {W W' W2 : Wk} (a : W.Like W') (b : W'.Like W2) : W.Like W2 := ⟨b.w.trans a.w, b.hand.trans a.hand, b.ly.trans a.ly, Nat.le_trans a.steps b.steps⟩
structure FrV (S S' : Sto) (n l : Nat) : Prop where
  len : S.length ≤ S'.length
  at_ : ∀ m, m < S.length → m ≠ n → m ≠ l → S'[m]? = S[m]?
theorem FrV.trans {S S' S2 : Sto} {n l : Nat} (a : FrV S S' n l) (b : FrV S' S2 n l) : FrV S S2 n l := ⟨Nat.le_trans a.len b.len, fun m h h1 h2 => (b.at_ m (by have := a.len; omega) h1 h2).trans (a.at_ m h h1 h2)⟩
theorem FrW.v {S S' : Sto} {n l : Nat} (a : FrW S S' n l) : FrV S S' n l := ⟨by rw [a.len]; exact Nat.le_refl _, fun m _ h1 h2 => a.at_ m h1 h2⟩
end SW
namespace SW
open PySem L2
end SW
namespace SW
open PySem L2

/-! a way gone by a walker -/
theorem WayAt.fr {S S' : Sto} {n l : Nat} {d : D} {ds : List Nat} (h : WayAt S d ds) (f : FrV S S' n l) (hn : d ≠ .loc n) (hl : d ≠ .loc l) : WayAt S' d ds := by
  unfold WayAt at h ⊢
  split at h
  · exact h
  · rename_i m
    rw [f.at_ m (sto_lt h) (fun e => hn (by rw [e])) (fun e => hl (by rw [e]))]
    exact h
  · exact h.elim
end SW
namespace SW
open PySem L2

end SW
namespace SW
open PySem L2

def Ln.fs (n k lv lw lm : Nat) : List (Str × D) := [("walker", .loc n), ("deep", nD k), ("views", .loc lv), ("ways", .loc lw), ("made", .loc lm)]
structure Ln (S : Sto) (g n l lv lw lm : Nat) (W : Wk) (k a : Nat) (L ps : List Nat) : Prop where
  ob : S[g]? = some (.ins "Learning" (Ln.fs n k lv lw lm))
  wk : WkAt S n l W
  vs : S[lv]? = some (.lst (L.map (viewT W.w k)))
  ws : S[lw]? = some (.lst (ps.map D.loc))
  lt : ∀ s ∈ L, s < W.w.length
  nd : (L.map (viewT W.w k)).Nodup
  pl : ps.length = L.length
  way : ∀ (i p s : Nat), ps[i]? = some p → L[i]? = some s → ∃ (ds : List Nat) (es : List End), S[p]? = some (.lst (ds.map nD)) ∧ spots W.w a ds = some es ∧ lastR a es = s ∧ ds.length ≤ i
  od : n < g ∧ l < g ∧ g < lv ∧ lv < lw ∧ lw < lm ∧ ∀ p ∈ ps, lm < p
section
variable {S : Sto} {g n l lv lw lm k a : Nat} {W : Wk} {L ps : List Nat} {Q : D → Sto → Prop}
theorem Ln.few (h : Ln S g n l lv lw lm W k a L ps) : L.length ≤ W.w.length := by
  have h1 : L.Nodup := List.Pairwise.of_map _ (fun a b z e => z (by rw [e])) h.nd
  exact nodup_le h1 h.lt
/-- the walker went somewhere, new things were made -/
theorem Ln.go {S' : Sto} {W' : Wk} (h : Ln S g n l lv lw lm W k a L ps) (h' : WkAt S' n l W') (e : W'.w = W.w) (f : FrV S S' n l) : Ln S' g n l lv lw lm W' k a L ps := by
  obtain ⟨o1, o2, o3, o4, o5, o6⟩ := h.od
  have hg := sto_lt h.ob
  have hv := sto_lt h.vs
  have hw := sto_lt h.ws
  refine ⟨(f.at_ _ hg (by omega) (by omega)).trans h.ob, h', ?_, (f.at_ _ hw (by omega) (by omega)).trans h.ws, by rw [e]; exact h.lt, by rw [e]; exact h.nd, h.pl, fun i p s h1 h2 => ?_, h.od⟩
  · rw [e]; exact (f.at_ _ hv (by omega) (by omega)).trans h.vs
  · obtain ⟨ds, es, a1, a2, a3, a4⟩ := h.way i p s h1 h2
    have := o6 p (List.mem_of_getElem? h1)
    exact ⟨ds, es, (f.at_ _ (sto_lt a1) (by omega) (by omega)).trans a1, by rw [e]; exact a2, a3, a4⟩
end
/-- a place that is none of these changes -/
theorem Ln.keep {S S' : Sto} {g n l lv lw lm k a x : Nat} {W : Wk} {L ps : List Nat} (h : Ln S g n l lv lw lm W k a L ps) (hx : lm ≤ x) (hp : x ∉ ps) (f : ∀ m, m ≠ x → S'[m]? = S[m]?) : Ln S' g n l lv lw lm W k a L ps := by
  obtain ⟨o1, o2, o3, o4, o5, o6⟩ := h.od
  refine ⟨(f _ (by omega)).trans h.ob, h.wk.of (f _ (by omega)) (f _ (by omega)), (f _ (by omega)).trans h.vs, (f _ (by omega)).trans h.ws, h.lt, h.nd, h.pl, fun i p s h1 h2 => ?_, h.od⟩
  obtain ⟨ds, es, a1, a2, a3, a4⟩ := h.way i p s h1 h2
  have : p ≠ x := fun e => hp (e ▸ List.mem_of_getElem? h1)
  exact ⟨ds, es, (f _ this).trans a1, a2, a3, a4⟩
structure FrL (S S' : Sto) (n l lv lw : Nat) : Prop where
  len : S.length ≤ S'.length
  at_ : ∀ m, m < S.length → m ≠ n → m ≠ l → m ≠ lv → m ≠ lw → S'[m]? = S[m]?
theorem FrV.l {S S' : Sto} {n l lv lw : Nat} (f : FrV S S' n l) : FrL S S' n l lv lw := ⟨f.len, fun m h1 h2 h3 _ _ => f.at_ m h1 h2 h3⟩
theorem FrL.trans {S S' S2 : Sto} {n l lv lw : Nat} (a : FrL S S' n l lv lw) (b : FrL S' S2 n l lv lw) : FrL S S2 n l lv lw := ⟨Nat.le_trans a.len b.len, fun m h h1 h2 h3 h4 => (b.at_ m (by have := a.len; omega) h1 h2 h3 h4).trans (a.at_ m h h1 h2 h3 h4)⟩
end SW
namespace SW
open PySem L2

theorem FrL.lt {S S' : Sto} {n l lv lw m : Nat} (f : FrL S S' n l lv lw) (h : m < S.length) : m < S'.length := Nat.lt_of_lt_of_le h f.len
end SW
namespace SW
open PySem L2

end SW
namespace SW
open PySem L2

end SW
namespace SW
open PySem L2

theorem take_filter {f : Nat → Bool} {xs : List Nat} {i x : Nat} (h : xs[i]? = some x) : (xs.take (i + 1)).filter f = (xs.take i).filter f ++ (if f x = true then [x] else []) := by
  rw [List.take_add_one, h, List.filter_append]
  cases e : f x <;> simp [e]
end SW
namespace SW
open PySem L2

end SW
namespace SW
open PySem L2

/-! where a walker may be -/
def kinL (w : Wb) (r : Nat) : List Nat := (List.range w.length).filter fun x => decide (kdN w x = kdN w r)
end SW
namespace SW
open PySem L2

end SW
namespace SW
open PySem L2

/-! one asked, the other one not -/
theorem wq_eqLN {S : Sto} {m n : Nat} {k l : List Nat} {Q : D → Sto → Prop} (h1 : S[m]? = some (.lst (k.map nD))) (h2 : S[n]? = some (.lst (l.map nD))) : Wp (eqD (.loc m) (.loc n) S) Q ↔ Q (.bl (decide (k = l))) S := by
  have e : ∀ k : List Nat, k.map nD = (k.map fun n : Nat => (n : Int)).map D.int := fun k => by rw [List.map_map]; rfl
  rw [e] at h1 h2
  rw [wq_eqL h1 h2]
  have : decide ((k.map fun n : Nat => (n : Int)) = l.map fun n : Nat => (n : Int)) = decide (k = l) := by
    by_cases h : k = l
    · subst h; simp
    · have : ¬ (k.map fun n : Nat => (n : Int)) = l.map fun n : Nat => (n : Int) := fun z => h (ints_inj z)
      simp [h, this]
  rw [this]
end SW
namespace SW
open PySem L2

end SW
namespace SW
open PySem L2
end SW
namespace SW
open PySem L2
def b_l_box_v2 : EvS := (seqS (stS 2 (cE (.int 0)))
  (seqS (ifS (tB (b2E ltD (vE 1) (aE lenD (consA (vE 0) nilA)))) (stS 2 (b2E sbD (vE 0) (vE 1))) nxS)
  (seqS (stS 3 (cE (.int 0)))
  (seqS (ifS (tB (b2E geD (aE absD (consA (vE 2) nilA)) (b2E powD (cE (.int 10)) (cE (.int 18))))) (stS 3 (aE absD (consA (vE 2) nilA))) nxS)
  (rtS (aE lstD (consA (vE 3) (consA (b2E modD (b2E mulD (b2E addD (b2E addD (b2E modD (vE 2) (cE (.int 2147483647))) (b2E mulD (cE (.int 7919)) (vE 1))) (cE (.int 11))) (cE (.int 48271))) (cE (.int 2147483629))) (consA (cE (.int 0)) nilA)))))))))
def g_l_box_v2 : Fn := fnD 2 4 b_l_box_v2
def b_l_boxes : EvS := (seqS (stS 2 (lcE (rgI1 (aE max2D (consA (cE (.int 1)) (consA (aE min2D (consA (vE 1) (consA (aE lenD (consA (vE 0) nilA)) nilA))) nilA)))) (.nm 3) yesT (aE sumD (consA (slE3 (vE 0) (someO (vE 3)) (someO (cE (.int 63))) (someO (vE 1))) nilA)) [3]))
  (rtS (lcE (rgI1 (aE lenD (consA (vE 2) nilA))) (.nm 3) yesT (aE g_l_box_v2 (consA (vE 2) (consA (vE 3) nilA))) [3])))
def g_l_boxes : Fn := fnD 2 4 b_l_boxes
def b_l_take_v2 : EvS := (seqS (ifS (tB (b2E gtD (b2E sbD (vE 0) (cE (.int 0))) (cE (.int 0)))) (seqS (stS 3 (b2E modD (b2E sbD (vE 0) (cE (.int 0))) (vE 1)))
  (seqS (asS (b2E fdivD (b2E sbD (vE 0) (cE (.int 0))) (vE 1)) (subG (vE 0) (cE (.int 0))))
  (rtS (vE 3)))) nxS)
  (seqS (asS (b2E addD (b2E sbD (vE 0) (cE (.int 2))) (cE (.int 1))) (subG (vE 0) (cE (.int 2))))
  (seqS (stS 2 (b2E modD (b2E mulD (b2E addD (b2E sbD (vE 0) (cE (.int 1))) (b2E mulD (cE (.int 39373)) (b2E sbD (vE 0) (cE (.int 2))))) (b2E addD (cE (.int 48271)) (b2E sbD (vE 0) (cE (.int 2))))) (cE (.int 2147483647))))
  (seqS (asS (b2E modD (b2E addD (b2E mulD (vE 2) (b2E addD (b2E modD (vE 2) (cE (.int 40009))) (cE (.int 7)))) (b2E sbD (vE 0) (cE (.int 2)))) (cE (.int 2147483629))) (subG (vE 0) (cE (.int 1))))
  (rtS (b2E modD (b2E fdivD (b2E modD (b2E mulD (b2E sbD (vE 0) (cE (.int 1))) (b2E addD (b2E modD (b2E sbD (vE 0) (cE (.int 1))) (cE (.int 1009))) (cE (.int 3)))) (cE (.int 998244353))) (cE (.int 7))) (vE 1)))))))
def g_l_take_v2 : Fn := fnD 2 4 b_l_take_v2
def b_l_web_v2 : EvS := (seqS (stS 3 (lcE (rgI1 (vE 1)) (.nm 7) yesT (aE lstD nilA) [7]))
  (seqS (stS 4 nK)
  (seqS (forS (rgI1 (b2E addD (b2E subD (vE 1) (cE (.int 1))) (vE 2))) (.nm 5) (seqS (stS 8 (lcE (rgI1 (vE 1)) (.nm 7) (tB (b2E ltD (aE lenD (consA (b2E sbD (vE 3) (vE 7)) nilA)) (cE (.int 5)))) (vE 7) [7]))
  (seqS (ifS (tB (b2E eqD (vE 8) (aE lstD nilA))) ctS nxS)
  (seqS (stS 9 (b2E sbD (vE 8) (aE g_l_take_v2 (consA (vE 0) (consA (aE lenD (consA (vE 8) nilA)) nilA)))))
  (seqS (stS 10 (b2E sbD (vE 8) (aE g_l_take_v2 (consA (vE 0) (consA (aE lenD (consA (vE 8) nilA)) nilA)))))
  (seqS (ifS (tB (b2E ltD (vE 5) (b2E subD (vE 1) (cE (.int 1))))) (seqS (stS 10 (b2E addD (vE 5) (cE (.int 1))))
  (seqS (stS 12 (lcE (sqI (vE 8)) (.nm 7) (tB (b2E leD (vE 7) (vE 5))) (vE 7) [7]))
  (stS 9 (b2E sbD (vE 12) (aE g_l_take_v2 (consA (vE 0) (consA (aE lenD (consA (vE 12) nilA)) nilA))))))) nxS)
  (seqS (stS 11 (andE (b2E geD (vE 5) (b2E subD (vE 1) (cE (.int 1)))) (b2E eqD (aE g_l_take_v2 (consA (vE 0) (consA (cE (.int 4)) nilA))) (cE (.int 0)))))
  (seqS (asS (vE 11) (subG (vE 4) (vE 5)))
  (seqS (exS (mE insertM (b2E sbD (vE 3) (vE 9)) (consA (aE g_l_take_v2 (consA (vE 0) (consA (b2E addD (aE lenD (consA (b2E sbD (vE 3) (vE 9)) nilA)) (cE (.int 1))) nilA))) (consA (aE tupD (consA (vE 5) (consA (cE (.int 0)) nilA))) nilA))))
  (ifS (notT (tB (vE 11))) (exS (mE insertM (b2E sbD (vE 3) (vE 10)) (consA (aE g_l_take_v2 (consA (vE 0) (consA (b2E addD (aE lenD (consA (b2E sbD (vE 3) (vE 10)) nilA)) (cE (.int 1))) nilA))) (consA (aE tupD (consA (vE 5) (consA (cE (.int 1)) nilA))) nilA)))) nxS))))))))))
  (seqS (stS 6 nT)
  (seqS (forS (rgI1 (vE 1)) (.nm 7) (forS (enI (b2E sbD (vE 3) (vE 7))) (.tp [(.nm 13), (.nm 14)]) (asS (aE tupD (consA (vE 7) (consA (vE 13) nilA))) (subG (vE 6) (vE 14)))))
  (rtS (aE tupleD (consA (lcE (sqI (vE 3)) (.nm 15) yesT (aE tupleD (consA (lcE (sqI (vE 15)) (.tp [(.nm 5), (.nm 14)]) yesT (b2E sbD (vE 6) (aE tupD (consA (vE 5) (consA (iteE (tB (b2E sbD (vE 4) (vE 5))) (vE 14) (b2E subD (cE (.int 1)) (vE 14))) nilA)))) [5, 14]) nilA)) [15]) nilA))))))))
def g_l_web_v2 : Fn := fnD 3 16 b_l_web_v2
def b_l_way_v2 : EvS := (seqS (stS 4 (aE lstD nilA))
  (seqS (stS 5 (aE lstD nilA))
  (seqS (forS (rgI1 (vE 3)) (.nm 6) (seqS (stS 7 (aE lenD (consA (b2E sbD (vE 1) (vE 2)) nilA)))
  (seqS (ifS (tB (b2E eqD (vE 7) (cE (.int 0)))) (rtS (aE tupleD (consA (vE 4) nilA))) nxS)
  (seqS (stS 8 (lcE (rgI1 (vE 7)) (.nm 9) (tB (b2E notInD (aE tupD (consA (vE 2) (consA (vE 9) nilA))) (vE 5))) (vE 9) [9]))
  (seqS (ifS (orT' (tB (b2E eqD (vE 8) (aE lstD nilA))) (tB (b2E eqD (aE g_l_take_v2 (consA (vE 0) (consA (cE (.int 5)) nilA))) (cE (.int 0))))) (stS 8 (rgL (r1R (vE 7)))) nxS)
  (seqS (stS 9 (b2E sbD (vE 8) (aE g_l_take_v2 (consA (vE 0) (consA (aE lenD (consA (vE 8) nilA)) nilA)))))
  (seqS (exS (mE appendM (vE 4) (consA (vE 9) nilA)))
  (seqS (exS (mE appendM (vE 5) (consA (aE tupD (consA (vE 2) (consA (vE 9) nilA))) nilA)))
  (seqS (exS (mE appendM (vE 5) (consA (b2E sbD (b2E sbD (vE 1) (vE 2)) (vE 9)) nilA)))
  (stS 2 (b2E sbD (b2E sbD (b2E sbD (vE 1) (vE 2)) (vE 9)) (cE (.int 0)))))))))))))
  (rtS (aE tupleD (consA (vE 4) nilA))))))
def g_l_way_v2 : Fn := fnD 4 10 b_l_way_v2
def b_l_story : EvS := (seqS (stS 3 (aE lstD nilA))
  (seqS (stS 4 (aE lenD (consA (b2E sbD (vE 0) (vE 1)) nilA)))
  (seqS (forS (sqI (vE 2)) (.nm 5) (seqS (asS (b2E sbD (b2E sbD (vE 0) (vE 1)) (vE 5)) (patG (.tp [(.nm 1), (.nm 6)])))
  (exS (mE appendM (vE 3) (consA (aE tupD (consA (vE 5) (consA (vE 6) (consA (aE lenD (consA (b2E sbD (vE 0) (vE 1)) nilA)) nilA)))) nilA)))))
  (rtS (aE tupD (consA (vE 4) (consA (aE tupleD (consA (vE 3) nilA)) nilA)))))))
def g_l_story : Fn := fnD 3 7 b_l_story
def b_l_same_v2 (self : Fn) : EvS := (seqS (ifS (tB (aE isiD (consA (vE 1) (consA (aE tupD (consA (cE (.ty "list")) (consA (cE (.ty "tuple")) nilA))) nilA)))) (seqS (ifS (orT' (notT (tB (aE isiD (consA (vE 0) (consA (aE tupD (consA (cE (.ty "list")) (consA (cE (.ty "tuple")) nilA))) nilA))))) (tB (b2E neD (aE isiD (consA (vE 0) (consA (cE (.ty "list")) nilA))) (aE isiD (consA (vE 1) (consA (cE (.ty "list")) nilA)))))) (rtS (cE (.bl false))) nxS)
  (rtS (andE (b2E eqD (aE lenD (consA (vE 0) nilA)) (aE lenD (consA (vE 1) nilA))) (aE allD (consA (lcE (ziI (vE 0) (vE 1)) (.tp [(.nm 2), (.nm 3)]) yesT (aE self (consA (vE 2) (consA (vE 3) nilA))) [2, 3]) nilA))))) nxS)
  (seqS (ifS (tB (b2E isD (vE 1) (cE .non))) (rtS (b2E isD (vE 0) (cE .non))) nxS)
  (rtS (andE (aE isiD (consA (vE 0) (consA (cE (.ty "int")) nilA))) (andE (b2E eqD (aE isiD (consA (vE 0) (consA (cE (.ty "bool")) nilA))) (aE isiD (consA (vE 1) (consA (cE (.ty "bool")) nilA)))) (b2E eqD (vE 0) (vE 1)))))))
def g_l_same_v2 : Nat → Fn
  | 0 => fun _ _ => none
  | n + 1 => fnD 2 4 (b_l_same_v2 (g_l_same_v2 n))
def b_story_way : EvS := (rtS (aE tupleD (consA (lcE (sqI (b2E sbD (vE 0) (cE (.int 1)))) (.nm 1) yesT (b2E sbD (vE 1) (cE (.int 0))) [1]) nilA)))
def g_story_way : Fn := fnD 1 2 b_story_way
def b_story_sight : EvS := (rtS (b2E addD (aE tupD (consA (b2E sbD (vE 0) (cE (.int 0))) nilA)) (aE tupleD (consA (lcE (sqI (b2E sbD (vE 0) (cE (.int 1)))) (.nm 1) yesT (aE tupleD (consA (slE (vE 1) (someO (cE (.int 1))) noO) nilA)) [1]) nilA))))
def g_story_sight : Fn := fnD 1 2 b_story_sight
def b_fits : EvS := (rtS (b2E eqD (aE g_seen (consA (vE 0) (consA (vE 1) (consA (aE g_story_way (consA (vE 2) nilA)) nilA)))) (aE g_story_sight (consA (vE 2) nilA))))
def g_fits : Fn := fnD 3 3 b_fits
def b_l_last : EvS := (seqS (ifS (tB (b2E neD (aE lenD (consA (b2E sbD (vE 0) (vE 1)) nilA)) (b2E sbD (vE 2) (cE (.int 0))))) (rtS (cE .non)) nxS)
  (seqS (forS (sqI (b2E sbD (vE 2) (cE (.int 1)))) (.tp [(.nm 3), (.nm 4), (.nm 5)]) (seqS (ifS (tB (b2E geD (vE 3) (aE lenD (consA (b2E sbD (vE 0) (vE 1)) nilA)))) (rtS (cE .non)) nxS)
  (seqS (asS (b2E sbD (b2E sbD (vE 0) (vE 1)) (vE 3)) (patG (.tp [(.nm 1), (.nm 6)])))
  (ifS (orT' (tB (b2E neD (vE 6) (vE 4))) (tB (b2E neD (aE lenD (consA (b2E sbD (vE 0) (vE 1)) nilA)) (vE 5)))) (rtS (cE .non)) nxS))))
  (rtS (vE 1))))
def g_l_last : Fn := fnD 3 7 b_l_last
end SW
namespace SW
open PySem L2
end SW
namespace SW
open PySem L2

theorem seenC_ok {S : Sto} {w : Wb} {r : Nat} {d : D} {ds : List Nat} {Q : D → Sto → Prop} (hc : Closed w) (hr : r < w.length) (hd : WayAt S d ds) (hl : ds.length ≤ 900000)
    (q1 : ∀ (S' : Sto) (es : List End), spots w r ds = some es → S'.length = S.length + 1 → (∀ n, n < S.length → S'[n]? = S[n]?) → Q (.tup (seenD w r es)) S')
    (q2 : ∀ S' : Sto, spots w r ds = none → S'.length = S.length + 1 → (∀ n, n < S.length → S'[n]? = S[n]?) → Q .non S') : Wp (g_seen [wD w, .int r, d] S) Q := by
  unfold g_seen
  refine (wp_fnD (by rfl)).mpr ?_
  unfold b_seen
  have hrow0 : w[r]? = some w[r] := List.getElem?_eq_getElem hr
  generalize w[r] = row0 at hrow0
  (simp! only [wq_row hrow0, len_row])
  refine lo_way (hd.of fun n hn => sto_app hn) (SeI S w r d ds) ⟨[], _, _, rfl, rfl, ?_, by simp, fun n hn => sto_app hn⟩ (fun i τ S' ⟨_, _, _, _, _, _, _, f⟩ => hd.of f) ?_ ?_
  · rw [sto_new]
    unfold seenD
    rw [rowL_of hrow0]; rfl
  · rintro i x τ S1 hx ⟨es, o4, o5, rfl, hs, hf, hl1, fr⟩
    refine ⟨_, pb_nm, ?_⟩
    have hrl := spots_lt hc _ r es hr hs
    have hel := spots_len _ r es hs
    rw [List.length_take] at hel
    have hil : i < ds.length := (List.getElem?_eq_some_iff.mp hx).1
    have hrow : w[lastR r es]? = some w[lastR r es] := List.getElem?_eq_getElem hrl
    generalize w[lastR r es] = row at hrow
    (simp! only [wq_row hrow, len_row])
    by_cases h : x < row.length
    · rw [if_neg (by omega)]
      have he : row[x]? = some row[x] := List.getElem?_eq_getElem h
      generalize row[x] = e at he
      have ha : aT w (lastR r es) x = some e := aT_some.mpr ⟨row, hrow, he⟩
      have hst := spots_take hs hx
      rw [ha] at hst
      have hre : e.1 < w.length := hc _ _ e.1 e.2 ha
      have hrow2 : w[e.1]? = some w[e.1] := List.getElem?_eq_getElem hre
      generalize w[e.1] = row2 at hrow2
      have hsl : (seenD w r es).length = es.length + 1 := by simp [seenD]
      (simp! only [wq_row hrow, wq_door he, eD, isLst_loc hf, wq_row hrow2, len_row, wq_append hf, hsl])
      refine ⟨by omega, es ++ [e], some (.int (x : Int)), some (.int (e.2 : Int)), ?_, hst, ?_, by simpa using hl1, fun n hn => by rw [sto_ne (by omega)]; exact fr n hn⟩
      · rw [lastR_app]
      · rw [sto_set hf]
        unfold seenD
        rw [List.map_append, ← rowL_of hrow2]; rfl
    · rw [if_pos (by omega)]
      have ha : aT w (lastR r es) x = none := by
        unfold aT
        rw [hrow, Option.bind_some, List.getElem?_eq_none_iff]; omega
      (simp! only [])
      exact q2 S1 (spots_stop hs hx ha) hl1 fr
  · rintro τ S1 ⟨es, o4, o5, rfl, hs, hf, hl1, fr⟩
    rw [List.take_length] at hs
    (simp! only [wq_tupleL hf])
    exact q1 S1 es hs hl1 fr
theorem wp_take2 {S : Sto} {b : Nat} {x y z m : Int} {Q : D → Sto → Prop} (h : S[b]? = some (boxD x y z)) (hx : 0 ≤ x) (hy : 0 ≤ y ∧ y < 2147483629) (hz : 0 ≤ z ∧ z < 1000000) (hm : 0 < m ∧ m < 1000000)
    (k : ∀ v x' y' z', 0 ≤ v ∧ v < m → 0 ≤ x' → 0 ≤ y' ∧ y' < 2147483629 → 0 ≤ z' ∧ z' ≤ z + 1 → Q (.int v) (S.set b (boxD x' y' z'))) : Wp (g_l_take_v2 [.loc b, .int m] S) Q := by
  unfold g_l_take_v2
  refine (wp_fnD (by rfl)).mpr ?_
  unfold b_l_take_v2 boxD at *
  (simp! only [wq_sbL h, at3_0])
  split
  · simp only [stD_L h, List.length_cons, List.length_nil, Nat.reduceAdd, ix3_0, Option.map_some, Option.some.injEq, exists_eq_left', List.set_cons_zero]
    refine ⟨hm.1, ⟨hm.1, by omega⟩, k _ _ _ _ ⟨Int.emod_nonneg _ (by omega), Int.emod_lt_of_pos _ hm.1⟩ (Int.ediv_nonneg hx (by omega)) hy ⟨hz.1, by omega⟩⟩
  · (simp! only [wq_sbL h, at3_2])
    simp only [stD_L h, List.length_cons, List.length_nil, Nat.reduceAdd, ix3_2, Option.map_some, Option.some.injEq, exists_eq_left', List.set_cons_zero, List.set_cons_succ]
    have h2 : (S.set b (.lst [.int x, .int y, .int (z + 1)]))[b]? = some (.lst [.int x, .int y, .int (z + 1)]) := sto_set h
    (simp! only [wq_sbL h2, at3_1, at3_2, stD_L h2, ix3_1, Option.map_some])
    have a0 : 0 ≤ (y + 39373 * (z + 1)) * (48271 + (z + 1)) % 2147483647 := Int.emod_nonneg _ (by omega)
    have a1 : (y + 39373 * (z + 1)) * (48271 + (z + 1)) % 2147483647 < 2147483647 := Int.emod_lt_of_pos _ (by omega)
    generalize (y + 39373 * (z + 1)) * (48271 + (z + 1)) % 2147483647 = w at a0 a1 ⊢
    have b0 : 0 ≤ (w * (w % 40009 + 7) + (z + 1)) % 2147483629 := Int.emod_nonneg _ (by omega)
    have b1 : (w * (w % 40009 + 7) + (z + 1)) % 2147483629 < 2147483629 := Int.emod_lt_of_pos _ (by omega)
    generalize (w * (w % 40009 + 7) + (z + 1)) % 2147483629 = u at b0 b1 ⊢
    have h3 : ((S.set b (.lst [.int x, .int y, .int (z + 1)])).set b (.lst [.int x, .int u, .int (z + 1)]))[b]? = some (.lst [.int x, .int u, .int (z + 1)]) := sto_set h2
    (simp! only [wq_sbL h3, at3_1, at3_2])
    rw [List.set_set]
    refine ⟨by omega, by omega, by omega, by omega, by omega, by omega, by omega, by omega, by omega, ⟨by omega, by omega⟩, hm.1, ?_⟩
    exact k _ _ _ _ ⟨Int.emod_nonneg _ (by omega), Int.emod_lt_of_pos _ hm.1⟩ hx ⟨b0, b1⟩ ⟨by omega, by omega⟩
theorem take2_ok {S : Sto} {b z m : Nat} {Q : D → Sto → Prop} (h : Bx S b z) (hz : z < 1000000) (hm : 0 < m) (hm2 : m < 1000000)
    (k : ∀ (v : Nat) (S' : Sto), v < m → Bx S' b (z + 1) → S'.length = S.length → (∀ n, n ≠ b → S'[n]? = S[n]?) → Q (.int v) S') : Wp (g_l_take_v2 [.loc b, .int m] S) Q := by
  obtain ⟨x, y, z', e, hx, hy, h0, h1⟩ := h
  refine wp_take2 e hx hy ⟨h0, by omega⟩ ⟨by omega, by omega⟩ fun v x' y' z2 hv a1 a2 a3 => ?_
  obtain ⟨w, rfl⟩ : ∃ w : Nat, v = w := ⟨v.toNat, by omega⟩
  exact k w _ (by omega) ⟨x', y', z2, sto_set e, a1, a2, a3.1, by omega⟩ (by simp) fun n hn => sto_ne (Ne.symm hn)

theorem box2_ok {S : Sto} {c k : Nat} {cs : List Int} {Q : D → Sto → Prop} (h : S[c]? = some (.lst (cs.map D.int))) (hl : cs.length ≤ 100) (hk : k < cs.length)
    (q : ∀ S' : Sto, Bx S' S.length 0 → S'.length = S.length + 1 → (∀ m, m < S.length → S'[m]? = S[m]?) → Q (.loc S.length) S') : Wp (g_l_box_v2 [.loc c, .int k] S) Q := by
  unfold g_l_box_v2
  refine (wp_fnD (by rfl)).mpr ?_
  unfold b_l_box_v2
  obtain ⟨c0, hc0⟩ : ∃ c0 : Int, (cs.map D.int)[k]? = some (.int c0) := ⟨cs[k], by simp [hk]⟩
  (simp! only [len_loc h, List.length_map])
  rw [if_pos (by omega)]
  have ha : 0 ≤ (if c0 < 0 then -c0 else c0) := by split <;> omega
  have d0 : 0 ≤ (c0 % 2147483647 + 7919 * (k : Int) + 11) * 48271 % 2147483629 := Int.emod_nonneg _ (by omega)
  have d1 : (c0 % 2147483647 + 7919 * (k : Int) + 11) * 48271 % 2147483629 < 2147483629 := Int.emod_lt_of_pos _ (by omega)
  (simp! only [wq_sbL h, atI_of hc0])
  refine ⟨by decide, ?_⟩
  generalize (if c0 < 0 then -c0 else c0) = a at ha ⊢
  split
  · refine ⟨by omega, by omega, by omega, by omega, ?_⟩
    exact q _ ⟨_, _, _, sto_new, ha, ⟨d0, d1⟩, by omega, by omega⟩ (by simp) fun m hm => sto_app hm
  · refine ⟨by omega, by omega, by omega, by omega, ?_⟩
    exact q _ ⟨_, _, _, sto_new, by omega, ⟨d0, d1⟩, by omega, by omega⟩ (by simp) fun m hm => sto_app hm
theorem pick_map {α β : Type} (f : α → β) (l : List α) (lo hi st : Option Int) : pickL (l.map f) lo hi st = (pickL l lo hi st).map f := by
  unfold pickL
  rw [List.length_map, List.map_filterMap]
  congr 1
  funext i
  rw [List.getElem?_map]
def BcI (S0 : Sto) (i : Nat) (acc : List D) (S : Sto) : Prop := ∃ cs : List Int, acc = cs.map D.int ∧ cs.length = i
def BbI (c : Nat) (cs : List Int) (i : Nat) (acc : List D) (S : Sto) : Prop := ∃ bs : List Nat, acc = bs.map D.loc ∧ S[c]? = some (.lst (cs.map D.int)) ∧ bs.Pairwise (· < ·) ∧ ∀ b ∈ bs, Bx S b 0
end SW
namespace SW
open PySem L2

/-! a web tied tie by tie -/
def HasE (hs : Wb) (e : End) : Prop := ∃ (r : Nat) (x : List End), hs[r]? = some x ∧ e ∈ x
theorem has_ins {hs : Wb} {r v : Nat} {x : List End} {e0 e : End} (hx : hs[r]? = some x) : HasE (hs.set r (insAt x v e0)) e ↔ HasE hs e ∨ e = e0 := by
  have hr : r < hs.length := (List.getElem?_eq_some_iff.mp hx).1
  have hm : ∀ y, y ∈ insAt x v e0 ↔ y = e0 ∨ y ∈ x := fun y => by rw [(ins_perm x v e0).mem_iff, List.mem_cons]
  constructor
  · rintro ⟨r', y, hy, he⟩
    by_cases q : r = r'
    · subst q
      rw [List.getElem?_set_self hr] at hy
      cases hy
      rcases (hm e).mp he with z | z
      · exact .inr z
      · exact .inl ⟨r, x, hx, z⟩
    · rw [List.getElem?_set_ne q] at hy
      exact .inl ⟨r', y, hy, he⟩
  · rintro (⟨r', y, hy, he⟩ | rfl)
    · by_cases q : r = r'
      · subst q
        rw [hx] at hy; cases hy
        exact ⟨r, _, List.getElem?_set_self hr, (hm e).mpr (.inr he)⟩
      · exact ⟨r', y, by rw [List.getElem?_set_ne q]; exact hy, he⟩
    · exact ⟨r, _, List.getElem?_set_self hr, (hm e).mpr (.inl rfl)⟩
def EntOk (hs : Wb) (kvs : List (Key × D)) (k : Nat) : Prop := ∀ e, HasE hs e → e.1 < k ∧ e.2 ≤ 1 ∧ ∃ lp : Bool, lk kvs (kN e.1) = some (.bl lp) ∧ HasE hs (e.1, if lp = true then e.2 else 1 - e.2) ∧ (lp = true → e.2 = 0)
def totL (hs : Wb) : Nat := (hs.map List.length).sum
theorem tot_set : ∀ {hs : Wb} {r : Nat} {x y : List End}, hs[r]? = some x → totL (hs.set r y) + x.length = totL hs + y.length
  | [], r, x, y, h => by simp at h
  | a :: hs, 0, x, y, h => by
    simp at h; subst h
    simp [totL]; omega
  | a :: hs, r + 1, x, y, h => by
    have := tot_set (hs := hs) (r := r) (y := y) (by simpa using h)
    simp [totL] at this ⊢; omega
theorem ins_len {x : List End} {v : Nat} {e : End} : (insAt x v e).length = x.length + 1 := (ins_perm x v e).length_eq
theorem tot_low : ∀ {hs : Wb} {n : Nat}, n ≤ hs.length → (∀ (r : Nat) (x : List End), r < n → hs[r]? = some x → 5 ≤ x.length) → 5 * n ≤ totL hs
  | hs, 0, _, _ => by simp
  | [], n + 1, h, _ => by simp at h
  | a :: hs, n + 1, h, k => by
    have h1 := k 0 a (by omega) rfl
    have := tot_low (hs := hs) (n := n) (by simpa using h) fun r x hr hx => k (r + 1) x (by omega) (by simpa using hx)
    simp [totL] at this ⊢; omega
structure G2 (hs : Wb) (kvs : List (Key × D)) (many k : Nat) : Prop where
  len : hs.length = many
  ent : EntOk hs kvs k
  six : ∀ (r : Nat) (x : List End), hs[r]? = some x → x.length ≤ 6
  tot : totL hs ≤ 2 * k
  emp : ∀ (r : Nat) (x : List End), hs[r]? = some x → k < r → x = []
  kl : kvs.length ≤ k
  nd : hs.flatten.Nodup
  two : (0 < k → HasE hs (0, 0)) ∧ (1 < k → HasE hs (1, 0))
theorem has_flat {hs : Wb} {e : End} : HasE hs e ↔ e ∈ hs.flatten := by
  rw [List.mem_flatten]
  constructor
  · rintro ⟨r, x, h1, h2⟩; exact ⟨x, List.mem_of_getElem? h1, h2⟩
  · rintro ⟨x, h1, h2⟩
    obtain ⟨r, hr⟩ := List.getElem?_of_mem h1
    exact ⟨r, x, hr, h2⟩
theorem flat_ins : ∀ {hs : Wb} {r v : Nat} {x : List End} {e : End}, hs[r]? = some x → (hs.set r (insAt x v e)).flatten.Perm (e :: hs.flatten)
  | [], r, v, x, e, h => by simp at h
  | a :: hs, 0, v, x, e, h => by
    simp at h; subst h
    show (insAt a v e ++ hs.flatten).Perm (e :: (a ++ hs.flatten))
    exact (ins_perm a v e).append_right _
  | a :: hs, r + 1, v, x, e, h => by
    have ih := flat_ins (hs := hs) (r := r) (v := v) (e := e) (by simpa using h)
    show (a ++ (hs.set r (insAt x v e)).flatten).Perm (e :: (a ++ hs.flatten))
    exact (ih.append_left a).trans List.perm_middle
theorem flat_one {hs : Wb} : hs.flatten.Nodup → ∀ {r i r' i' : Nat} {e : End}, aT hs r i = some e → aT hs r' i' = some e → r = r' ∧ i = i' := by
  intro nd r i r' i' e h1 h2
  obtain ⟨x, hx, hi⟩ := aT_some.mp h1
  obtain ⟨y, hy, hi'⟩ := aT_some.mp h2
  have hn := List.pairwise_flatten.mp nd
  by_cases q : r = r'
  · subst q
    rw [hx] at hy; cases hy
    refine ⟨rfl, ?_⟩
    have hxn := hn.1 x (List.mem_of_getElem? hx)
    exact (List.getElem?_inj (List.getElem?_eq_some_iff.mp hi).1 hxn).mp (hi.trans hi'.symm)
  · exfalso
    have pw := hn.2
    rw [List.pairwise_iff_getElem] at pw
    have hr := (List.getElem?_eq_some_iff.mp hx)
    have hr' := (List.getElem?_eq_some_iff.mp hy)
    obtain ⟨a1, a2⟩ := hr
    obtain ⟨b1, b2⟩ := hr'
    rcases Nat.lt_or_gt_of_ne q with z | z
    · have := pw r r' a1 b1 z
      rw [a2, b2] at this
      exact this _ (List.mem_of_getElem? hi) _ (List.mem_of_getElem? hi') rfl
    · have := pw r' r b1 a1 z
      rw [a2, b2] at this
      exact this _ (List.mem_of_getElem? hi') _ (List.mem_of_getElem? hi) rfl
theorem lk_ptN {kvs : List (Key × D)} {a b : Nat} {d : D} : lk (ptK kvs (kN a) d) (kN b) = if b = a then some d else lk kvs (kN b) := by
  rw [lk_pt]
  by_cases h : b = a
  · rw [if_pos h, if_pos (by rw [h])]
  · rw [if_neg h, if_neg fun z => h (kN_inj z)]
theorem G2.skip {hs : Wb} {kvs : List (Key × D)} {many k : Nat} (G : G2 hs kvs many k) (h2 : 2 ≤ k) : G2 hs kvs many (k + 1) :=
  ⟨G.len, fun e he => let ⟨a, b, c⟩ := G.ent e he; ⟨by omega, b, c⟩, G.six, by have := G.tot; omega, fun r x hx hr => G.emp r x hx (by omega), by have := G.kl; omega, G.nd, fun _ => G.two.1 (by omega), fun _ => G.two.2 (by omega)⟩
/-- a tie more -/
theorem G2.loop {hs : Wb} {kvs : List (Key × D)} {many k r v : Nat} {x : List End} (G : G2 hs kvs many k) (hx : hs[r]? = some x) (h5 : x.length < 5) (hr : r ≤ k + 1) : G2 (hs.set r (insAt x v (k, 0))) (ptK kvs (kN k) (.bl true)) many (k + 1) := by
  have fresh : (k, 0) ∉ hs.flatten := fun h => by have := (G.ent _ (has_flat.mpr h)).1; simp at this
  refine ⟨by simpa using G.len, fun e he => ?_, fun r' y hy => ?_, ?_, fun r' y hy hlt => ?_, Nat.le_trans (pt_len _ _ _) (by have := G.kl; omega), (flat_ins hx).nodup_iff.mpr (List.nodup_cons.mpr ⟨fresh, G.nd⟩), fun _ => ?_, fun _ => ?_⟩
  rotate_left 4
  · by_cases e : k = 0
    · subst e; exact (has_ins hx).mpr (.inr rfl)
    · exact (has_ins hx).mpr (.inl (G.two.1 (by omega)))
  · by_cases e : k = 1
    · subst e; exact (has_ins hx).mpr (.inr rfl)
    · exact (has_ins hx).mpr (.inl (G.two.2 (by omega)))
  · rcases (has_ins hx).mp he with z | rfl
    · obtain ⟨a, b, lp, c, d, dd⟩ := G.ent e z
      refine ⟨by omega, b, lp, by rw [lk_ptN, if_neg (by omega)]; exact c, (has_ins hx).mpr (.inl d), dd⟩
    · exact ⟨by simp, by simp, true, by rw [lk_ptN, if_pos rfl], (has_ins hx).mpr (.inr (by simp)), fun _ => rfl⟩
  · by_cases q : r = r'
    · subst q
      rw [List.getElem?_set_self (List.getElem?_eq_some_iff.mp hx).1] at hy
      cases hy
      rw [ins_len]; omega
    · rw [List.getElem?_set_ne q] at hy; exact G.six r' y hy
  · have := tot_set (y := insAt x v (k, 0)) hx
    have h2 := G.tot
    rw [ins_len] at this
    omega
  · rw [List.getElem?_set_ne (by omega)] at hy
    exact G.emp r' y hy (by omega)
theorem G2.tie {hs : Wb} {kvs : List (Key × D)} {many k r r2 v v2 : Nat} {x x2 : List End} (G : G2 hs kvs many k) (hx : hs[r]? = some x) (h5 : x.length < 5) (hr : r ≤ k + 1) (hx2 : (hs.set r (insAt x v (k, 0)))[r2]? = some x2) (h6 : x2.length ≤ 5) (hr2 : r2 ≤ k + 1) : G2 ((hs.set r (insAt x v (k, 0))).set r2 (insAt x2 v2 (k, 1))) (ptK kvs (kN k) (.bl false)) many (k + 1) := by
  have hm : ∀ e, HasE ((hs.set r (insAt x v (k, 0))).set r2 (insAt x2 v2 (k, 1))) e ↔ HasE hs e ∨ e = (k, 0) ∨ e = (k, 1) := fun e => by rw [has_ins hx2, has_ins hx, or_assoc]
  have fresh : (k, 0) ∉ hs.flatten := fun h => by have := (G.ent _ (has_flat.mpr h)).1; simp at this
  have fresh2 : (k, 1) ∉ (hs.set r (insAt x v (k, 0))).flatten := fun h => by
    rcases List.mem_cons.mp ((flat_ins hx).mem_iff.mp h) with h | h
    · cases h
    · have := (G.ent _ (has_flat.mpr h)).1; simp at this
  refine ⟨by simpa using G.len, fun e he => ?_, fun r' y hy => ?_, ?_, fun r' y hy hlt => ?_, Nat.le_trans (pt_len _ _ _) (by have := G.kl; omega), (flat_ins hx2).nodup_iff.mpr (List.nodup_cons.mpr ⟨fresh2, (flat_ins hx).nodup_iff.mpr (List.nodup_cons.mpr ⟨fresh, G.nd⟩)⟩), fun _ => ?_, fun _ => ?_⟩
  rotate_left 4
  · by_cases e : k = 0
    · subst e; exact (hm _).mpr (.inr (.inl rfl))
    · exact (hm _).mpr (.inl (G.two.1 (by omega)))
  · by_cases e : k = 1
    · subst e; exact (hm _).mpr (.inr (.inl rfl))
    · exact (hm _).mpr (.inl (G.two.2 (by omega)))
  · rcases (hm e).mp he with z | rfl | rfl
    · obtain ⟨a, b, lp, c, d, dd⟩ := G.ent e z
      exact ⟨by omega, b, lp, by rw [lk_ptN, if_neg (by omega)]; exact c, (hm _).mpr (.inl d), dd⟩
    · exact ⟨by simp, by simp, false, by rw [lk_ptN, if_pos rfl], (hm _).mpr (.inr (.inr (by simp))), fun h => nomatch h⟩
    · exact ⟨by simp, by simp, false, by rw [lk_ptN, if_pos rfl], (hm _).mpr (.inr (.inl (by simp))), fun h => nomatch h⟩
  · by_cases q2 : r2 = r'
    · subst q2
      rw [List.getElem?_set_self (List.getElem?_eq_some_iff.mp hx2).1] at hy
      cases hy
      rw [ins_len]; omega
    · rw [List.getElem?_set_ne q2] at hy
      by_cases q : r = r'
      · subst q
        rw [List.getElem?_set_self (List.getElem?_eq_some_iff.mp hx).1] at hy
        cases hy
        rw [ins_len]; omega
      · rw [List.getElem?_set_ne q] at hy; exact G.six r' y hy
  · have h1 := tot_set (y := insAt x v (k, 0)) hx
    have h3 := tot_set (y := insAt x2 v2 (k, 1)) hx2
    have h2 := G.tot
    rw [ins_len] at h1 h3
    omega
  · rw [List.getElem?_set_ne (by omega), List.getElem?_set_ne (by omega)] at hy
    exact G.emp r' y hy (by omega)
/-- an entry is put in -/
theorem ins2_ok {S : Sto} {b z L many k r s : Nat} {hs : Wb} {x : List End} {R : Sto → Prop} (hb : Bx S b z) (hz : z < 900000) (H : Hw S L many hs) (hL : b < L) (hx : hs[r]? = some x) (hxl : x.length ≤ 1000)
    (q : ∀ (S' : Sto) (v : Nat), Bx S' b (z + 1) → Hw S' L many (hs.set r (insAt x v (k, s))) → S'.length = S.length → (∀ n, n < L → n ≠ b → S'[n]? = S[n]?) → (∀ n, L + many < n → S'[n]? = S[n]?) → R S') :
    Wp (sbD (.loc (L + many)) (.int (r : Int)) S) fun o S1 => isLst o S1 = true ∧ Wp (sbD (.loc (L + many)) (.int (r : Int)) S1) fun x S1 => Wp (lenD [x] S1) fun x S1 => Wp (addD x (.int 1) S1) fun x S1 => Wp (g_l_take_v2 [.loc b, x] S1) fun x S1 => Wp (insertM o [x, .tup [.int (k : Int), .int (s : Int)]] S1) fun _ S1 => R S1 := by
  have hl := H.len
  have hrl := (List.getElem?_eq_some_iff.mp hx).1
  have ht := H.top
  have hr1 := H.at_ r x hx
  have at1 : atI ((List.range many).map fun i => D.loc (L + i)) (r : Int) = some (.loc (L + r)) := atI_of (by rw [List.getElem?_map, List.getElem?_range (by omega)]; rfl)
  (simp! only [wq_sbL ht, at1, isLst_loc hr1, len_loc hr1, List.length_map])
  have e1 : ((x.length : Int) + 1) = ((x.length + 1 : Nat) : Int) := by omega
  rw [e1]
  refine take2_ok hb (by omega) (by omega) (by omega) fun v S1 hv hb1 hl1 hf1 => ?_
  have hrl1 : S1[L + r]? = some (.lst (x.map eD)) := (hf1 _ (by omega)).trans hr1
  rw [wq_insert hrl1 (show v < 1000000 by omega)]
  refine ⟨by simp; omega, ?_⟩
  have em : (x.map eD).take v ++ [D.tup [D.int (k : Int), D.int (s : Int)]] ++ (x.map eD).drop v = (insAt x v (k, s)).map eD := ins_map x v (k, s)
  rw [em]
  have H1 : Hw S1 L many hs := H.of fun n h1 h2 => hf1 n (by omega)
  refine q _ v (hb1.of (sto_ne (by omega))) (H1.ins hx) (by simpa using hl1) (fun n hn hnb => by rw [sto_ne (by omega)]; exact hf1 n hnb) (fun n hn => by rw [sto_ne (by omega)]; exact hf1 n (by omega))
end SW
namespace SW
open PySem L2

theorem Hw.low {S S' : Sto} {L many : Nat} {hs : Wb} (H : Hw S L many hs) (k : ∀ n, L ≤ n → n ≤ L + many → S'[n]? = S[n]?) : Hw S' L many hs :=
  ⟨(k _ (by omega) (by omega)).trans H.top, H.len, fun r x a => (k _ (by omega) (by have := H.len; have := (List.getElem?_eq_some_iff.mp a).1; omega)).trans (H.at_ r x a)⟩
def WI (S0 : Sto) (b z many A : Nat) (o2 : Option D) (k : Nat) (τ : Tau) (S : Sto) : Prop := ∃ (hs : Wb) (kvs : List (Key × D)) (o5 o6 o7 o8 o9 o10 o11 o12 o13 o14 o15 : Option D), τ = [some (.loc b), some (nD many), o2, some (.loc (S0.length + many)), some (.loc A), o5, o6, o7, o8, o9, o10, o11, o12, o13, o14, o15]
  ∧ G2 hs kvs many k ∧ Hw S S0.length many hs ∧ Bx S b (z + 6 * k) ∧ S[A]? = some (.dK kvs) ∧ (∀ n, n < S0.length → n ≠ b → S[n]? = S0[n]?)
def WT : EvS := (seqS (asS (vE 11) (subG (vE 4) (vE 5)))
  (seqS (exS (mE insertM (b2E sbD (vE 3) (vE 9)) (consA (aE g_l_take_v2 (consA (vE 0) (consA (b2E addD (aE lenD (consA (b2E sbD (vE 3) (vE 9)) nilA)) (cE (.int 1))) nilA))) (consA (aE tupD (consA (vE 5) (consA (cE (.int 0)) nilA))) nilA))))
  (ifS (notT (tB (vE 11))) (exS (mE insertM (b2E sbD (vE 3) (vE 10)) (consA (aE g_l_take_v2 (consA (vE 0) (consA (b2E addD (aE lenD (consA (b2E sbD (vE 3) (vE 10)) nilA)) (cE (.int 1))) nilA))) (consA (aE tupD (consA (vE 5) (consA (cE (.int 1)) nilA))) nilA)))) nxS)))
theorem wt_ok {S0 S : Sto} {b z many A k r1 r2 : Nat} {lp : Bool} {hs : Wb} {kvs : List (Key × D)} {x : List End} {o2 o6 o7 o8 o12 o13 o14 o15 : Option D} {Q : Out → Sto → Prop} (G : G2 hs kvs many k) (H : Hw S S0.length many hs) (hb : Bx S b (z + 6 * k + 4)) (hz : z + 6 * k < 800000) (hA : S[A]? = some (.dK kvs)) (hAl : S0.length + many < A) (hbl : b < S0.length) (hk : k ≤ 1000)
    (fr : ∀ n, n < S0.length → n ≠ b → S[n]? = S0[n]?) (hx : hs[r1]? = some x) (h5 : x.length < 5) (hr1 : r1 ≤ k + 1) (hr2 : lp = false → ∃ y, hs[r2]? = some y ∧ y.length < 5 ∧ r2 ≤ k + 1)
    (q : ∀ S' : Sto, ∀ τ, WI S0 b z many A o2 (k + 1) τ S' → Q (.nx τ) S') : Wp (WT [some (.loc b), some (nD many), o2, some (.loc (S0.length + many)), some (.loc A), some (.int (k : Int)), o6, o7, o8, some (.int (r1 : Int)), some (.int (r2 : Int)), some (.bl lp), o12, o13, o14, o15] S) Q := by
  unfold WT
  have hkl := G.kl
  have st := stD_K (i := k) (v := .bl lp) hA (by omega)
  (simp! only [st])
  have hA1 : (S.set A (.dK (ptK kvs (kN k) (.bl lp))))[A]? = some (.dK (ptK kvs (kN k) (.bl lp))) := sto_set hA
  have H1 : Hw (S.set A (.dK (ptK kvs (kN k) (.bl lp)))) S0.length many hs := H.low fun n h1 h2 => sto_ne (by omega)
  have hb1 : Bx (S.set A (.dK (ptK kvs (kN k) (.bl lp)))) b (z + 6 * k + 4) := hb.of (sto_ne (by omega))
  have fr1 : ∀ n, n < S0.length → n ≠ b → (S.set A (.dK (ptK kvs (kN k) (.bl lp))))[n]? = S0[n]? := fun n hn hnb => by rw [sto_ne (by omega)]; exact fr n hn hnb
  generalize S.set A (.dK (ptK kvs (kN k) (.bl lp))) = S1 at hA1 H1 hb1 fr1 ⊢
  refine ins2_ok (s := 0) (k := k) hb1 (by omega) H1 hbl hx (by omega) fun S2 v hb2 H2 l2 f2 g2 => ?_
  have hA2 : S2[A]? = some (.dK (ptK kvs (kN k) (.bl lp))) := (g2 A hAl).trans hA1
  have fr2 : ∀ n, n < S0.length → n ≠ b → S2[n]? = S0[n]? := fun n hn hnb => (f2 n hn hnb).trans (fr1 n hn hnb)
  cases lp with
  | true =>
    (simp! only [])
    refine q S2 _ ⟨_, _, _, _, _, _, _, _, _, _, _, _, _, rfl, G.loop (v := v) hx h5 hr1, H2, hb2.le (by omega), hA2, fr2⟩
  | false =>
    obtain ⟨y, hy, hy5, hyk⟩ := hr2 rfl
    (simp! only [])
    have hr := (List.getElem?_eq_some_iff.mp hx).1
    obtain ⟨y2, hy2, hyl⟩ : ∃ y2, (hs.set r1 (insAt x v (k, 0)))[r2]? = some y2 ∧ y2.length ≤ 5 := by
      by_cases e : r1 = r2
      · subst e
        exact ⟨_, List.getElem?_set_self hr, by rw [ins_len]; omega⟩
      · exact ⟨y, by rw [List.getElem?_set_ne e]; exact hy, by omega⟩
    refine ins2_ok (s := 1) (k := k) hb2 (by omega) H2 hbl hy2 (by omega) fun S3 v2 hb3 H3 l3 f3 g3 => ?_
    refine q S3 _ ⟨_, _, _, _, _, _, _, _, _, _, _, _, _, rfl, G.tie (v := v) (v2 := v2) hx h5 hr1 hy2 hyl hyk, H3, hb3.le (by omega), (g3 A hAl).trans hA2, fun n hn hnb => (f3 n hn hnb).trans (fr2 n hn hnb)⟩
def WM : EvS := (seqS (stS 9 (b2E sbD (vE 8) (aE g_l_take_v2 (consA (vE 0) (consA (aE lenD (consA (vE 8) nilA)) nilA)))))
  (seqS (stS 10 (b2E sbD (vE 8) (aE g_l_take_v2 (consA (vE 0) (consA (aE lenD (consA (vE 8) nilA)) nilA)))))
  (seqS (ifS (tB (b2E ltD (vE 5) (b2E subD (vE 1) (cE (.int 1))))) (seqS (stS 10 (b2E addD (vE 5) (cE (.int 1))))
  (seqS (stS 12 (lcE (sqI (vE 8)) (.nm 7) (tB (b2E leD (vE 7) (vE 5))) (vE 7) [7]))
  (stS 9 (b2E sbD (vE 12) (aE g_l_take_v2 (consA (vE 0) (consA (aE lenD (consA (vE 12) nilA)) nilA))))))) nxS)
  (seqS (stS 11 (andE (b2E geD (vE 5) (b2E subD (vE 1) (cE (.int 1)))) (b2E eqD (aE g_l_take_v2 (consA (vE 0) (consA (cE (.int 4)) nilA))) (cE (.int 0)))))
  WT))))
def W2B : EvS := (seqS (stS 8 (lcE (rgI1 (vE 1)) (.nm 7) (tB (b2E ltD (aE lenD (consA (b2E sbD (vE 3) (vE 7)) nilA)) (cE (.int 5)))) (vE 7) [7]))
  (seqS (ifS (tB (b2E eqD (vE 8) (aE lstD nilA))) ctS nxS) WM))
def freeS (hs : Wb) (many : Nat) : List Nat := (List.range many).filter fun r => decide ((hs.getD r []).length < 5)
theorem freeS_mem {hs : Wb} {many r : Nat} (hl : hs.length = many) : r ∈ freeS hs many ↔ ∃ x, hs[r]? = some x ∧ x.length < 5 := by
  unfold freeS
  rw [List.mem_filter, List.mem_range, decide_eq_true_eq]
  constructor
  · rintro ⟨h1, h2⟩
    have hx : hs[r]? = some hs[r] := List.getElem?_eq_getElem (by omega)
    rw [List.getD_eq_getElem?_getD, hx] at h2
    exact ⟨_, hx, h2⟩
  · rintro ⟨x, hx, h2⟩
    refine ⟨by have := (List.getElem?_eq_some_iff.mp hx).1; omega, ?_⟩
    rw [List.getD_eq_getElem?_getD, hx]; exact h2
theorem low_freeS {hs : Wb} {kvs : List (Key × D)} {many k : Nat} (G : G2 hs kvs many k) (hk : k < many) : ∃ r, r ∈ freeS hs many ∧ r ≤ k := by
  by_cases h : ∃ r, r ≤ k ∧ ∃ x, hs[r]? = some x ∧ x.length < 5
  · obtain ⟨r, h1, h2⟩ := h
    exact ⟨r, (freeS_mem G.len).mpr h2, h1⟩
  · have := tot_low (hs := hs) (n := k + 1) (by rw [G.len]; omega) fun r x hr hx => by
      by_cases c : 5 ≤ x.length
      · exact c
      · exact (h ⟨r, by omega, x, hx, by omega⟩).elim
    have := G.tot
    omega
theorem pick2_at {S : Sto} {F v : Nat} {fr : List Nat} {Q : D → Sto → Prop} (h : S[F]? = some (.lst (fr.map nD))) (hv : v < fr.length) (q : ∀ r, r ∈ fr → Q (.int (r : Int)) S) : Wp (sbD (.loc F) (.int (v : Int)) S) Q := by
  have e : atI (fr.map nD) (v : Int) = some (nD fr[v]) := atI_of (by rw [List.getElem?_map, List.getElem?_eq_getElem hv]; rfl)
  rw [wq_sbL h]
  exact ⟨_, e, q _ (List.getElem_mem hv)⟩
def WcF (S0 : Sto) (hs : Wb) (i : Nat) (acc : List D) (S : Sto) : Prop := acc = ((List.range i).filter fun r => decide ((hs.getD r []).length < 5)).map nD ∧ S = S0
def WcA (S0 : Sto) (k : Nat) (xs : List Nat) (i : Nat) (acc : List D) (S : Sto) : Prop := acc = ((xs.take i).filter fun r => decide (r ≤ k)).map nD ∧ S = S0
theorem wm_ok {S0 S : Sto} {b z many A k F : Nat} {hs : Wb} {kvs : List (Key × D)} {o2 o6 o7 o9 o10 o11 o12 o13 o14 o15 : Option D} {Q : Out → Sto → Prop} (G : G2 hs kvs many k) (H : Hw S S0.length many hs) (hb : Bx S b (z + 6 * k)) (hz : z + 6 * k < 800000) (hA : S[A]? = some (.dK kvs)) (hAl : S0.length + many < A) (hbl : b < S0.length) (hk : k ≤ 1000) (hm : 0 < many ∧ many ≤ 24)
    (fr : ∀ n, n < S0.length → n ≠ b → S[n]? = S0[n]?) (hF : S[F]? = some (.lst ((freeS hs many).map nD))) (hne : freeS hs many ≠ []) (hFb : F ≠ b)
    (q : ∀ S' : Sto, ∀ τ, WI S0 b z many A o2 (k + 1) τ S' → Q (.nx τ) S') : Wp (WM [some (.loc b), some (nD many), o2, some (.loc (S0.length + many)), some (.loc A), some (.int (k : Int)), o6, o7, some (.loc F), o9, o10, o11, o12, o13, o14, o15] S) Q := by
  unfold WM
  have hfl : 0 < (freeS hs many).length := List.length_pos_iff.mpr hne
  have hfl2 : (freeS hs many).length ≤ 24 := by unfold freeS; have := List.length_filter_le (fun r => decide ((hs.getD r []).length < 5)) (List.range many); rw [List.length_range] at this; omega
  have enD : nD many = D.int (many : Int) := rfl
  (simp! only [len_loc hF, List.length_map])
  refine take2_ok hb (by omega) hfl (by omega) fun v1 S1 hv1 hb1 l1 f1 => ?_
  have hF1 : S1[F]? = some (.lst ((freeS hs many).map nD)) := (f1 F hFb).trans hF
  refine pick2_at hF1 hv1 fun r1 hr1 => ?_
  (simp! only [len_loc hF1, List.length_map])
  refine take2_ok hb1 (by omega) hfl (by omega) fun v2 S2 hv2 hb2 l2 f2 => ?_
  have hF2 : S2[F]? = some (.lst ((freeS hs many).map nD)) := (f2 F hFb).trans hF1
  refine pick2_at hF2 hv2 fun r2 hr2 => ?_
  obtain ⟨x1, hx1, hl1⟩ := (freeS_mem G.len).mp hr1
  obtain ⟨x2, hx2, hl2⟩ := (freeS_mem G.len).mp hr2
  have H2 : Hw S2 S0.length many hs := H.low fun n h1 h2 => (f2 n (by omega)).trans (f1 n (by omega))
  have hA2 : S2[A]? = some (.dK kvs) := by rw [f2 A (by omega), f1 A (by omega)]; exact hA
  have fr2 : ∀ n, n < S0.length → n ≠ b → S2[n]? = S0[n]? := fun n hn hnb => by rw [f2 n hnb, f1 n hnb]; exact fr n hn hnb
  (simp! only [enD])
  by_cases hkm : k + 1 < many
  · rw [if_pos (by omega)]
    have em : ((k : Int) + 1) = ((k + 1 : Nat) : Int) := by omega
    (simp! only [em])
    refine ⟨_, src_loc hF2, ?_⟩
    refine lc_live _ _ (by simp; omega) (WcA S2 k (freeS hs many)) ⟨rfl, rfl⟩ (fun i acc S' h => by rw [h.2]; exact hF2) ?_ ?_
    · rintro i d acc S3 hd ⟨rfl, rfl⟩
      rw [List.getElem?_map] at hd
      obtain ⟨y, hy, rfl⟩ := Option.map_eq_some_iff.mp hd
      refine ⟨_, pb_nm, ?_⟩
      have ht := take_filter (f := fun r => decide (r ≤ k)) hy
      unfold nD
      (simp! only [])
      by_cases hyk : y ≤ k
      · rw [if_pos (by omega)]
        (simp! only [])
        refine ⟨?_, rfl⟩
        rw [ht, if_pos (by simp [hyk]), List.map_append]; rfl
      · rw [if_neg (by omega)]
        refine ⟨?_, rfl⟩
        rw [ht, if_neg (by simp [hyk])]; simp [nD]
    · rintro acc S3 ⟨rfl, rfl⟩
      rw [List.length_map, List.take_length]
      obtain ⟨r0, hr0, hr0k⟩ := low_freeS G (by omega)
      have ha0 : r0 ∈ (freeS hs many).filter fun r => decide (r ≤ k) := List.mem_filter.mpr ⟨hr0, by simp [hr0k]⟩
      have hal : 0 < ((freeS hs many).filter fun r => decide (r ≤ k)).length := List.length_pos_of_mem ha0
      have hal2 : ((freeS hs many).filter fun r => decide (r ≤ k)).length ≤ 24 := Nat.le_trans (List.length_filter_le _ _) hfl2
      have hN : (S3 ++ [MO.lst (((freeS hs many).filter fun r => decide (r ≤ k)).map nD)])[S3.length]? = some (.lst (((freeS hs many).filter fun r => decide (r ≤ k)).map nD)) := sto_new
      have hb3 : Bx (S3 ++ [MO.lst (((freeS hs many).filter fun r => decide (r ≤ k)).map nD)]) b (z + 6 * k + 1 + 1) := hb2.of (sto_app hb2.lt)
      have H3 : Hw (S3 ++ [MO.lst (((freeS hs many).filter fun r => decide (r ≤ k)).map nD)]) S0.length many hs := H2.low fun n h1 h2 => sto_app (by have := sto_lt hA2; omega)
      have hA3 : (S3 ++ [MO.lst (((freeS hs many).filter fun r => decide (r ≤ k)).map nD)])[A]? = some (.dK kvs) := (sto_app (sto_lt hA2)).trans hA2
      have fr3 : ∀ n, n < S0.length → n ≠ b → (S3 ++ [MO.lst (((freeS hs many).filter fun r => decide (r ≤ k)).map nD)])[n]? = S0[n]? := fun n hn hnb => (sto_app (by have := sto_lt hA2; omega)).trans (fr2 n hn hnb)
      have hbN : S3.length ≠ b := by have := hb2.lt; omega
      generalize S3.length = N at hN hbN ⊢
      generalize S3 ++ [MO.lst (((freeS hs many).filter fun r => decide (r ≤ k)).map nD)] = S4 at hN hb3 H3 hA3 fr3 ⊢
      generalize hah : (freeS hs many).filter (fun r => decide (r ≤ k)) = ah at hN hal hal2
      (simp! only [len_loc hN, List.length_map])
      refine take2_ok hb3 (by omega) hal (by omega) fun v3 S5 hv3 hb5 l5 f5 => ?_
      refine pick2_at ((f5 N hbN).trans hN) hv3 fun r3 hr3 => ?_
      rw [← hah, List.mem_filter, decide_eq_true_eq] at hr3
      obtain ⟨x3, hx3, hl3⟩ := (freeS_mem G.len).mp hr3.1
      (simp! only [])
      rw [if_neg (by omega)]
      obtain ⟨xk, hxk⟩ : ∃ y, hs[k + 1]? = some y := ⟨hs[k + 1]'(by rw [G.len]; omega), List.getElem?_eq_getElem (by rw [G.len]; omega)⟩
      have hke := G.emp (k + 1) _ hxk (by omega)
      refine wt_ok (lp := false) (r1 := r3) (r2 := k + 1) G (H3.low fun n h1 h2 => f5 n (by omega)) (hb5.le (by omega)) hz ((f5 A (by omega)).trans hA3) hAl hbl hk (fun n hn hnb => (f5 n hnb).trans (fr3 n hn hnb)) hx3 hl3 (by omega) (fun _ => ⟨_, hxk, by rw [hke]; simp, by omega⟩) q
  · rw [if_neg (by omega)]
    (simp! only [])
    have n4 : D.int 4 = D.int ((4 : Nat) : Int) := rfl
    rw [if_pos (by omega), n4]
    refine take2_ok hb2 (by omega) (by omega) (by omega) fun v3 S5 hv3 hb5 l5 f5 => ?_
    have hr1l := (List.getElem?_eq_some_iff.mp hx1).1
    have hr2l := (List.getElem?_eq_some_iff.mp hx2).1
    have hGl := G.len
    rw [wq_eqI]
    refine wt_ok (lp := decide ((v3 : Int) = 0)) (r1 := r1) (r2 := r2) G (H2.low fun n h1 h2 => f5 n (by omega)) (hb5.le (by omega)) hz ((f5 A (by omega)).trans hA2) hAl hbl hk (fun n hn hnb => (f5 n hnb).trans (fr2 n hn hnb)) hx1 hl1 (by omega) (fun _ => ⟨_, hx2, hl2, by omega⟩) q
end SW
namespace SW
open PySem L2

/-! the whole web -/
theorem skip_two {hs : Wb} {kvs : List (Key × D)} {many k : Nat} (G : G2 hs kvs many k) (hm : 0 < many) (hne : freeS hs many = []) : 2 ≤ k := by
  have := tot_low (hs := hs) (n := many) (by rw [G.len]; omega) fun r x hr hx => by
    by_cases c : 5 ≤ x.length
    · exact c
    · have : r ∈ freeS hs many := (freeS_mem G.len).mpr ⟨x, hx, by omega⟩
      rw [hne] at this
      cases this
  have := G.tot
  omega
theorem wb_ok {S0 S : Sto} {b z many A k : Nat} {τ : Tau} {o2 : Option D} {Q : Out → Sto → Prop} {hs : Wb} {kvs : List (Key × D)} {o6 o7 o8 o9 o10 o11 o12 o13 o14 o15 : Option D}
    (G : G2 hs kvs many k) (H : Hw S S0.length many hs) (hb : Bx S b (z + 6 * k)) (hA : S[A]? = some (.dK kvs)) (fr : ∀ n, n < S0.length → n ≠ b → S[n]? = S0[n]?)
    (hz : z + 6 * k < 800000) (hAl : S0.length + many < A) (hbl : b < S0.length) (hk : k ≤ 1000) (hm : 0 < many ∧ many ≤ 24) :
    Wp (W2B [some (.loc b), some (nD many), o2, some (.loc (S0.length + many)), some (.loc A), some (.int (k : Int)), o6, o7, o8, o9, o10, o11, o12, o13, o14, o15] S) (LoopQ (WI S0 b z many A o2 (k + 1)) Q) := by
  unfold W2B
  have hAS := sto_lt hA
  have enD : nD many = D.int (many : Int) := rfl
  (simp! only [enD])
  refine ⟨by simp [big62]; omega, ?_⟩
  rw [Int.toNat_natCast]
  refine lc_rng 0 many (by omega) (WcF S hs) ⟨rfl, rfl⟩ ?_ ?_
  · rintro i acc S1 hi ⟨rfl, rfl⟩
    have e0 : ((0 : Int) + (i : Int)) = (i : Int) := by omega
    rw [e0]
    refine ⟨_, pb_nm, ?_⟩
    have ht := H.top
    obtain ⟨x, hx⟩ : ∃ x, hs[i]? = some x := ⟨hs[i]'(by rw [G.len]; omega), List.getElem?_eq_getElem (by rw [G.len]; omega)⟩
    have hr1 := H.at_ i x hx
    have at1 : atI ((List.range many).map fun i => D.loc (S0.length + i)) (i : Int) = some (.loc (S0.length + i)) := atI_of (by rw [List.getElem?_map, List.getElem?_range hi]; rfl)
    (simp! only [wq_sbL ht, at1, len_loc hr1, List.length_map])
    have hgd : hs.getD i [] = x := by rw [List.getD_eq_getElem?_getD, hx]; rfl
    by_cases h5 : x.length < 5
    · rw [if_pos (by omega)]
      (simp! only [])
      refine ⟨?_, rfl⟩
      rw [List.range_succ, List.filter_append, List.map_append]
      simp [hx, h5, nD]
    · rw [if_neg (by omega)]
      refine ⟨?_, rfl⟩
      rw [List.range_succ, List.filter_append]
      simp [hx, h5]
  · rintro acc S1 ⟨rfl, rfl⟩
    have hF : (S1 ++ [MO.lst ((freeS hs many).map nD)])[S1.length]? = some (.lst ((freeS hs many).map nD)) := sto_new
    have hF2 : (S1 ++ [MO.lst ((freeS hs many).map nD)] ++ [MO.lst []])[S1.length]? = some (.lst ((freeS hs many).map nD)) := (sto_app (by simp)).trans hF
    have hE : (S1 ++ [MO.lst ((freeS hs many).map nD)] ++ [MO.lst []])[S1.length + 1]? = some (.lst (([] : List Nat).map nD)) := by
      have : (S1 ++ [MO.lst ((freeS hs many).map nD)]).length = S1.length + 1 := by simp
      rw [← this]; exact sto_new
    have old : ∀ n, n < S1.length → (S1 ++ [MO.lst ((freeS hs many).map nD)] ++ [MO.lst []])[n]? = S1[n]? := fun n hn => by rw [sto_app (by simp; omega), sto_app hn]
    have el : (S1 ++ [MO.lst ((freeS hs many).map nD)]).length = S1.length + 1 := by simp
    have efr : ((List.range many).filter fun r => decide ((hs.getD r []).length < 5)) = freeS hs many := rfl
    rw [efr, el, wq_eqLN hF2 hE]
    refine ⟨_, rfl, ?_⟩
    by_cases hne : freeS hs many = []
    · rw [if_pos (by simp [hne])]
      exact ⟨hs, kvs, _, _, _, _, _, _, _, _, _, _, _, rfl, G.skip (skip_two G hm.1 hne), H.low fun n h1 h2 => old n (by omega), (hb.of (old b hb.lt)).le (by omega), (old A hAS).trans hA, fun n hn hnb => (old n (by omega)).trans (fr n hn hnb)⟩
    · rw [if_neg (by simp [hne])]
      exact wm_ok (Q := LoopQ (WI S0 b z many A o2 (k + 1)) Q) G (H.low fun n h1 h2 => old n (by omega)) (hb.of (old b hb.lt)) hz ((old A hAS).trans hA) hAl hbl hk hm (fun n hn hnb => (old n (by omega)).trans (fr n hn hnb)) hF2 hne (by have := hb.lt; omega) fun S' τ h => h
/-! where each end is -/
def Whr (hs : Wb) (many : Nat) (kvs : List (List Key × D)) (r i : Nat) : Prop := ∀ r' i' e, (r' < r ∨ (r' = r ∧ i' < i)) → aT hs r' i' = some e → ∃ p : End, lk kvs (kE e) = some (eD p) ∧ p.1 < many ∧ aT hs p.1 p.2 = some e
theorem Whr.put {hs : Wb} {many : Nat} {kvs : List (List Key × D)} {r i : Nat} {e : End} (h : Whr hs many kvs r i) (he : aT hs r i = some e) (hr : r < many) : Whr hs many (ptK kvs (kE e) (eD (r, i))) r (i + 1) := by
  intro r' i' e' hlt h'
  rw [lk_pt]
  by_cases q : kE e' = kE e
  · exact ⟨(r, i), by rw [if_pos q], hr, by rw [kE_inj q]; exact he⟩
  · rw [if_neg q]
    refine h r' i' e' ?_ h'
    rcases hlt with z | ⟨z, y⟩
    · exact .inl z
    · subst z
      by_cases q2 : i' = i
      · subst q2
        rw [he] at h'; cases h'
        exact absurd rfl q
      · exact .inr ⟨rfl, by omega⟩
theorem aT_has {hs : Wb} {e : End} : HasE hs e ↔ ∃ r i, aT hs r i = some e := by
  constructor
  · rintro ⟨r, x, hx, he⟩
    obtain ⟨i, hi⟩ := List.getElem?_of_mem he
    exact ⟨r, i, aT_some.mpr ⟨x, hx, hi⟩⟩
  · rintro ⟨r, i, h⟩
    obtain ⟨x, hx, hi⟩ := aT_some.mp h
    exact ⟨r, x, hx, List.mem_of_getElem? hi⟩
/-- a web of so many rooms, at most six doors each, that leads nowhere else -/
structure Cw (w : Wb) (n : Nat) : Prop where
  len : w.length = n
  closed : Closed w
  six : ∀ (r : Nat) (x : List End), w[r]? = some x → x.length ≤ 6
end SW
namespace SW
open PySem L2

def W1I (S0 : Sto) (hs : Wb) (b many A B : Nat) (kvs : List (Key × D)) (o2 : Option D) (i : Nat) (τ : Tau) (S : Sto) : Prop := ∃ (ds : List (List Key × D)) (o5 o7 o8 o9 o10 o11 o12 o13 o14 o15 : Option D), τ = [some (.loc b), some (nD many), o2, some (.loc (S0.length + many)), some (.loc A), o5, some (.loc B), o7, o8, o9, o10, o11, o12, o13, o14, o15]
  ∧ S[B]? = some (.dT ds) ∧ Whr hs many ds i 0 ∧ ds.length ≤ i * 6
def W1J (S0 : Sto) (hs : Wb) (b many A B r : Nat) (kvs : List (Key × D)) (o2 : Option D) (i : Nat) (τ : Tau) (S : Sto) : Prop := ∃ (ds : List (List Key × D)) (o5 o8 o9 o10 o11 o12 o13 o14 o15 : Option D), τ = [some (.loc b), some (nD many), o2, some (.loc (S0.length + many)), some (.loc A), o5, some (.loc B), some (.int (r : Int)), o8, o9, o10, o11, o12, o13, o14, o15]
  ∧ S[B]? = some (.dT ds) ∧ Whr hs many ds r i ∧ ds.length ≤ r * 6 + i
/-- the rest of the store as it was -/
def Rst (S1 : Sto) (B : Nat) (S : Sto) : Prop := S.length = S1.length ∧ ∀ n, n ≠ B → S[n]? = S1[n]?
/-- the end e has f for its other end -/
def Pt (kvs : List (Key × D)) (e f : End) : Prop := ∃ lp : Bool, lk kvs (kN e.1) = some (.bl lp) ∧ e.2 ≤ 1 ∧ f = (e.1, if lp = true then e.2 else 1 - e.2)
def LdR (hs : Wb) (kvs : List (Key × D)) (r : Nat) (x : List End) : Prop := ∀ j p, x[j]? = some p → ∃ e f, aT hs r j = some e ∧ Pt kvs e f ∧ aT hs p.1 p.2 = some f
def W3I (S1 : Sto) (hs : Wb) (kvs : List (Key × D)) (many : Nat) (i : Nat) (acc : List D) (S : Sto) : Prop := ∃ w : Wb, acc = w.map rD ∧ w.length = i ∧ (∀ x ∈ w, x.length ≤ 6 ∧ ∀ e ∈ x, e.1 < many) ∧ (∀ r x, w[r]? = some x → LdR hs kvs r x ∧ ∃ y, hs[r]? = some y ∧ y.length = x.length) ∧ S1.length ≤ S.length ∧ ∀ n, n < S1.length → S[n]? = S1[n]?
def W4I (S1 : Sto) (hs : Wb) (kvs : List (Key × D)) (r many : Nat) (i : Nat) (acc : List D) (S : Sto) : Prop := ∃ x : List End, acc = x.map eD ∧ x.length = i ∧ (∀ e ∈ x, e.1 < many) ∧ LdR hs kvs r x ∧ S1.length ≤ S.length ∧ ∀ n, n < S1.length → S[n]? = S1[n]?
def Two (w : Wb) : Prop := ∃ a a' b b' : End, aT w a.1 a.2 = some a' ∧ leE a a' ∧ aT w b.1 b.2 = some b' ∧ leE b b' ∧ a ≠ b
theorem ld_back {hs : Wb} {kvs : List (Key × D)} {w : Wb} (hn : hs.flatten.Nodup) (hl : w.length = hs.length) (h : ∀ r x, w[r]? = some x → LdR hs kvs r x ∧ ∃ y, hs[r]? = some y ∧ y.length = x.length) : Back w := by
  intro r i s j hw
  obtain ⟨x, hx, hi⟩ := aT_some.mp hw
  obtain ⟨e, f, e1, ⟨lp, p1, p2, p3⟩, e2⟩ := (h r x hx).1 i (s, j) hi
  obtain ⟨y, hy, hj⟩ := aT_some.mp e2
  have hs' : s < w.length := by rw [hl]; exact (List.getElem?_eq_some_iff.mp hy).1
  obtain ⟨z, hz⟩ : ∃ z, w[s]? = some z := ⟨w[s], List.getElem?_eq_getElem hs'⟩
  obtain ⟨y', hy', hyl⟩ := (h s z hz).2
  rw [hy] at hy'; cases hy'
  have hjz : j < z.length := by rw [← hyl]; exact (List.getElem?_eq_some_iff.mp hj).1
  have hp : z[j]? = some z[j] := List.getElem?_eq_getElem hjz
  generalize z[j] = p at hp
  obtain ⟨e', f', g1, ⟨lp2, g2, g3, g4⟩, g5⟩ := (h s z hz).1 j p hp
  rw [show aT hs s j = some f from e2] at g1
  cases g1
  have hf1 : f.1 = e.1 := by rw [p3]
  rw [hf1, p1] at g2
  cases g2
  have hfe : f' = e := by
    rw [g4, p3]
    cases lp
    · simp only [Bool.false_eq_true, if_false]
      have : 1 - (1 - e.2) = e.2 := by omega
      rw [this]
    · rfl
  rw [hfe] at g5
  obtain ⟨a, b⟩ := flat_one hn g5 e1
  refine aT_some.mpr ⟨z, hz, ?_⟩
  rw [hp]
  have : p = (r, i) := Prod.ext a b
  rw [this]
theorem ld_two {hs : Wb} {kvs : List (Key × D)} {w : Wb} (hl : w.length = hs.length) (h : ∀ r x, w[r]? = some x → LdR hs kvs r x ∧ ∃ y, hs[r]? = some y ∧ y.length = x.length) (B : Back w) (h0 : HasE hs (0, 0)) (h1 : HasE hs (1, 0)) : Two w := by
  have one : ∀ k : Nat, HasE hs (k, 0) → ∃ a a' : End, aT w a.1 a.2 = some a' ∧ leE a a' ∧ ∃ e, aT hs a.1 a.2 = some e ∧ e.1 = k := by
    intro k hk
    obtain ⟨r, i, hri⟩ := aT_has.mp hk
    obtain ⟨y, hy, hi⟩ := aT_some.mp hri
    have hr : r < w.length := by rw [hl]; exact (List.getElem?_eq_some_iff.mp hy).1
    obtain ⟨x, hx⟩ : ∃ x, w[r]? = some x := ⟨w[r], List.getElem?_eq_getElem hr⟩
    obtain ⟨y', hy', hyl⟩ := (h r x hx).2
    rw [hy] at hy'; cases hy'
    have hix : i < x.length := by rw [← hyl]; exact (List.getElem?_eq_some_iff.mp hi).1
    have hp : x[i]? = some x[i] := List.getElem?_eq_getElem hix
    generalize x[i] = p at hp
    obtain ⟨e, f, e1, ⟨lp, p1, p2, p3⟩, e2⟩ := (h r x hx).1 i p hp
    rw [hri] at e1; cases e1
    have hat : aT w r i = some p := aT_some.mpr ⟨x, hx, hp⟩
    by_cases hle : leE (r, i) p
    · exact ⟨(r, i), p, hat, hle, _, hri, rfl⟩
    · refine ⟨p, (r, i), B r i p.1 p.2 hat, ?_, f, e2, by rw [p3]⟩
      unfold leE at hle ⊢
      simp only at hle ⊢
      omega
  obtain ⟨a, a', a1, a2, e, a3, a4⟩ := one 0 h0
  obtain ⟨b, b', b1, b2, f, b3, b4⟩ := one 1 h1
  refine ⟨a, a', b, b', a1, a2, b1, b2, fun q => ?_⟩
  subst q
  rw [a3] at b3
  cases b3
  omega
/-- how a drawn web came about -/
def Src2 (w : Wb) (k : Nat) : Prop := ∃ (hs : Wb) (kvs : List (Key × D)), hs.flatten.Nodup ∧ w.length = hs.length ∧ (∀ r x, w[r]? = some x → LdR hs kvs r x ∧ ∃ y, hs[r]? = some y ∧ y.length = x.length) ∧ EntOk hs kvs k
theorem web2_ok3 {S : Sto} {b z many more : Nat} {Q : D → Sto → Prop} (hb : Bx S b z) (hz : z < 700000) (hm : 0 < many ∧ many ≤ 24) (hmo : more ≤ 100)
    (q : ∀ (S' : Sto) (w : Wb), Cw w many → Back w → (2 ≤ more → Two w) → Src2 w (many - 1 + more) → Bx S' b (z + 800) → Fr S S' b → Q (wD w) S') : Wp (g_l_web_v2 [.loc b, nD many, nD more] S) Q := by
  unfold g_l_web_v2
  refine (wp_fnD (by rfl)).mpr ?_
  unfold b_l_web_v2
  have hbl := hb.lt
  have ek : ∀ y : Nat, nD y = D.int (y : Int) := fun _ => rfl
  (simp! only [ek])
  refine ⟨by simp [big62]; omega, ?_⟩
  rw [Int.toNat_natCast]
  refine lc_rng 0 many (by omega) (PC S) ⟨rfl, by simp, fun _ _ => rfl, fun i hi => by omega⟩ ?_ ?_
  · rintro i acc S1 hi ⟨rfl, hl, hf, hg⟩
    refine ⟨_, pb_nm, ?_⟩
    (simp! only [])
    refine ⟨?_, by simp; omega, fun n hn => by rw [sto_app (by omega)]; exact hf n hn, fun j hj => ?_⟩
    · rw [List.range_succ, List.map_append, hl]; rfl
    · by_cases e : j = i
      · subst e; rw [← hl]; exact sto_new
      · rw [sto_app (by omega)]; exact hg j (by omega)
  · rintro acc S1 ⟨rfl, hl, hf, hg⟩
    have hH : Hw (S1 ++ [MO.lst ((List.range many).map fun i => D.loc (S.length + i))]) S.length many (List.replicate many []) := by
      refine ⟨by rw [← hl]; exact sto_new, by simp, fun r x hx => ?_⟩
      rw [List.getElem?_replicate] at hx
      split at hx
      · rename_i hr
        cases hx
        rw [sto_app (by omega)]; exact hg r hr
      · cases hx
    have l1 : (S1 ++ [MO.lst ((List.range many).map fun i => D.loc (S.length + i))]).length = S.length + many + 1 := by simp; omega
    have f1 : ∀ n, n < S.length → (S1 ++ [MO.lst ((List.range many).map fun i => D.loc (S.length + i))])[n]? = S[n]? := fun n hn => by rw [sto_app (by omega)]; exact hf n hn
    rw [hl]
    generalize S1 ++ [MO.lst ((List.range many).map fun i => D.loc (S.length + i))] = S2 at hH l1 f1 ⊢
    have g0 : G2 (List.replicate many []) [] many 0 := by
      refine ⟨by simp, fun e he => ?_, fun r x hx => ?_, ?_, fun r x hx _ => ?_, by simp, by rw [List.flatten_replicate_nil]; exact List.nodup_nil, fun h => absurd h (by omega), fun h => absurd h (by omega)⟩
      · obtain ⟨r, x, hx, hm⟩ := he
        rw [List.getElem?_replicate] at hx
        split at hx
        · cases hx; simp at hm
        · cases hx
      · rw [List.getElem?_replicate] at hx
        split at hx
        · cases hx; simp
        · cases hx
      · simp [totL]
      · rw [List.getElem?_replicate] at hx
        split at hx
        · cases hx; rfl
        · cases hx
    have hA : (S2 ++ [MO.dK []])[S2.length]? = some (.dK []) := sto_new
    have hH2 : Hw (S2 ++ [MO.dK []]) S.length many (List.replicate many []) := hH.of fun n _ h => sto_app h
    have hb2 : Bx (S2 ++ [MO.dK []]) b z := hb.of (by rw [sto_app (by omega)]; exact f1 b hbl)
    have f2 : ∀ n, n < S.length → n ≠ b → (S2 ++ [MO.dK []])[n]? = S[n]? := fun n hn _ => by rw [sto_app (by omega)]; exact f1 n hn
    (simp! only [])
    rw [l1] at hA ⊢
    generalize S2 ++ [MO.dK []] = S3 at hA hH2 hb2 f2 ⊢
    have em : ((many : Int) - 1 + (more : Int)) = ((many - 1 + more : Nat) : Int) := by omega
    rw [em]
    refine ⟨by simp [big62]; omega, ?_⟩
    rw [Int.toNat_natCast]
    refine lo_rng 0 (many - 1 + more) (WI S b z many (S.length + many + 1) (some (nD more))) ⟨_, _, _, _, _, _, _, _, _, _, _, _, _, rfl, g0, hH2, hb2, hA, f2⟩ ?_ ?_
    · rintro k τ S4 hk ⟨hs, kvs, o5, o6, o7, o8, o9, o10, o11, o12, o13, o14, o15, rfl, G, H, hb4, hA4, fr4⟩
      have e0 : ((0 : Int) + (k : Int)) = (k : Int) := by omega
      rw [e0]
      refine ⟨_, pb_nm, ?_⟩
      exact wb_ok (τ := []) G H hb4 hA4 fr4 (by omega) (by omega) hbl (by omega) hm
    · rintro τ S4 ⟨hs, kvs, o5, o6, o7, o8, o9, o10, o11, o12, o13, o14, o15, rfl, G, H, hb4, hA4, fr4⟩
      have hAl := sto_lt hA4
      (simp! only [ek])
      refine ⟨by simp [big62]; omega, ?_⟩
      rw [Int.toNat_natCast]
      have hB : (S4 ++ [MO.dT []])[S4.length]? = some (.dT []) := sto_new
      have H5 : Hw (S4 ++ [MO.dT []]) S.length many hs := H.of fun n _ h => sto_app h
      have hb5 : Bx (S4 ++ [MO.dT []]) b (z + 6 * (many - 1 + more)) := hb4.of (sto_app hb4.lt)
      have hA5 : (S4 ++ [MO.dT []])[S.length + many + 1]? = some (.dK kvs) := (sto_app hAl).trans hA4
      have fr5 : ∀ n, n < S.length → n ≠ b → (S4 ++ [MO.dT []])[n]? = S[n]? := fun n hn hnb => (sto_app (by omega)).trans (fr4 n hn hnb)
      have l5 : S4.length < (S4 ++ [MO.dT []]).length := by simp
      generalize hBB : S4.length = B at hB l5 ⊢
      generalize S4 ++ [MO.dT []] = S5 at hB H5 hb5 hA5 fr5 l5 ⊢
      have hGl := G.len
      refine lo_rng 0 many (fun i τ S' => W1I S hs b many (S.length + many + 1) B kvs (some (nD more)) i τ S' ∧ Rst S5 B S') ⟨⟨[], _, _, _, _, _, _, _, _, _, _, rfl, hB, by rintro r' i' e (z | z) <;> omega, by simp⟩, rfl, fun _ _ => rfl⟩ ?_ ?_
      · rintro r τ S6 hr ⟨⟨ds, o5, o7, o8, o9, o10, o11, o12, o13, o14, o15, rfl, hB6, hw6, hd6⟩, hl6, hf6⟩
        have e0 : ((0 : Int) + (r : Int)) = (r : Int) := by omega
        rw [e0]
        refine ⟨_, pb_nm, ?_⟩
        obtain ⟨x, hx⟩ : ∃ x, hs[r]? = some x := ⟨hs[r]'(by omega), List.getElem?_eq_getElem (by omega)⟩
        have ht : S6[S.length + many]? = some (.lst ((List.range many).map fun i => D.loc (S.length + i))) := (hf6 _ (by omega)).trans H5.top
        have hr1 : S6[S.length + r]? = some (.lst (x.map eD)) := (hf6 _ (by omega)).trans (H5.at_ r x hx)
        have at1 : atI ((List.range many).map fun i => D.loc (S.length + i)) (r : Int) = some (.loc (S.length + r)) := atI_of (by rw [List.getElem?_map, List.getElem?_range hr]; rfl)
        (simp! only [wq_sbL ht, at1])
        refine ⟨_, srcE_loc hr1, ?_⟩
        have hx6 := G.six r x hx
        refine lo_en (S.length + r) (x.map eD) (fun i τ S' => W1J S hs b many (S.length + many + 1) B r kvs (some (nD more)) i τ S' ∧ Rst S5 B S') ⟨⟨ds, _, _, _, _, _, _, _, _, _, rfl, hB6, hw6, by omega⟩, hl6, hf6⟩ (fun j τ S' ⟨_, _, hf⟩ => (hf _ (by omega)).trans (H5.at_ r x hx)) ?_ ?_
        · rintro j d τ S7 hj ⟨⟨ds2, o5, o8, o9, o10, o11, o12, o13, o14, o15, rfl, hB7, hw7, hd7⟩, hl7, hf7⟩
          rw [List.getElem?_map] at hj
          obtain ⟨e, he, rfl⟩ := Option.map_eq_some_iff.mp hj
          have he' : aT hs r j = some e := aT_some.mpr ⟨x, hx, he⟩
          have hjl : j < x.length := (List.getElem?_eq_some_iff.mp he).1
          have st := stD_T (t := e.1) (s := e.2) (v := .tup [.int (r : Int), .int (j : Int)]) hB7 (by omega)
          (simp! only [eD, st])
          refine ⟨⟨_, _, _, _, _, _, _, _, _, _, rfl, sto_set hB7, hw7.put he' hr, ?_⟩, by rw [List.length_set]; exact hl7, fun n hn => by rw [sto_ne (Ne.symm hn)]; exact hf7 n hn⟩
          exact Nat.le_trans (pt_len ds2 (kE e) (eD (r, j))) (by omega)
        · rintro τ S7 ⟨⟨ds2, o5, o8, o9, o10, o11, o12, o13, o14, o15, rfl, hB7, hw7, hd7⟩, hl7, hf7⟩
          rw [List.length_map] at hw7 hd7
          refine ⟨⟨ds2, _, _, _, _, _, _, _, _, _, _, rfl, hB7, ?_, by omega⟩, hl7, hf7⟩
          rintro r' i' e (z | z) he
          · by_cases hr : r' < r
            · exact hw7 r' i' e (.inl hr) he
            · have : r' = r := by omega
              subst this
              obtain ⟨x', a1, a2⟩ := aT_some.mp he
              rw [hx] at a1; cases a1
              exact hw7 r' i' e (.inr ⟨rfl, (List.getElem?_eq_some_iff.mp a2).1⟩) he
          · omega
      · rintro τ S6 ⟨⟨ds, o5, o7, o8, o9, o10, o11, o12, o13, o14, o15, rfl, hB6, hw6, hd6⟩, hl6, hf6⟩
        have all : ∀ e, HasE hs e → ∃ p : End, lk ds (kE e) = some (eD p) ∧ p.1 < many ∧ aT hs p.1 p.2 = some e := fun e he => by
          obtain ⟨r, i, h⟩ := aT_has.mp he
          obtain ⟨x', a1, a2⟩ := aT_some.mp h
          have := (List.getElem?_eq_some_iff.mp a1).1
          exact hw6 r i e (.inl (by omega)) h
        have ht : S6[S.length + many]? = some (.lst ((List.range many).map fun i => D.loc (S.length + i))) := (hf6 _ (by omega)).trans H5.top
        (simp! only [])
        refine ⟨_, src_loc ht, ?_⟩
        refine lc_live _ _ (by simp; omega) (W3I S6 hs kvs many) ⟨[], rfl, rfl, by simp, fun r x h => by simp at h, Nat.le_refl _, fun _ _ => rfl⟩ (fun i acc S' ⟨_, _, _, _, _, _, hf⟩ => (hf _ (sto_lt ht)).trans ht) ?_ ?_
        · rintro i d acc S7 hd ⟨w, rfl, hwl, hwp, hwd, hl7, hf7⟩
          rw [List.getElem?_map] at hd
          obtain ⟨r, hr, rfl⟩ := Option.map_eq_some_iff.mp hd
          have hi : i < many := by have := (List.getElem?_eq_some_iff.mp hr).1; simpa using this
          rw [List.getElem?_range hi] at hr
          cases hr
          refine ⟨_, pb_nm, ?_⟩
          obtain ⟨x, hx⟩ : ∃ x, hs[i]? = some x := ⟨hs[i]'(by omega), List.getElem?_eq_getElem (by omega)⟩
          have hr6 : S6[S.length + i]? = some (.lst (x.map eD)) := (hf6 _ (by omega)).trans (H5.at_ i x hx)
          have hr7 : S7[S.length + i]? = some (.lst (x.map eD)) := (hf7 _ (sto_lt hr6)).trans hr6
          have hx6 := G.six i x hx
          (simp! only [])
          refine ⟨_, src_loc hr7, ?_⟩
          refine lc_live _ _ (by simp; omega) (W4I S6 hs kvs i many) ⟨[], rfl, rfl, by simp, fun j p h => by simp at h, hl7, hf7⟩ (fun i acc S' ⟨_, _, _, _, _, _, hf⟩ => (hf _ (sto_lt hr6)).trans hr6) ?_ ?_
          · rintro j d acc S8 hd ⟨y, rfl, hyl, hyp, hyd, hl8, hf8⟩
            rw [List.getElem?_map] at hd
            obtain ⟨e, he, rfl⟩ := Option.map_eq_some_iff.mp hd
            have hE : HasE hs e := ⟨i, x, hx, List.mem_of_getElem? he⟩
            obtain ⟨p1, p2, lp, p3, p4, _⟩ := G.ent e hE
            obtain ⟨p, hp1, hp2, hp3⟩ := all _ p4
            have hB8 : S8[B]? = some (.dT ds) := (hf8 B (sto_lt hB6)).trans hB6
            have hA6 : S6[S.length + many + 1]? = some (.dK kvs) := (hf6 _ (by omega)).trans hA5
            have hA8 : S8[S.length + many + 1]? = some (.dK kvs) := (hf8 _ (sto_lt hA6)).trans hA6
            (simp! only [eD])
            rw [wq_dgK hA8]
            refine ⟨_, p3, ?_⟩
            (simp! only [])
            have fin : ∀ s : Nat, s = (if lp = true then e.2 else 1 - e.2) → Wp (sbD (.loc B) (.tup [.int (e.1 : Int), .int (s : Int)]) S8) fun d S2 => W4I S6 hs kvs i many (j + 1) (y.map eD ++ [d]) S2 := fun s hs' => by
              rw [wq_dgT hB8]
              refine ⟨eD p, by rw [hs']; exact hp1, y ++ [p], by rw [List.map_append]; rfl, by simp [hyl], fun e' he' => ?_, fun j' p' hj' => ?_, hl8, hf8⟩
              · rcases List.mem_append.mp he' with z | z
                · exact hyp e' z
                · rw [List.mem_singleton.mp z]; exact hp2
              · by_cases hjl : j' < y.length
                · rw [List.getElem?_append_left hjl] at hj'
                  exact hyd j' p' hj'
                · have hj2 : j' = y.length := by
                    have := (List.getElem?_eq_some_iff.mp hj').1
                    simp at this; omega
                  subst hj2
                  rw [List.getElem?_append_right (Nat.le_refl _), Nat.sub_self] at hj'
                  cases hj'
                  exact ⟨e, _, aT_some.mpr ⟨x, hx, by rw [hyl]; exact he⟩, ⟨lp, p3, p2, rfl⟩, hp3⟩
            cases lp with
            | true =>
              (simp! only [])
              exact fin e.2 (by simp)
            | false =>
              have e1 : (1 : Int) - (e.2 : Int) = ((1 - e.2 : Nat) : Int) := by omega
              (simp! only [e1])
              exact fin (1 - e.2) (by simp)
          · rintro acc S8 ⟨y, rfl, hyl, hyp, hyd, hl8, hf8⟩
            rw [List.length_map] at hyl
            have hn : (S8 ++ [MO.lst (y.map eD)])[S8.length]? = some (.lst (y.map eD)) := sto_new
            (simp! only [wq_tupleL hn])
            refine ⟨w ++ [y], by rw [List.map_append]; rfl, by simp [hwl], fun x' hx' => ?_, fun r' x' hr' => ?_, by simp; omega, fun n hn => by rw [sto_app (by omega)]; exact hf8 n hn⟩
            · rcases List.mem_append.mp hx' with z | z
              · exact hwp x' z
              · rw [List.mem_singleton.mp z]
                exact ⟨by omega, hyp⟩
            · by_cases hrl : r' < w.length
              · rw [List.getElem?_append_left hrl] at hr'
                exact hwd r' x' hr'
              · have hr2 : r' = w.length := by
                  have := (List.getElem?_eq_some_iff.mp hr').1
                  simp at this; omega
                subst hr2
                rw [List.getElem?_append_right (Nat.le_refl _), Nat.sub_self] at hr'
                cases hr'
                rw [hwl]
                exact ⟨hyd, x, hx, hyl.symm⟩
        · rintro acc S7 ⟨w, rfl, hwl, hwp, hwd, hl7, hf7⟩
          rw [List.length_map, List.length_range] at hwl
          have hn : (S7 ++ [MO.lst (w.map rD)])[S7.length]? = some (.lst (w.map rD)) := sto_new
          (simp! only [wq_tupleL hn])
          have mem : ∀ (r : Nat) (x : List End), w[r]? = some x → x ∈ w := fun r x h => List.mem_of_getElem? h
          have hS6 : S6.length = S5.length := hl6
          have B := ld_back G.nd (by rw [hwl, hGl]) hwd
          refine q _ w ⟨hwl, fun r i s j h => ?_, fun r x h => (hwp x (mem r x h)).1⟩ B (fun h2 => ld_two (by rw [hwl, hGl]) hwd B (G.two.1 (by omega)) (G.two.2 (by omega))) ⟨hs, kvs, G.nd, by rw [hwl, hGl], hwd, G.ent⟩ (((hb5.of (hf6 b (by have := hb4.lt; omega))).of (hf7 b (by have := hb5.lt; omega))).of (sto_app (by have := hb5.lt; omega)) |>.le (by omega)) ⟨by simp; omega, fun n hn hnb => ?_⟩
          · obtain ⟨x, hx, hi⟩ := aT_some.mp h
            rw [hwl]
            exact (hwp x (mem r x hx)).2 (s, j) (List.mem_of_getElem? hi)
          · rw [sto_app (by omega), hf7 n (by omega), hf6 n (by omega)]
            exact fr5 n hn hnb
theorem web2_ok2 {S : Sto} {b z many more : Nat} {Q : D → Sto → Prop} (hb : Bx S b z) (hz : z < 700000) (hm : 0 < many ∧ many ≤ 24) (hmo : more ≤ 100)
    (q : ∀ (S' : Sto) (w : Wb), Cw w many → Back w → (2 ≤ more → Two w) → Bx S' b (z + 800) → Fr S S' b → Q (wD w) S') : Wp (g_l_web_v2 [.loc b, nD many, nD more] S) Q :=
  web2_ok3 hb hz hm hmo fun S' w c B T _ => q S' w c B T
theorem web2_ok {S : Sto} {b z many more : Nat} {Q : D → Sto → Prop} (hb : Bx S b z) (hz : z < 700000) (hm : 0 < many ∧ many ≤ 24) (hmo : more ≤ 100)
    (q : ∀ (S' : Sto) (w : Wb), Cw w many → Bx S' b (z + 800) → Fr S S' b → Q (wD w) S') : Wp (g_l_web_v2 [.loc b, nD many, nD more] S) Q :=
  web2_ok2 hb hz hm hmo fun S' w c _ _ => q S' w c
end SW
namespace SW
open PySem L2

/-! ways by doors not gone yet -/
def V2I (S0 : Sto) (b z : Nat) (w : Wb) (r0 many : Nat) (i : Nat) (τ : Tau) (S : Sto) : Prop := ∃ (ds : List Nat) (es gs : List End) (o6 o7 o8 o9 : Option D), τ = [some (.loc b), some (wD w), some (nD (lastR r0 es)), some (nD many), some (.loc S0.length), some (.loc (S0.length + 1)), o6, o7, o8, o9]
  ∧ spots w r0 ds = some es ∧ ds.length ≤ i ∧ S[S0.length]? = some (.lst (ds.map nD)) ∧ S[S0.length + 1]? = some (.lst (gs.map eD)) ∧ gs.length ≤ 2 * i ∧ Bx S b (z + 2 * i) ∧ Fr S0 S b
def VfI (S0 : Sto) (r : Nat) (gs : List End) (i : Nat) (acc : List D) (S : Sto) : Prop := acc = ((List.range i).filter fun d => !decide ((r, d) ∈ gs)).map nD ∧ S = S0
theorem rng0_map (n : Nat) : rng 0 n = (List.range n).map nD := by
  apply List.ext_getElem?
  intro i
  rw [rng_get, List.getElem?_map]
  by_cases h : i < n
  · rw [if_pos h, List.getElem?_range h]
    simp [nD]
  · rw [if_neg h, List.getElem?_eq_none (by simpa using h)]; rfl
def VC : EvS := (seqS (stS 9 (b2E sbD (vE 8) (aE g_l_take_v2 (consA (vE 0) (consA (aE lenD (consA (vE 8) nilA)) nilA)))))
  (seqS (exS (mE appendM (vE 4) (consA (vE 9) nilA)))
  (seqS (exS (mE appendM (vE 5) (consA (aE tupD (consA (vE 2) (consA (vE 9) nilA))) nilA)))
  (seqS (exS (mE appendM (vE 5) (consA (b2E sbD (b2E sbD (vE 1) (vE 2)) (vE 9)) nilA)))
  (stS 2 (b2E sbD (b2E sbD (b2E sbD (vE 1) (vE 2)) (vE 9)) (cE (.int 0))))))))
theorem vc_ok {S0 S : Sto} {b z r0 many i F n : Nat} {w : Wb} {ds fs : List Nat} {es gs : List End} {o6 o7 o9 : Option D} {Q : Out → Sto → Prop} (C : Cw w n) (hr0 : r0 < n) (hs : spots w r0 ds = some es) (hdl : ds.length ≤ i) (hi : i ≤ 200) (h1 : S[S0.length]? = some (.lst (ds.map nD))) (h2 : S[S0.length + 1]? = some (.lst (gs.map eD))) (hgl : gs.length ≤ 2 * i) (hb : Bx S b (z + 2 * i + 1)) (hz : z + 2 * i < 800000) (fr : Fr S0 S b) (hbl : b < S0.length)
    (hF : S[F]? = some (.lst (fs.map nD))) (hFl : S0.length + 1 < F) (hf : ∀ d ∈ fs, d < (rowD w (lastR r0 es)).length) (hne : 0 < fs.length) (hfl : fs.length ≤ 1000) :
    Wp (VC [some (.loc b), some (wD w), some (nD (lastR r0 es)), some (nD many), some (.loc S0.length), some (.loc (S0.length + 1)), o6, o7, some (.loc F), o9] S) (LoopQ (V2I S0 b z w r0 many (i + 1)) Q) := by
  unfold VC
  have ek : ∀ y : Nat, nD y = D.int (y : Int) := fun _ => rfl
  have hrl := spots_lt C.closed _ r0 es (by rw [C.len]; exact hr0) hs
  have hrow := row_at hrl
  have hrl2 : lastR r0 es < w.length := hrl
  (simp! only [len_loc hF, List.length_map])
  refine take2_ok hb (by omega) hne (by omega) fun v S1 hv hb1 l1 f1 => ?_
  refine pick2_at ((f1 F (by omega)).trans hF) hv fun d hd => ?_
  have hdl2 := hf d hd
  have he : (rowD w (lastR r0 es))[d]? = some (rowD w (lastR r0 es))[d] := List.getElem?_eq_getElem hdl2
  generalize (rowD w (lastR r0 es))[d] = e at he
  have g1 : S1[S0.length]? = some (.lst (ds.map nD)) := (f1 _ (by omega)).trans h1
  have g2 : S1[S0.length + 1]? = some (.lst (gs.map eD)) := (f1 _ (by omega)).trans h2
  have hl := sto_lt g2
  have q1 : (S1.set S0.length (.lst (ds.map nD ++ [.int (d : Int)])))[S0.length]? = some (.lst ((ds ++ [d]).map nD)) := by rw [sto_set g1, List.map_append]; rfl
  have q2 : (S1.set S0.length (.lst (ds.map nD ++ [.int (d : Int)])))[S0.length + 1]? = some (.lst (gs.map eD)) := by rw [sto_ne (by omega)]; exact g2
  have hb2 : Bx (S1.set S0.length (.lst (ds.map nD ++ [.int (d : Int)]))) b (z + 2 * i + 1 + 1) := hb1.of (sto_ne (by omega))
  have fr2 : Fr S0 (S1.set S0.length (.lst (ds.map nD ++ [.int (d : Int)]))) b := ⟨by rw [List.length_set, l1]; exact fr.len, fun n hn hnb => by rw [sto_ne (by omega), f1 n hnb]; exact fr.at_ n hn hnb⟩
  (simp! only [isLst_loc g1, wq_append g1, List.length_map])
  refine ⟨by omega, ?_⟩
  generalize S1.set S0.length (.lst (ds.map nD ++ [.int (d : Int)])) = S2 at q1 q2 hb2 fr2 ⊢
  have e1 : ∀ k : Nat, D.tup [nD (lastR r0 es), D.int (k : Int)] = eD (lastR r0 es, k) := fun _ => rfl
  have q3 : (S2.set (S0.length + 1) (.lst (gs.map eD ++ [eD (lastR r0 es, d)])))[S0.length + 1]? = some (.lst ((gs ++ [(lastR r0 es, d)]).map eD)) := by rw [sto_set q2, List.map_append]; rfl
  have q4 : (S2.set (S0.length + 1) (.lst (gs.map eD ++ [eD (lastR r0 es, d)])))[S0.length]? = some (.lst ((ds ++ [d]).map nD)) := by rw [sto_ne (by omega)]; exact q1
  have hb3 : Bx (S2.set (S0.length + 1) (.lst (gs.map eD ++ [eD (lastR r0 es, d)]))) b (z + 2 * i + 1 + 1) := hb2.of (sto_ne (by omega))
  have fr3 : Fr S0 (S2.set (S0.length + 1) (.lst (gs.map eD ++ [eD (lastR r0 es, d)]))) b := ⟨by rw [List.length_set]; exact fr2.len, fun n hn hnb => by rw [sto_ne (by omega)]; exact fr2.at_ n hn hnb⟩
  (simp! only [isLst_loc q2, e1, wq_append q2, List.length_map])
  refine ⟨by omega, ?_⟩
  generalize S2.set (S0.length + 1) (.lst (gs.map eD ++ [eD (lastR r0 es, d)])) = S3 at q3 q4 hb3 fr3 ⊢
  rw [ek]
  (simp! only [isLst_loc q3, wq_row hrow, wq_door he, wq_append q3, List.length_map, List.length_append])
  refine ⟨by omega, ?_⟩
  (simp! only [wq_row hrow, wq_door he, eD])
  refine ⟨_, rfl, ds ++ [d], es ++ [e], gs ++ [(lastR r0 es, d), e], o6, o7, some (.loc F), some (.int (d : Int)), ?_, ?_, by simp; omega, by rw [sto_ne (by omega)]; exact q4, ?_, by simp; omega, hb3.of (sto_ne (by omega)), ⟨by rw [List.length_set]; exact fr3.len, fun n hn hnb => by rw [sto_ne (by omega)]; exact fr3.at_ n hn hnb⟩⟩
  · rw [lastR_app]; rfl
  · exact spots_app _ _ _ _ _ hs (rowD_at.mp he)
  · rw [sto_set q3]
    simp [eD]
def VB : EvS := seqS (ifS (orT' (tB (b2E eqD (vE 8) (aE lstD nilA))) (tB (b2E eqD (aE g_l_take_v2 (consA (vE 0) (consA (cE (.int 5)) nilA))) (cE (.int 0))))) (stS 8 (rgL (r1R (vE 7)))) nxS) VC
theorem vb_ok {S0 S : Sto} {b z r0 many i F n : Nat} {w : Wb} {ds fs : List Nat} {es gs : List End} {o6 o9 : Option D} {Q : Out → Sto → Prop} (C : Cw w n) (hr0 : r0 < n) (hs : spots w r0 ds = some es) (hdl : ds.length ≤ i) (hi : i ≤ 200) (h1 : S[S0.length]? = some (.lst (ds.map nD))) (h2 : S[S0.length + 1]? = some (.lst (gs.map eD))) (hgl : gs.length ≤ 2 * i) (hb : Bx S b (z + 2 * i)) (hz : z + 2 * i < 800000) (fr : Fr S0 S b) (hbl : b < S0.length)
    (hF : S[F]? = some (.lst (fs.map nD))) (hFl : S0.length + 1 < F) (hf : ∀ d ∈ fs, d < (rowD w (lastR r0 es)).length) (h0 : (rowD w (lastR r0 es)).length ≠ 0) (h6 : (rowD w (lastR r0 es)).length ≤ 6) (hfl : fs.length ≤ 1000) :
    Wp (VB [some (.loc b), some (wD w), some (nD (lastR r0 es)), some (nD many), some (.loc S0.length), some (.loc (S0.length + 1)), o6, some (.int ((rowD w (lastR r0 es)).length : Nat)), some (.loc F), o9] S) (LoopQ (V2I S0 b z w r0 many (i + 1)) Q) := by
  unfold VB
  have hFS := sto_lt hF
  have hF5 : (S ++ [MO.lst []])[F]? = some (.lst (fs.map nD)) := (sto_app hFS).trans hF
  have hE5 : (S ++ [MO.lst []])[S.length]? = some (.lst (([] : List Nat).map nD)) := sto_new
  have h15 : (S ++ [MO.lst []])[S0.length]? = some (.lst (ds.map nD)) := (sto_app (sto_lt h1)).trans h1
  have h25 : (S ++ [MO.lst []])[S0.length + 1]? = some (.lst (gs.map eD)) := (sto_app (sto_lt h2)).trans h2
  have hb5 : Bx (S ++ [MO.lst []]) b (z + 2 * i) := hb.of (sto_app hb.lt)
  have fr5 : Fr S0 (S ++ [MO.lst []]) b := fr.trans (Fr.app _ _ _)
  have n5 : D.int 5 = D.int ((5 : Nat) : Int) := rfl
  have all : ∀ (S6 : Sto) (T : D → Sto → Prop), (∀ S7 : Sto, S7[S6.length]? = some (.lst ((List.range (rowD w (lastR r0 es)).length).map nD)) → S7.length = S6.length + 1 → (∀ m, m < S6.length → S7[m]? = S6[m]?) → T (.loc S6.length) S7) → Wp (rgL (r1R (vE 7)) [some (.loc b), some (wD w), some (nD (lastR r0 es)), some (nD many), some (.loc S0.length), some (.loc (S0.length + 1)), o6, some (.int ((rowD w (lastR r0 es)).length : Nat)), some (.loc F), o9] S6) T := fun S6 T k => by
    refine wp_rgL.mpr (wp_vE.mpr ⟨_, rfl, _, rfl, ?_, ?_⟩)
    · simp [rgOk, big62]; omega
    · rw [Int.sub_zero, Int.toNat_natCast]
      exact k _ (by rw [sto_new, rng0_map]) (by simp) fun m hm => sto_app hm
  (simp! only [])
  rw [wq_eqLN hF5 hE5]
  refine ⟨_, rfl, ?_⟩
  by_cases hfe : fs = []
  · rw [if_pos (by simp [hfe])]
    (simp! only [])
    refine all _ _ fun S7 a1 a2 a3 => ?_
    exact vc_ok (z := z) C hr0 hs hdl hi ((a3 _ (sto_lt h15)).trans h15) ((a3 _ (sto_lt h25)).trans h25) hgl ((hb5.of (a3 _ hb5.lt)).le (by omega)) hz ⟨by have := fr5.len; omega, fun m hm hmb => (a3 m (by have := fr5.len; omega)).trans (fr5.at_ m hm hmb)⟩ hbl a1 (by simp; omega) (fun d hd => List.mem_range.mp hd) (by simp; omega) (by simp; omega)
  · rw [if_neg (by simp [hfe]), n5]
    refine take2_ok hb5 (by omega) (by omega) (by omega) fun v S6 hv hb6 l6 f6 => ?_
    have hF6 := (f6 F (by omega)).trans hF5
    have h16 := (f6 S0.length (by omega)).trans h15
    have h26 := (f6 (S0.length + 1) (by omega)).trans h25
    have fr6 : Fr S0 S6 b := ⟨by rw [l6]; exact fr5.len, fun m hm hmb => (f6 m hmb).trans (fr5.at_ m hm hmb)⟩
    rw [wq_eqI]
    refine ⟨_, rfl, ?_⟩
    by_cases hv0 : v = 0
    · rw [if_pos (by simp [hv0])]
      refine all _ _ fun S7 a1 a2 a3 => ?_
      exact vc_ok (z := z) C hr0 hs hdl hi ((a3 _ (sto_lt h16)).trans h16) ((a3 _ (sto_lt h26)).trans h26) hgl (hb6.of (a3 _ hb6.lt)) hz ⟨by have := fr6.len; omega, fun m hm hmb => (a3 m (by have := fr6.len; omega)).trans (fr6.at_ m hm hmb)⟩ hbl a1 (by have := sto_lt hF6; omega) (fun d hd => List.mem_range.mp hd) (by simp; omega) (by simp; omega)
    · rw [if_neg (by simp; omega)]
      exact vc_ok (z := z) C hr0 hs hdl hi h16 h26 hgl hb6 hz fr6 hbl hF6 hFl hf (List.length_pos_iff.mpr hfe) hfl
theorem way2_ok {S : Sto} {b z r many n : Nat} {w : Wb} {Q : D → Sto → Prop} (hb : Bx S b z) (hz : z < 700000) (C : Cw w n) (hr : r < n) (hm : many ≤ 100)
    (q : ∀ (S' : Sto) (ds : List Nat) (es : List End), spots w r ds = some es → ds.length ≤ many → Bx S' b (z + 2 * many) → Fr S S' b → Q (.tup (ds.map nD)) S') : Wp (g_l_way_v2 [.loc b, wD w, nD r, nD many] S) Q := by
  unfold g_l_way_v2
  refine (wp_fnD (by rfl)).mpr ?_
  unfold b_l_way_v2
  have hbl := hb.lt
  have ek : ∀ y : Nat, nD y = D.int (y : Int) := fun _ => rfl
  have el : (S ++ [MO.lst []]).length = S.length + 1 := by simp
  have g1 : (S ++ [MO.lst []] ++ [MO.lst []])[S.length]? = some (.lst (([] : List Nat).map nD)) := by rw [sto_app (by simp)]; exact sto_new
  have g2 : (S ++ [MO.lst []] ++ [MO.lst []])[S.length + 1]? = some (.lst (([] : List End).map eD)) := by rw [← el]; exact sto_new
  have hb0 : Bx (S ++ [MO.lst []] ++ [MO.lst []]) b (z + 2 * 0) := hb.of (by rw [sto_app (by simp; omega), sto_app hbl])
  have fr0 : Fr S (S ++ [MO.lst []] ++ [MO.lst []]) b := ⟨by simp, fun n hn _ => by rw [sto_app (by simp; omega), sto_app hn]⟩
  have ekm : nD many = D.int (many : Int) := rfl
  (simp! only [el, ekm])
  generalize S ++ [MO.lst []] ++ [MO.lst []] = S1 at g1 g2 hb0 fr0 ⊢
  refine ⟨by simp [big62]; omega, ?_⟩
  rw [Int.toNat_natCast]
  refine lo_rng 0 many (V2I S b z w r many) ⟨[], [], [], _, _, _, _, rfl, rfl, by simp, g1, g2, by simp, hb0, fr0⟩ ?_ ?_
  · rintro i τ S2 hi ⟨ds, es, gs, o6, o7, o8, o9, rfl, hs, hdl, h1, h2, hgl, hb2, fr2⟩
    refine ⟨_, pb_nm, ?_⟩
    show Wp (seqS (stS 7 (aE lenD (consA (b2E sbD (vE 1) (vE 2)) nilA))) (seqS (ifS (tB (b2E eqD (vE 7) (cE (.int 0)))) (rtS (aE tupleD (consA (vE 4) nilA))) nxS) (seqS (stS 8 (lcE (rgI1 (vE 7)) (.nm 9) (tB (b2E notInD (aE tupD (consA (vE 2) (consA (vE 9) nilA))) (vE 5))) (vE 9) [9])) VB)) _ _) _
    have hrl := spots_lt C.closed _ r es (by rw [C.len]; exact hr) hs
    have hrow := row_at hrl
    have h6 := C.six _ _ hrow
    have hl2 := sto_lt h2
    have eks : nD (lastR r es) = D.int (lastR r es : Int) := rfl
    (simp! only [eks, wq_row hrow, len_row, wq_eqI])
    by_cases h0 : (rowD w (lastR r es)).length = 0
    · rw [if_pos (by omega), wq_tupleL h1]
      exact q S2 ds es hs (by omega) (hb2.le (by omega)) fr2
    · rw [if_neg (by omega)]
      refine ⟨by simp [big62]; omega, ?_⟩
      rw [Int.toNat_natCast]
      refine lc_rng 0 _ (by omega) (VfI S2 (lastR r es) gs) ⟨rfl, rfl⟩ ?_ ?_
      · rintro j acc S3 hj ⟨rfl, rfl⟩
        have e0 : ((0 : Int) + (j : Int)) = (j : Int) := by omega
        rw [e0]
        refine ⟨_, pb_nm, ?_⟩
        have e1 : D.tup [D.int (lastR r es : Int), D.int (j : Int)] = eD (lastR r es, j) := rfl
        (simp! only [e1, wq_notInE h2])
        by_cases hg : (lastR r es, j) ∈ gs
        · rw [if_neg (by simp [hg])]
          refine ⟨?_, rfl⟩
          rw [List.range_succ, List.filter_append]
          simp [hg]
        · rw [if_pos (by simp [hg])]
          (simp! only [])
          refine ⟨?_, rfl⟩
          rw [List.range_succ, List.filter_append, List.map_append]
          simp [hg, nD]
      · rintro acc S3 ⟨rfl, rfl⟩
        generalize hfs : (List.range (rowD w (lastR r es)).length).filter (fun d => !decide ((lastR r es, d) ∈ gs)) = fs
        have hfl : fs.length ≤ 6 := by rw [← hfs]; have := List.length_filter_le (fun d => !decide ((lastR r es, d) ∈ gs)) (List.range (rowD w (lastR r es)).length); rw [List.length_range] at this; omega
        have hfd : ∀ d ∈ fs, d < (rowD w (lastR r es)).length := fun d hd => by
          rw [← hfs, List.mem_filter, List.mem_range] at hd
          exact hd.1
        have hF : (S3 ++ [MO.lst (fs.map nD)])[S3.length]? = some (.lst (fs.map nD)) := sto_new
        have h1' : (S3 ++ [MO.lst (fs.map nD)])[S.length]? = some (.lst (ds.map nD)) := (sto_app (by omega)).trans h1
        have h2' : (S3 ++ [MO.lst (fs.map nD)])[S.length + 1]? = some (.lst (gs.map eD)) := (sto_app hl2).trans h2
        have hb3 : Bx (S3 ++ [MO.lst (fs.map nD)]) b (z + 2 * i) := hb2.of (sto_app hb2.lt)
        have fr3 : Fr S (S3 ++ [MO.lst (fs.map nD)]) b := fr2.trans (Fr.app _ _ _)
        exact vb_ok (z := z) C hr hs hdl (by omega) h1' h2' hgl hb3 (by omega) fr3 hbl hF (by omega) hfd h0 h6 (by omega)
  · rintro τ S2 ⟨ds, es, gs, o6, o7, o8, o9, rfl, hs, hdl, h1, h2, hgl, hb2, fr2⟩
    (simp! only [wq_tupleL h1])
    exact q S2 ds es hs hdl hb2 fr2
end SW
namespace SW
open PySem L2

/-! stories -/
abbrev St := Nat × (Nat × Nat)
def sT (s : St) : D := .tup [nD s.1, nD s.2.1, nD s.2.2]
def stoD (n : Nat) (ss : List St) : D := .tup [nD n, .tup (ss.map sT)]
/-- where a story leads -/
def lastS (w : Wb) : Nat → List St → Option Nat
  | r, [] => some r
  | r, s :: ss => match (rowD w r)[s.1]? with
    | none => none
    | some e => if e.2 = s.2.1 ∧ rowL w e.1 = s.2.2 then lastS w e.1 ss else none
theorem lastS_cons {w : Wb} {r : Nat} {s : St} {ss : List St} : lastS w r (s :: ss) = match (rowD w r)[s.1]? with
    | none => none
    | some e => if e.2 = s.2.1 ∧ rowL w e.1 = s.2.2 then lastS w e.1 ss else none := rfl
def lastF (w : Wb) (r n : Nat) (ss : List St) : Option Nat := if rowL w r = n then lastS w r ss else none
def optD : Option Nat → D
  | none => .non
  | some x => nD x
def sg (s : St) : D := .tup [nD s.2.1, nD s.2.2]
theorem sg_eq {w : Wb} {e : End} {s : St} : (D.tup [nD e.2, nD (rowL w e.1)] = sg s) ↔ e.2 = s.2.1 ∧ rowL w e.1 = s.2.2 := by
  unfold sg nD
  simp only [D.tup.injEq, List.cons.injEq, D.int.injEq, and_true]
  constructor <;> rintro ⟨a, b⟩ <;> exact ⟨by omega, by omega⟩
theorem last_iff {w : Wb} : ∀ {ss : List St} {r x : Nat}, lastS w r ss = some x ↔ ∃ es, spots w r (ss.map (·.1)) = some es ∧ seL w es = ss.map sg ∧ lastR r es = x
  | [], r, x => by
    constructor
    · intro h
      cases h
      exact ⟨[], rfl, rfl, rfl⟩
    · rintro ⟨es, h1, _, h3⟩
      cases h1
      rw [← h3]; rfl
  | s :: ss, r, x => by
    rw [List.map_cons, spots_cons]
    unfold lastS
    cases he : (rowD w r)[s.1]? with
    | none =>
      constructor
      · intro h; cases h
      · rintro ⟨es, h1, _⟩; cases h1
    | some e =>
      simp only [Option.bind_some]
      by_cases c : e.2 = s.2.1 ∧ rowL w e.1 = s.2.2
      · rw [if_pos c, last_iff]
        constructor
        · rintro ⟨es, h1, h2, h3⟩
          refine ⟨e :: es, by rw [h1]; rfl, ?_, by rw [lastR_cons]; exact h3⟩
          unfold seL at h2 ⊢
          rw [List.map_cons, List.map_cons, h2, sg_eq.mpr c]
        · rintro ⟨es, h1, h2, h3⟩
          obtain ⟨es', h4, rfl⟩ := Option.map_eq_some_iff.mp h1
          unfold seL at h2
          rw [List.map_cons, List.map_cons] at h2
          refine ⟨es', h4, (List.cons.inj h2).2, ?_⟩
          rw [lastR_cons] at h3; exact h3
      · rw [if_neg c]
        constructor
        · intro h; cases h
        · rintro ⟨es, h1, h2, h3⟩
          obtain ⟨es', h4, rfl⟩ := Option.map_eq_some_iff.mp h1
          unfold seL at h2
          rw [List.map_cons, List.map_cons] at h2
          exact (c (sg_eq.mp (List.cons.inj h2).1)).elim
theorem fit_iff {w : Wb} {r n : Nat} {ss : List St} : seenO w r (ss.map (·.1)) = .tup (nD n :: ss.map sg) ↔ ∃ x, lastF w r n ss = some x := by
  unfold seenO lastF
  constructor
  · intro h
    cases e : spots w r (ss.map (·.1)) with
    | none => rw [e] at h; cases h
    | some es =>
      rw [e] at h
      injection h with h
      unfold seenD at h
      obtain ⟨h1, h2⟩ := List.cons.inj h
      rw [if_pos (nD_inj' h1)]
      exact ⟨_, last_iff.mpr ⟨es, e, h2, rfl⟩⟩
  · rintro ⟨x, h⟩
    split at h
    · rename_i hn
      obtain ⟨es, h1, h2, h3⟩ := last_iff.mp h
      rw [h1]
      unfold seL at h2
      show D.tup (seenD w r es) = _
      unfold seenD
      rw [h2, hn]
    · cases h
theorem wq_st {s : St} {i : Int} {S : Sto} {Q : D → Sto → Prop} : Wp (sbD (sT s) (.int i) S) Q ↔ ∃ d, atI [nD s.1, nD s.2.1, nD s.2.2] i = some d ∧ Q d S := wq_sbT
/-- l_last -/
def LstI (w : Wb) (n : Nat) (ss : List St) (r0 : Nat) (S0 : Sto) (i : Nat) (τ : Tau) (S : Sto) : Prop := ∃ (r : Nat) (o3 o4 o5 o6 : Option D), τ = [some (wD w), some (nD r), some (stoD n ss), o3, o4, o5, o6] ∧ r < w.length ∧ lastS w r0 ss = lastS w r (ss.drop i) ∧ S = S0
theorem last_ok {S : Sto} {w : Wb} {r n m : Nat} {ss : List St} {Q : D → Sto → Prop} (C : Cw w m) (hr : r < w.length) (q : Q (optD (lastF w r n ss)) S) : Wp (g_l_last [wD w, nD r, stoD n ss] S) Q := by
  unfold g_l_last
  refine (wp_fnD (by rfl)).mpr ?_
  unfold b_l_last
  have hrow := row_at hr
  have enr : nD r = D.int (r : Int) := rfl
  have a0 : ∀ (S : Sto) (Q : D → Sto → Prop), Wp (sbD (stoD n ss) (.int 0) S) Q ↔ Q (.int (n : Int)) S := fun S Q => sb_tup rfl
  have a1 : ∀ (S : Sto) (Q : D → Sto → Prop), Wp (sbD (stoD n ss) (.int 1) S) Q ↔ Q (.tup (ss.map sT)) S := fun S Q => sb_tup rfl
  (simp! only [enr, wq_row hrow, len_row, a0, a1, wq_neI])
  have hrl := rowL_of hrow
  by_cases hn : rowL w r = n
  · rw [if_neg (by simp; omega)]
    refine lo_fixed _ (LstI w n ss r S) ⟨r, _, _, _, _, rfl, hr, rfl, rfl⟩ ?_ ?_
    · rintro i d τ S1 hd ⟨r1, o3, o4, o5, o6, rfl, hr1, hls, rfl⟩
      rw [List.getElem?_map] at hd
      obtain ⟨s, hs, rfl⟩ := Option.map_eq_some_iff.mp hd
      have hrow1 := row_at hr1
      have hrl1 := rowL_of hrow1
      have hi := (List.getElem?_eq_some_iff.mp hs).1
      have hdr : ss.drop i = s :: ss.drop (i + 1) := by
        rw [List.drop_eq_getElem_cons hi]
        rw [List.getElem?_eq_getElem hi] at hs
        cases hs; rfl
      rw [hdr, lastS_cons] at hls
      have enr1 : nD r1 = D.int (r1 : Int) := rfl
      unfold sT nD
      (simp! only [enr1, wq_row hrow1, len_row])
      by_cases hdl : s.1 < (rowD w r1).length
      · rw [if_neg (by omega)]
        have he : (rowD w r1)[s.1]? = some (rowD w r1)[s.1] := List.getElem?_eq_getElem hdl
        generalize (rowD w r1)[s.1] = e at he
        rw [he] at hls
        have hel := C.closed _ _ _ _ (rowD_at.mp he)
        have hrow2 := row_at hel
        have hrl2 := rowL_of hrow2
        (simp! only [enr1, wq_row hrow1, wq_door he, eD, wq_row hrow2, len_row, wq_neI])
        by_cases c : e.2 = s.2.1 ∧ rowL w e.1 = s.2.2
        · simp only at hls
          rw [if_pos c] at hls
          rw [if_neg (by simp; omega), if_neg (by simp; omega)]
          exact ⟨e.1, _, _, _, _, rfl, hel, hls, rfl⟩
        · simp only at hls
          rw [if_neg c] at hls
          unfold lastF at q
          rw [if_pos hn, hls] at q
          by_cases c1 : e.2 = s.2.1
          · rw [if_neg (by simp; omega), if_pos (by simp; omega)]
            exact q
          · rw [if_pos (by simp; omega)]
            exact q
      · rw [if_pos (by omega)]
        have he : (rowD w r1)[s.1]? = none := List.getElem?_eq_none_iff.mpr (by omega)
        rw [he] at hls
        simp only at hls
        unfold lastF at q
        rw [if_pos hn, hls] at q
        exact q
    · rintro τ S1 ⟨r1, o3, o4, o5, o6, rfl, hr1, hls, rfl⟩
      rw [List.length_map, List.drop_length] at hls
      (simp! only [])
      unfold lastF at q
      rw [if_pos hn, hls] at q
      exact q
  · rw [if_pos (by simp; omega)]
    unfold lastF at q
    rw [if_neg hn] at q
    exact q
/-! the program's stories -/
def WyI2 (ss : List St) (S0 : Sto) (i : Nat) (acc : List D) (S : Sto) : Prop := acc = (ss.take i).map (fun s => nD s.1) ∧ S = S0
theorem story_way_ok {S : Sto} {n : Nat} {ss : List St} {Q : D → Sto → Prop} (hl : ss.length ≤ 900000) (q : ∀ S' : Sto, S.length ≤ S'.length → (∀ m, m < S.length → S'[m]? = S[m]?) → Q (.tup ((ss.map (·.1)).map nD)) S') : Wp (g_story_way [stoD n ss] S) Q := by
  unfold g_story_way
  refine (wp_fnD (by rfl)).mpr ?_
  unfold b_story_way
  have a1 : ∀ (S : Sto) (Q : D → Sto → Prop), Wp (sbD (stoD n ss) (.int 1) S) Q ↔ Q (.tup (ss.map sT)) S := fun S Q => sb_tup rfl
  (simp! only [a1])
  refine lc_fixed _ (by simp; omega) (WyI2 ss S) ⟨rfl, rfl⟩ ?_ ?_
  · rintro i d acc S1 hd ⟨rfl, rfl⟩
    rw [List.getElem?_map] at hd
    obtain ⟨s, hs, rfl⟩ := Option.map_eq_some_iff.mp hd
    refine ⟨_, pb_nm, ?_⟩
    (simp! only [wq_st])
    refine ⟨_, at3_0 _ _ _, ?_, rfl⟩
    rw [List.take_add_one, hs, List.map_append]; rfl
  · rintro acc S1 ⟨rfl, rfl⟩
    have hn : (S1 ++ [MO.lst ((ss.take (ss.map sT).length).map fun s => nD s.1)])[S1.length]? = some (.lst ((ss.take (ss.map sT).length).map fun s => nD s.1)) := sto_new
    rw [wq_tupleL hn, List.length_map, List.take_length]
    have := q (S1 ++ [MO.lst ((ss.take (ss.map sT).length).map fun s => nD s.1)]) (by simp) fun m hm => sto_app hm
    rw [List.map_map] at this
    rw [List.length_map, List.take_length] at this
    exact this
def SgI (ss : List St) (S0 : Sto) (i : Nat) (acc : List D) (S : Sto) : Prop := acc = (ss.take i).map sg ∧ S0.length ≤ S.length ∧ ∀ m, m < S0.length → S[m]? = S0[m]?
theorem story_sight_ok {S : Sto} {n : Nat} {ss : List St} {Q : D → Sto → Prop} (hl : ss.length ≤ 900000) (q : ∀ S' : Sto, S.length ≤ S'.length → (∀ m, m < S.length → S'[m]? = S[m]?) → Q (.tup (nD n :: ss.map sg)) S') : Wp (g_story_sight [stoD n ss] S) Q := by
  unfold g_story_sight
  refine (wp_fnD (by rfl)).mpr ?_
  unfold b_story_sight
  have a0 : ∀ (S : Sto) (Q : D → Sto → Prop), Wp (sbD (stoD n ss) (.int 0) S) Q ↔ Q (nD n) S := fun S Q => sb_tup rfl
  have a1 : ∀ (S : Sto) (Q : D → Sto → Prop), Wp (sbD (stoD n ss) (.int 1) S) Q ↔ Q (.tup (ss.map sT)) S := fun S Q => sb_tup rfl
  (simp! only [a0, a1])
  refine lc_fixed _ (by simp; omega) (SgI ss S) ⟨rfl, Nat.le_refl _, fun _ _ => rfl⟩ ?_ ?_
  · rintro i d acc S1 hd ⟨rfl, l1, f1⟩
    rw [List.getElem?_map] at hd
    obtain ⟨s, hs, rfl⟩ := Option.map_eq_some_iff.mp hd
    refine ⟨_, pb_nm, ?_⟩
    have ec : cutD [nD s.1, nD s.2.1, nD s.2.2] (some 1) none = [nD s.2.1, nD s.2.2] := rfl
    unfold sT
    (simp! only [ec])
    refine ⟨?_, l1, f1⟩
    rw [List.take_add_one, hs, List.map_append]; rfl
  · rintro acc S1 ⟨rfl, l1, f1⟩
    have hn : (S1 ++ [MO.lst ((ss.take (ss.map sT).length).map sg)])[S1.length]? = some (.lst ((ss.take (ss.map sT).length).map sg)) := sto_new
    rw [wq_tupleL hn]
    rw [List.length_map, List.take_length]
    (simp! only [List.length_map])
    refine ⟨by omega, ?_⟩
    exact q _ (by simp; omega) fun m hm => by rw [sto_app (by omega)]; exact f1 m hm
theorem gd_sights {n : Nat} {ss : List St} : gd (.tup (nD n :: ss.map sg)) := by
  refine (gk_tup (k := 1) fun d hd => ?_).gd
  rcases List.mem_cons.mp hd with rfl | hd
  · exact gk_int
  · obtain ⟨s, _, rfl⟩ := List.mem_map.mp hd
    exact gk_two (k := 0) gk_int gk_int
theorem seenOC_ok {S : Sto} {w : Wb} {r : Nat} {d : D} {ds : List Nat} {Q : D → Sto → Prop} (hc : Closed w) (hr : r < w.length) (hd : WayAt S d ds) (hl : ds.length ≤ 900000)
    (q : ∀ S' : Sto, S.length ≤ S'.length → (∀ n, n < S.length → S'[n]? = S[n]?) → Q (seenO w r ds) S') : Wp (g_seen [wD w, nD r, d] S) Q := by
  refine seenC_ok hc hr hd hl (fun S' es e l f => ?_) fun S' e l f => ?_
  · have := q S' (by omega) f
    unfold seenO at this
    rw [e] at this
    exact this
  · have := q S' (by omega) f
    unfold seenO at this
    rw [e] at this
    exact this
theorem fits_ok {S : Sto} {w : Wb} {r n m : Nat} {ss : List St} {Q : D → Sto → Prop} (C : Cw w m) (hr : r < w.length) (hl : ss.length ≤ 900000)
    (q : ∀ S' : Sto, S.length ≤ S'.length → (∀ m, m < S.length → S'[m]? = S[m]?) → Q (.bl (lastF w r n ss).isSome) S') : Wp (g_fits [wD w, nD r, stoD n ss] S) Q := by
  unfold g_fits
  refine (wp_fnD (by rfl)).mpr ?_
  unfold b_fits
  (simp! only [])
  refine story_way_ok (by omega) fun S1 l1 f1 => ?_
  refine seenOC_ok (ds := ss.map (·.1)) C.closed hr (show WayAt S1 (.tup ((ss.map (·.1)).map nD)) (ss.map (·.1)) from rfl) (by simp; omega) fun S2 l2 f2 => ?_
  refine story_sight_ok (by omega) fun S3 l3 f3 => ?_
  rw [wq_eqG gd_seen gd_sights]
  have := q S3 (by omega) fun m hm => by rw [f3 m (by omega), f2 m (by omega)]; exact f1 m hm
  have e : decide (seenO w r (ss.map (·.1)) = .tup (nD n :: ss.map sg)) = (lastF w r n ss).isSome := by
    cases h : lastF w r n ss with
    | none =>
      refine decide_eq_false fun z => ?_
      obtain ⟨x, hx⟩ := fit_iff.mp z
      rw [h] at hx; cases hx
    | some x => exact decide_eq_true (fit_iff.mpr ⟨x, h⟩)
  rw [e]
  exact this
end SW
namespace SW
open PySem L2

/-! the same, kind by kind -/
theorem isi_nlt {S : Sto} {Q : D → Sto → Prop} : Wp (isiD [.non, .tup [.ty "list", .ty "tuple"]] S) Q ↔ Q (.bl false) S := by
  have e : isiD [.non, .tup [.ty "list", .ty "tuple"]] S = some (.bl false, S) := rfl
  rw [e]; exact wp_some
theorem isi_blt {b : Bool} {S : Sto} {Q : D → Sto → Prop} : Wp (isiD [.bl b, .tup [.ty "list", .ty "tuple"]] S) Q ↔ Q (.bl false) S := by
  have e : isiD [.bl b, .tup [.ty "list", .ty "tuple"]] S = some (.bl false, S) := rfl
  rw [e]; exact wp_some
theorem isi_bi {b : Bool} {S : Sto} {Q : D → Sto → Prop} : Wp (isiD [.bl b, .ty "int"] S) Q ↔ Q (.bl true) S := by
  have e : isiD [.bl b, .ty "int"] S = some (.bl true, S) := rfl
  rw [e]; exact wp_some
theorem same2_ok : ∀ (n : Nat) (d : D) (S : Sto) (Q : D → Sto → Prop), pl n d = true → (∀ S' : Sto, S.length ≤ S'.length → (∀ m, m < S.length → S'[m]? = S[m]?) → Q (.bl true) S') → Wp (g_l_same_v2 (n + 1) [d, d] S) Q := by
  intro n
  induction n with
  | zero =>
    intro d S Q hp q
    show Wp (fnD 2 4 (b_l_same_v2 (g_l_same_v2 0)) [d, d] S) Q
    refine (wp_fnD (by rfl)).mpr ?_
    unfold b_l_same_v2
    cases d with
    | non =>
      (simp! only [isNonD, isi_nlt])
      exact q S (Nat.le_refl _) fun _ _ => rfl
    | bl b =>
      (simp! only [isNonD, isi_bb, isi_blt, isi_bi, wp_eqB])
      have : (b == b) = true := by cases b <;> rfl
      rw [this]
      exact q S (Nat.le_refl _) fun _ _ => rfl
    | int i =>
      (simp! only [isNonD, isi_ib, isi_ii, isi_ilt, wp_eqI, wp_eqB])
      exact q S (Nat.le_refl _) fun _ _ => rfl
    | _ => cases hp
  | succ n ih =>
    intro d S Q hp q
    show Wp (fnD 2 4 (b_l_same_v2 (g_l_same_v2 (n + 1))) [d, d] S) Q
    refine (wp_fnD (by rfl)).mpr ?_
    unfold b_l_same_v2
    cases d with
    | non =>
      (simp! only [isNonD, isi_nlt])
      exact q S (Nat.le_refl _) fun _ _ => rfl
    | bl b =>
      (simp! only [isNonD, isi_bb, isi_blt, isi_bi, wp_eqB])
      have : (b == b) = true := by cases b <;> rfl
      rw [this]
      exact q S (Nat.le_refl _) fun _ _ => rfl
    | int i =>
      (simp! only [isNonD, isi_ib, isi_ii, isi_ilt, wp_eqI, wp_eqB])
      exact q S (Nat.le_refl _) fun _ _ => rfl
    | tup ds =>
      rw [pl, Bool.and_eq_true, decide_eq_true_eq, List.all_eq_true] at hp
      obtain ⟨hl, hp⟩ := hp
      (simp! only [isNonD, isi_tb, isi_tt, isi_tl, isi_tlt, wp_neB, wp_eqI])
      rw [if_neg (by decide), zips_self]
      refine lc_fixed _ (by simp; omega) (AlI S) ⟨rfl, Nat.le_refl _, fun _ _ => rfl⟩ ?_ ?_
      · rintro i x acc S1 hx ⟨rfl, hl1, hf1⟩
        rw [List.getElem?_map] at hx
        obtain ⟨y, hy, rfl⟩ := Option.map_eq_some_iff.mp hx
        (simp! only [])
        refine ih y S1 _ (hp y (List.mem_of_getElem? hy)) fun S2 hl2 hf2 => ⟨?_, by omega, fun m hm => by rw [hf2 m (by omega)]; exact hf1 m hm⟩
        exact List.replicate_succ'.symm
      · rintro acc S1 ⟨rfl, hl1, hf1⟩
        rw [wq_allL sto_new (bls_rep _)]
        have : (List.replicate (ds.map fun d => D.tup [d, d]).length true).all id = true := by simp
        rw [this]
        exact q _ (by simp; omega) fun m hm => by rw [sto_app (by omega)]; exact hf1 m hm
    | _ => cases hp
/-- lists -/
theorem sameL_ok {S : Sto} {m k n : Nat} {ds : List D} {Q : D → Sto → Prop} (h1 : S[m]? = some (.lst ds)) (h2 : S[k]? = some (.lst ds)) (hl : ds.length ≤ 1000) (hp : ∀ d ∈ ds, pl n d = true)
    (q : ∀ S' : Sto, S.length ≤ S'.length → (∀ m, m < S.length → S'[m]? = S[m]?) → Q (.bl true) S') : Wp (g_l_same_v2 (n + 2) [.loc m, .loc k] S) Q := by
  show Wp (fnD 2 4 (b_l_same_v2 (g_l_same_v2 (n + 1))) [.loc m, .loc k] S) Q
  refine (wp_fnD (by rfl)).mpr ?_
  unfold b_l_same_v2
  (simp! only [isi_Llt h1, isi_Llt h2, isi_Ll h1, isi_Ll h2, wp_neB, wp_eqI, len_loc h1, len_loc h2])
  rw [if_neg (by decide)]
  refine lc_zip m k ds ds rfl (by omega) (AlI S) ⟨rfl, Nat.le_refl _, fun _ _ => rfl⟩ (fun i acc S' h => ⟨(h.2.2 m (sto_lt h1)).trans h1, (h.2.2 k (sto_lt h2)).trans h2⟩) ?_ ?_
  · rintro i x y acc S1 hx hy ⟨rfl, hl1, hf1⟩
    rw [hx] at hy; cases hy
    (simp! only [])
    refine same2_ok n x S1 _ (hp x (List.mem_of_getElem? hx)) fun S2 hl2 hf2 => ⟨?_, by omega, fun m hm => by rw [hf2 m (by omega)]; exact hf1 m hm⟩
    exact List.replicate_succ'.symm
  · rintro acc S1 ⟨rfl, hl1, hf1⟩
    rw [wq_allL sto_new (bls_rep _)]
    have : (List.replicate ds.length true).all id = true := by simp
    rw [this]
    exact q _ (by simp; omega) fun m hm => by rw [sto_app (by omega)]; exact hf1 m hm
end SW
namespace SW
open PySem L2

/-! a story told, and bent -/
def stps (w : Wb) (ds : List Nat) (es : List End) : List St := (ds.zip es).map fun p => (p.1, (p.2.2, rowL w p.2.1))
theorem stps_app {w : Wb} {ds : List Nat} {es : List End} {x : Nat} {e : End} (h : ds.length = es.length) : stps w (ds ++ [x]) (es ++ [e]) = stps w ds es ++ [(x, (e.2, rowL w e.1))] := by
  unfold stps
  rw [List.zip_append h, List.map_append]; rfl
theorem stps_len {w : Wb} {ds : List Nat} {es : List End} : (stps w ds es).length ≤ ds.length := by
  unfold stps
  rw [List.length_map, List.length_zip]; omega
def SyI (S0 : Sto) (w : Wb) (r0 k : Nat) (d : D) (ds : List Nat) (i : Nat) (τ : Tau) (S : Sto) : Prop := ∃ (ss : List St) (es : List End) (o5 o6 : Option D), τ = [some (wD w), some (nD (lastR r0 es)), some d, some (.loc S0.length), some (nD k), o5, o6]
  ∧ spots w r0 (ds.take i) = some es ∧ ss = stps w (ds.take i) es ∧ S[S0.length]? = some (.lst (ss.map sT)) ∧ S.length = S0.length + 1 ∧ ∀ m, m < S0.length → S[m]? = S0[m]?
theorem spots_nx {w : Wb} {r i x : Nat} {ds : List Nat} {es es1 : List End} (hs : spots w r ds = some es) (hs1 : spots w r (ds.take i) = some es1) (hx : ds[i]? = some x) : ∃ e, aT w (lastR r es1) x = some e ∧ spots w r (ds.take (i + 1)) = some (es1 ++ [e]) := by
  have hd1 : ds = ds.take i ++ x :: ds.drop (i + 1) := by
    obtain ⟨hi, rfl⟩ := List.getElem?_eq_some_iff.mp hx
    rw [← List.drop_eq_getElem_cons hi, List.take_append_drop]
  rw [hd1, spots_split, hs1] at hs
  simp only [Option.bind_some, spots] at hs
  obtain ⟨_, h2, _⟩ := Option.map_eq_some_iff.mp hs
  obtain ⟨e, h3, _⟩ := Option.bind_eq_some_iff.mp h2
  refine ⟨e, h3, ?_⟩
  rw [List.take_succ, hx]
  exact spots_app _ _ _ _ _ hs1 h3
theorem story_ok {S : Sto} {w : Wb} {r m : Nat} {ds : List Nat} {es : List End} {Q : D → Sto → Prop} (C : Cw w m) (hr : r < w.length) (hs : spots w r ds = some es) (hl : ds.length ≤ 900)
    (q : ∀ S' : Sto, S.length ≤ S'.length → (∀ m, m < S.length → S'[m]? = S[m]?) → Q (stoD (rowL w r) (stps w ds es)) S') : Wp (g_l_story [wD w, nD r, .tup (ds.map nD)] S) Q := by
  unfold g_l_story
  refine (wp_fnD (by rfl)).mpr ?_
  unfold b_l_story
  have hrow := row_at hr
  have enr : nD r = D.int (r : Int) := rfl
  (simp! only [enr, wq_row hrow, len_row])
  have ekk : D.int ((rowD w r).length : Int) = nD (rowL w r) := by rw [rowL_of hrow]; rfl
  rw [ekk, ← enr]
  refine lo_fixed _ (SyI S w r (rowL w r) (.tup (ds.map nD)) ds) ⟨[], [], _, _, rfl, rfl, rfl, sto_new, by simp, fun m hm => sto_app hm⟩ ?_ ?_
  · rintro i d τ S1 hd ⟨ss, es1, o5, o6, rfl, hs1, hsl, h1, l1, f1⟩
    rw [List.getElem?_map] at hd
    obtain ⟨x, hx, rfl⟩ := Option.map_eq_some_iff.mp hd
    refine ⟨_, pb_nm, ?_⟩
    obtain ⟨e, he, hs2⟩ := spots_nx hs hs1 hx
    have hi := (List.getElem?_eq_some_iff.mp hx).1
    have hrl := spots_lt C.closed _ r es1 hr hs1
    have hrow1 := row_at hrl
    have hel := C.closed _ _ _ _ he
    have hrow2 := row_at hel
    have hel1 := spots_len _ _ _ hs1
    rw [List.length_take] at hel1
    have hsll : ss.length ≤ 900 := by rw [hsl]; have := stps_len (w := w) (ds := ds.take i) (es := es1); rw [List.length_take] at this; omega
    have en1 : nD (lastR r es1) = D.int (lastR r es1 : Int) := rfl
    have exx : nD x = D.int (x : Int) := rfl
    (simp! only [en1, exx, wq_row hrow1, wq_door (rowD_at.mpr he), eD, isLst_loc h1, wq_row hrow2, len_row, wq_append h1, List.length_map])
    refine ⟨by omega, ss ++ [(x, (e.2, (rowD w e.1).length))], es1 ++ [e], some (.int (x : Int)), some (.int (e.2 : Int)), ?_, hs2, ?_, ?_, by rw [List.length_set]; exact l1, fun m hm => by rw [sto_ne (by omega)]; exact f1 m hm⟩
    · rw [lastR_app]
      rfl
    · rw [List.take_add_one, hx, hsl]
      have := stps_app (w := w) (ds := ds.take i) (es := es1) (x := x) (e := e) (by rw [List.length_take]; omega)
      rw [rowL_of hrow2] at this
      exact this.symm
    · rw [sto_set h1, List.map_append]; rfl
  · rintro τ S1 ⟨ss, es1, o5, o6, rfl, hs1, hsl, h1, l1, f1⟩
    rw [List.length_map, List.take_length] at hs1 hsl
    rw [hs] at hs1; cases hs1
    subst hsl
    (simp! only [wq_tupleL h1])
    exact q S1 (by omega) f1
end SW
namespace SW
open PySem L2

end SW
namespace SW
open PySem L2

end SW
namespace SW
open PySem L2
end SW
namespace SW
open PySem L2

end SW
namespace SW
open PySem L2

theorem Hw.sb {S : Sto} {L many r : Nat} {hs : Wb} {Q : D → Sto → Prop} (H : Hw S L many hs) (hr : r < many) : Wp (sbD (.loc (L + many)) (.int (r : Int)) S) Q ↔ Q (.loc (L + r)) S := by
  have at1 : atI ((List.range many).map fun i => D.loc (L + i)) (r : Int) = some (.loc (L + r)) := atI_of (by rw [List.getElem?_map, List.getElem?_range hr]; rfl)
  rw [wq_sbL H.top, at1]; simp
end SW
namespace SW
open PySem L2

end SW
namespace SW
open PySem L2

end SW
namespace SW
open PySem L2
end SW
namespace SW
open PySem L2

section
variable {w : Wb} {K k : Nat}
end
section
variable {w : Wb} {K k a : Nat}
end
end SW
namespace SW
open PySem L2

end SW
namespace SW
open PySem L2

end SW
namespace SW
open PySem L2

end SW
namespace SW
open PySem L2
end SW
namespace SW
open PySem L2

end SW
namespace SW
open PySem L2

structure Plain (W : Wk) (w : Wb) (r h : Nat) : Prop where
  ww : W.w = w
  rr : W.r = r
  hand : W.hand = h
  ly : W.ly = List.replicate w.length 0
theorem Plain.like {W W' : Wk} {w : Wb} {r h : Nat} (P : Plain W w r h) (lk : W.Like W') (er : W'.r = W.r) : Plain W' w r h := ⟨lk.w.trans P.ww, er.trans P.rr, lk.hand.trans P.hand, lk.ly.trans P.ly⟩
end SW
namespace SW
open PySem L2

/-! whereabouts in rings and lines -/
theorem Fr.v {S0 S S' : Sto} {b n l : Nat} (f : Fr S0 S b) (g : FrV S S' n l) (hn : S0.length ≤ n) (hl : S0.length ≤ l) : Fr S0 S' b :=
  ⟨Nat.le_trans f.len g.len, fun m hm hmb => (g.at_ m (by have := f.len; omega) (by omega) (by omega)).trans (f.at_ m hm hmb)⟩
theorem Fr.keep {S0 S S' : Sto} {b : Nat} (f : Fr S0 S b) (l : S.length ≤ S'.length) (g : ∀ m, m < S.length → S'[m]? = S[m]?) : Fr S0 S' b :=
  ⟨Nat.le_trans f.len l, fun m hm hmb => (g m (by have := f.len; omega)).trans (f.at_ m hm hmb)⟩
theorem sum_rep (n : Nat) : (List.replicate n 0).sum = 0 := by
  induction n with
  | zero => rfl
  | succ n ih => rw [List.replicate_succ, List.sum_cons, ih]
theorem Plain.sum {V : Wk} {w : Wb} {r h : Nat} (P : Plain V w r h) : V.ly.sum = 0 := by rw [P.ly, sum_rep]
theorem Plain.onl {V : Wk} {w : Wb} {r h : Nat} (P : Plain V w r h) : V.onl = .tup [nD r, .tup []] := by
  unfold Wk.onl
  have h1 := expL_len V.ly V.ly.length (Nat.le_refl _)
  rw [List.take_length, P.sum] at h1
  rw [List.length_eq_zero_iff.mp h1, P.rr]; rfl
end SW
namespace SW
open PySem L2

end SW
namespace SW
open PySem L2

structure RR (S0 S : Sto) (b z n l p : Nat) (w : Wb) (r h : Nat) (V : Wk) : Prop where
  hb : Bx S b z
  wk : WkAt S n l V
  pl : Plain V w r h
  hp : S[p]? = some (.lst ((kinL w r).map nD))
  F : Fr S0 S b
  ord : b < S0.length ∧ p < S0.length ∧ S0.length ≤ n ∧ S0.length ≤ l
  pb : p ≠ b
theorem RR.keep {S0 S S' : Sto} {b z n l p r h : Nat} {w : Wb} {V : Wk} (R : RR S0 S b z n l p w r h V) (hl : S.length ≤ S'.length) (f : ∀ m, m < S.length → S'[m]? = S[m]?) : RR S0 S' b z n l p w r h V :=
  ⟨R.hb.of (f b R.hb.lt), R.wk.of (f _ (sto_lt R.wk.ob)) (f _ (sto_lt R.wk.ls)), R.pl, (f p (sto_lt R.hp)).trans R.hp, R.F.keep hl f, R.ord, R.pb⟩
theorem RR.go {S0 S S' : Sto} {b z n l p r h : Nat} {w : Wb} {V V' : Wk} (R : RR S0 S b z n l p w r h V) (w' : WkAt S' n l V') (lk : V.Like V') (er : V'.r = V.r) (f : FrV S S' n l) : RR S0 S' b z n l p w r h V' := by
  obtain ⟨a1, a2, a3, a4⟩ := R.ord
  exact ⟨R.hb.of (f.at_ b R.hb.lt (by omega) (by omega)), w', R.pl.like lk er, (f.at_ p (sto_lt R.hp) (by omega) (by omega)).trans R.hp, R.F.v f a3 a4, R.ord, R.pb⟩
end SW
namespace SW
open PySem L2

end SW
namespace SW
open PySem L2

end SW
namespace SW
open PySem L2
def b_l_pairs : EvS := (seqS (stS 2 (aE lstD nilA))
  (seqS (forS (rgI1 (aE lenD (consA (vE 0) nilA))) (.nm 3) (seqS (stS 4 (aE g_l_gone (consA (vE 0) (consA (vE 3) (consA (lcE (sqI (b2E sbD (vE 1) (cE (.int 1)))) (.nm 5) yesT (b2E sbD (vE 5) (cE (.int 0))) [5]) nilA)))))
  (ifS (andT (tB (b2E isNotD (vE 4) (cE .non))) (tB (b2E eqD (aE lenD (consA (b2E sbD (vE 0) (vE 3)) nilA)) (b2E sbD (vE 1) (cE (.int 0)))))) (ifS (tB (b2E eqD (lcE (sqI (slE (vE 4) (someO (cE (.int 1))) noO)) (.tp [(.nm 6), (.nm 7)]) yesT (aE tupD (consA (vE 7) (consA (aE lenD (consA (b2E sbD (vE 0) (vE 6)) nilA)) nilA))) [6, 7]) (lcE (sqI (b2E sbD (vE 1) (cE (.int 1)))) (.nm 5) yesT (slE (vE 5) (someO (cE (.int 1))) noO) [5]))) (exS (mE appendM (vE 2) (consA (aE tupD (consA (vE 3) (consA (b2E sbD (b2E sbD (vE 4) (u1E negD (cE (.int 1)))) (cE (.int 0))) nilA))) nilA))) nxS) nxS)))
  (rtS (vE 2))))
def g_l_pairs : Fn := fnD 2 8 b_l_pairs
def b_l_leads_home : EvS := (seqS (forS (sqI (aE g_l_pairs (consA (vE 0) (consA (vE 1) nilA)))) (.tp [(.nm 3), (.nm 4)]) (seqS (stS 5 (aE g_l_gone (consA (vE 0) (consA (vE 4) (consA (vE 2) nilA)))))
  (ifS (orT' (tB (b2E isD (vE 5) (cE .non))) (tB (b2E neD (b2E sbD (b2E sbD (vE 5) (u1E negD (cE (.int 1)))) (cE (.int 0))) (vE 3)))) (rtS (cE (.bl false))) nxS)))
  (rtS (cE (.bl true))))
def g_l_leads_home : Fn := fnD 3 6 b_l_leads_home
end SW
namespace SW
open PySem L2

/-! a search over things of any kind, kept in a dict with nested keys -/
section
variable {σ : Type}
def kvG (key : σ → NestedKey) (f : List Nat → D) (ws : List (σ × List Nat)) : List (NestedKey × D) := ws.map fun x => (key x.1, f x.2)
def rmG (enc : σ → D) (ws : List (σ × List Nat)) : List D := ws.map fun x => enc x.1
variable {key : σ → NestedKey} {enc : σ → D} {f : List Nat → D}
structure LvG (S0 S : Sto) (st : σ → Nat → Option σ) (s0 : σ) (key : σ → NestedKey) (P : σ → Prop) (dl : Nat) (ws : List (σ × List Nat)) (a door : Nat) : Prop where
  dict : S[dl]? = some (.dN (kvG key wF ws))
  bfs : Bfs st s0 ws a door
  ok : ∀ x ∈ ws, P x.1
  len : S0.length ≤ S.length
  fr : ∀ n, n < S0.length → S[n]? = S0[n]?
structure LgI (S0 S : Sto) (st : σ → Nat → Option σ) (s0 : σ) (key : σ → NestedKey) (enc : σ → D) (P : σ → Prop) (dl l g : Nat) (ws0 more : List (σ × List Nat)) (a i door : Nat) : Prop where
  at_ : LvG S0 S st s0 key P dl (ws0 ++ more) (a + i) door
  last : S[l]? = some (.lst (rmG enc (ws0.drop a)))
  next : S[g]? = some (.lst (rmG enc more))
  gl : g ≠ l
  dg : S0.length ≤ dl
  gg : S0.length ≤ g
variable {S0 S : Sto} {st : σ → Nat → Option σ} {s0 : σ} {P : σ → Prop} {dl l g a i door : Nat} {ws0 more : List (σ × List Nat)}
theorem LgI.spot (h : LgI S0 S st s0 key enc P dl l g ws0 more a i door) {x : σ × List Nat} (hx : (ws0.drop a)[i]? = some x) : (ws0 ++ more)[a + i]? = some x := by
  rw [List.getElem?_drop] at hx
  rw [List.getElem?_append_left (List.getElem?_eq_some_iff.mp hx).1]
  exact hx
theorem LgI.old (h : LgI S0 S st s0 key enc P dl l g ws0 more a i door) {u : σ} {q : List Nat} (hx : (ws0.drop a)[i]? = some (u, q)) {v : σ} (hv : st u door = some v) (ho : ∃ (i : Nat) (p : List Nat), (ws0 ++ more)[i]? = some (v, p)) : LgI S0 S st s0 key enc P dl l g ws0 more a i (door + 1) :=
  ⟨⟨h.at_.dict, h.at_.bfs.old (h.spot hx) fun v' hv' => by rw [hv] at hv'; cases hv'; exact ho, h.at_.ok, h.at_.len, h.at_.fr⟩, h.last, h.next, h.gl, h.dg, h.gg⟩
theorem LgI.new (h : LgI S0 S st s0 key enc P dl l g ws0 more a i door) {u : σ} {q : List Nat} (hx : (ws0.drop a)[i]? = some (u, q)) {v : σ} (hv : st u door = some v) (hP : P v) (hn : ∀ (i : Nat) (p : List Nat), (ws0 ++ more)[i]? ≠ some (v, p)) :
    LgI S0 ((S.set dl (.dN (kvG key wF (ws0 ++ more ++ [(v, q ++ [door])])))).set g (.lst (rmG enc more ++ [enc v]))) st s0 key enc P dl l g ws0 (more ++ [(v, q ++ [door])]) a i (door + 1) := by
  have hd := h.at_.dict
  have hl := h.last
  have hg := h.next
  have n1 : dl ≠ g := fun z => by subst z; rw [hd] at hg; cases hg
  have n2 : dl ≠ l := fun z => by subst z; rw [hd] at hl; cases hl
  have n3 := h.gl
  have b := h.at_.bfs.new (h.spot hx) hv hn
  rw [List.append_assoc] at b
  refine ⟨⟨?_, b, ?_, ?_, ?_⟩, ?_, ?_, n3, h.dg, h.gg⟩
  · rw [sto_ne (Ne.symm n1), sto_set hd, List.append_assoc]
  · intro x hx
    rw [← List.append_assoc] at hx
    rcases List.mem_append.mp hx with hx | hx
    · exact h.at_.ok x hx
    · simp at hx; subst hx; exact hP
  · simpa using h.at_.len
  · intro n hn
    rw [sto_ne (by have := h.gg; omega), sto_ne (by have := h.dg; omega)]
    exact h.at_.fr n hn
  · rw [sto_ne n3, sto_ne n2]; exact hl
  · rw [sto_set (p := .lst (rmG enc more)) (by rw [sto_ne n1]; exact hg)]
    unfold rmG
    rw [List.map_append]; rfl
/-- a thing that a way leads to stands there, or the search isn't at its end -/
theorem LvG.left {ws : List (σ × List Nat)} (h : LvG S0 S st s0 key P dl ws a 0) {p : List Nat} {v : σ} (hr : runS st s0 p = some v) : (∃ (i : Nat) (q : List Nat), ws[i]? = some (v, q)) ∨ a < ws.length := by
  rcases h.bfs.reach p.length p v rfl hr with ⟨i, q, e, _⟩ | ⟨j, x, q', q1, h1, h2, _, _⟩
  · exact .inl ⟨i, q, e⟩
  · exact .inr (by have := (List.getElem?_eq_some_iff.mp h2).1; omega)
end
end SW
namespace SW
open PySem L2

end SW
namespace SW
open PySem L2

theorem LvG.keep {σ : Type} {S0 S S' : Sto} {st : σ → Nat → Option σ} {s0 : σ} {key : σ → NestedKey} {P : σ → Prop} {dl a door : Nat} {ws : List (σ × List Nat)} (h : LvG S0 S st s0 key P dl ws a door) (l : S.length ≤ S'.length) (f : ∀ m, m < S.length → S'[m]? = S[m]?) : LvG S0 S' st s0 key P dl ws a door :=
  ⟨(f _ (sto_lt h.dict)).trans h.dict, h.bfs, h.ok, Nat.le_trans h.len l, fun n hn => (f n (by have := h.len; omega)).trans (h.fr n hn)⟩
theorem LgI.keep {σ : Type} {S0 S S' : Sto} {st : σ → Nat → Option σ} {s0 : σ} {key : σ → NestedKey} {enc : σ → D} {P : σ → Prop} {dl l g a i door : Nat} {ws0 more : List (σ × List Nat)} (h : LgI S0 S st s0 key enc P dl l g ws0 more a i door) (hl : S.length ≤ S'.length) (f : ∀ m, m < S.length → S'[m]? = S[m]?) : LgI S0 S' st s0 key enc P dl l g ws0 more a i door :=
  ⟨h.at_.keep hl f, (f _ (sto_lt h.last)).trans h.last, (f _ (sto_lt h.next)).trans h.next, h.gl, h.dg, h.gg⟩
end SW
namespace SW
open PySem L2

end SW
namespace SW
open PySem L2

end SW
namespace SW
open PySem L2

section
variable {S : Sto} {w : Wb} {n r : Nat} {ss : List St} {es : List End} {Q : D → Sto → Prop}
end
end SW
namespace SW
open PySem L2

end SW
namespace SW
open PySem L2

end SW
namespace SW
open PySem L2

end SW
namespace SW
open PySem L2

end SW
namespace SW
open PySem L2

def TA : EvE := (aE anyD (consA (lcE (sqI (vE 9)) (.nm 13) yesT (aE g_l_leads_home (consA (vE 4) (consA (vE 7) (consA (vE 13) nilA)))) [13]) nilA))
end SW
namespace SW
open PySem L2
end SW
namespace SW
open PySem L2

end SW
namespace SW
open PySem L2

def endR (w : Wb) (x d : Nat) : End := ((rowD w x)[d]?).getD (0, 0)
theorem endR_of {w : Wb} {x d : Nat} {e : End} (h : (rowD w x)[d]? = some e) : endR w x d = e := by unfold endR; rw [h]; rfl
end SW
namespace SW
open PySem L2

end SW
namespace SW
open PySem L2

end SW
namespace SW
open PySem L2

end SW
namespace SW
open PySem L2

end SW
namespace SW
open PySem L2

end SW
namespace SW
open PySem L2

end SW
namespace SW
open PySem L2

end SW
namespace SW
open PySem L2

end SW
namespace SW
open PySem L2

end SW
namespace SW
open PySem L2

end SW
namespace SW
open PySem L2

end SW
namespace SW
open PySem L2

end SW
namespace SW
open PySem L2
end SW
namespace SW
open PySem L2
end SW
namespace SW
open PySem L2

/-! maps with a stone: what is known of a web, by rooms and by ties gone through -/
theorem endR_at {w : Wb} {x d : Nat} (hd : d < (rowD w x).length) : (rowD w x)[d]? = some (endR w x d) := by
  unfold endR
  rw [List.getElem?_eq_getElem hd]; rfl
theorem endR_back {w : Wb} {x d : Nat} (W : IsWeb w) (hd : d < (rowD w x).length) : (endR w x d).1 < w.length ∧ (endR w x d).2 < (rowD w (endR w x d).1).length ∧ endR w (endR w x d).1 (endR w x d).2 = (x, d) := by
  have h := endR_at hd
  have b := W.back _ _ _ _ (rowD_at.mp h)
  have h2 := rowD_at.mpr b
  exact ⟨W.back.closed _ _ _ _ (rowD_at.mp h), (List.getElem?_eq_some_iff.mp h2).1, endR_of h2⟩
def isKn (w : Wb) (T : List End) (x d : Nat) : Bool := decide ((x, d) ∈ T ∨ endR w x d ∈ T)
theorem isKn_iff {w : Wb} {T : List End} {x d : Nat} : isKn w T x d = true ↔ (x, d) ∈ T ∨ endR w x d ∈ T := by
  unfold isKn
  rw [decide_eq_true_eq]
theorem isKn_back {w : Wb} {T : List End} {x d : Nat} (W : IsWeb w) (hd : d < (rowD w x).length) : isKn w T (endR w x d).1 (endR w x d).2 = isKn w T x d := by
  rw [Bool.eq_iff_iff, isKn_iff, isKn_iff, (endR_back W hd).2.2]
  exact Or.comm
theorem isKn_add {w : Wb} {T : List End} {x d y c : Nat} : isKn w (T ++ [(x, d)]) y c = true ↔ isKn w T y c = true ∨ (y, c) = (x, d) ∨ endR w y c = (x, d) := by
  rw [isKn_iff, isKn_iff, List.mem_append, List.mem_append, List.mem_singleton, List.mem_singleton]
  constructor
  · rintro ((h | h) | (h | h))
    · exact .inl (.inl h)
    · exact .inr (.inl h)
    · exact .inl (.inr h)
    · exact .inr (.inr h)
  · rintro ((h | h) | h | h)
    · exact .inl (.inl h)
    · exact .inr (.inl h)
    · exact .inl (.inr h)
    · exact .inr (.inr h)
structure Kst (w : Wb) (a : Nat) (L : List Nat) (T : List End) : Prop where
  hd : L[0]? = some a
  lt : ∀ x ∈ L, x < w.length
  nd : L.Nodup
  vt : ∀ t ∈ T, t.1 ∈ L ∧ t.2 < (rowD w t.1).length ∧ (endR w t.1 t.2).1 ∈ L
  tn : T.Nodup
  cn : ∀ x ∈ L, ∀ P : Nat → Prop, (∀ t ∈ T, P t.1 ↔ P (endR w t.1 t.2).1) → (P a ↔ P x)
  od : met w w.length 0 L = metL w a
theorem Kst.init {w : Wb} {a : Nat} (ha : a < w.length) : Kst w a [a] [] := ⟨rfl, by simpa using ha, by simp, by simp, by simp, fun x hx P _ => by rw [List.mem_singleton.mp hx], rfl⟩
section
variable {w : Wb} {a : Nat} {L : List Nat} {T : List End}
theorem Kst.few (k : Kst w a L T) : L.length ≤ w.length := nodup_le k.nd k.lt
theorem Kst.known (k : Kst w a L T) (W : IsWeb w) {x d : Nat} (hd : d < (rowD w x).length) (h : isKn w T x d = true) : x ∈ L ∧ (endR w x d).1 ∈ L := by
  rcases isKn_iff.mp h with h | h
  · exact ⟨(k.vt _ h).1, (k.vt _ h).2.2⟩
  · have := k.vt _ h
    rw [(endR_back W hd).2.2] at this
    exact ⟨this.2.2, this.1⟩
/-- from any room known to any other one -/
theorem Kst.conn (k : Kst w a L T) {x y : Nat} (hx : x ∈ L) (hy : y ∈ L) {P : Nat → Prop} (hP : ∀ t ∈ T, P t.1 ↔ P (endR w t.1 t.2).1) (h : P x) : P y := (k.cn y hy P hP).mp ((k.cn x hx P hP).mpr h)
end
theorem metRow_all : ∀ {row : List End} {xs : List Nat}, (∀ e ∈ row, e.1 ∈ xs) → metRow xs row = xs
  | [], _, _ => rfl
  | e :: row, xs, h => by
    show metRow (metStep xs e) row = xs
    unfold metStep
    rw [if_pos (h e (by simp))]
    exact metRow_all fun e' he => h e' (by simp [he])
/-- rooms whose ends all lead to rooms met: nothing is met on the way -/
theorem met_rows {w : Wb} : ∀ (i k n : Nat) (xs : List Nat), (∀ j, k ≤ j → j < k + i → ∃ x, xs[j]? = some x ∧ ∀ e ∈ rowD w x, e.1 ∈ xs) → met w (n + i) k xs = met w n (k + i) xs
  | 0, k, n, xs, _ => rfl
  | i + 1, k, n, xs, h => by
    obtain ⟨x, hx, he⟩ := h k (Nat.le_refl _) (by omega)
    have e1 : met w (n + (i + 1)) k xs = met w (n + i) (k + 1) (metRow xs (rowD w x)) := by
      show met w ((n + i) + 1) k xs = _
      simp only [met, hx]; rfl
    rw [e1, metRow_all he, met_rows i (k + 1) n xs fun j h1 h2 => h j (by omega) (by omega)]
    congr 1
    omega
/-- all ends known: all rooms are met, in their order -/
theorem met_full {w : Wb} {L : List Nat} (hl : L.length ≤ w.length) (h : ∀ x ∈ L, ∀ e ∈ rowD w x, e.1 ∈ L) : met w w.length 0 L = L := by
  obtain ⟨n, hn⟩ : ∃ n, w.length = n + L.length := ⟨w.length - L.length, by omega⟩
  rw [hn, met_rows L.length 0 n L fun j _ hj => ⟨L[j], List.getElem?_eq_getElem (by omega), fun e he => h _ (List.getElem_mem _) e he⟩]
  exact met_done (by omega)
end SW
namespace SW
open PySem L2

/-! a known web in the store; ways by known ties -/
def kEnd (w : Wb) (L : List Nat) (T : List End) (x d : Nat) : D := if isKn w T x d = true then eD (L.idxOf (endR w x d).1, (endR w x d).2) else .non
def kRow (w : Wb) (L : List Nat) (T : List End) (x : Nat) : List D := (List.range (rowD w x).length).map (kEnd w L T x)
theorem kRow_len {w : Wb} {L : List Nat} {T : List End} {x : Nat} : (kRow w L T x).length = (rowD w x).length := by simp [kRow]
theorem kRow_at {w : Wb} {L : List Nat} {T : List End} {x d : Nat} (hd : d < (rowD w x).length) : (kRow w L T x)[d]? = some (kEnd w L T x d) := by
  unfold kRow
  rw [List.getElem?_map, List.getElem?_range hd]; rfl
def Kw.fs (n le s : Nat) : List (Str × D) := [("walker", .loc n), ("ends", .loc le), ("spot", nD s)]
structure KwAt (S : Sto) (g n l le : Nat) (ps : List Nat) (W : Wk) (L : List Nat) (T : List End) (s : Nat) : Prop where
  ob : S[g]? = some (.ins "KnownWeb" (Kw.fs n le s))
  wk : WkAt S n l W
  en : S[le]? = some (.lst (ps.map D.loc))
  pl : ps.length = L.length
  rw : ∀ i p x : Nat, ps[i]? = some p → L[i]? = some x → S[p]? = some (.lst (kRow W.w L T x))
  pn : ps.Nodup
  od : n < g ∧ l < g ∧ g < le ∧ ∀ p ∈ ps, g < p ∧ p ≠ le
  sl : s < L.length
section
variable {S : Sto} {g n l le s : Nat} {ps : List Nat} {W : Wk} {L : List Nat} {T : List End} {Q : D → Sto → Prop}
theorem KwAt.plt (h : KwAt S g n l le ps W L T s) {p : Nat} (hp : p ∈ ps) : p < S.length := by
  obtain ⟨i, hi⟩ := List.getElem?_of_mem hp
  have hl : i < L.length := by rw [← h.pl]; exact (List.getElem?_eq_some_iff.mp hi).1
  exact sto_lt (h.rw i p _ hi (List.getElem?_eq_getElem hl))
theorem KwAt.of {S' : Sto} (h : KwAt S g n l le ps W L T s) (f : ∀ m, m < S.length → S'[m]? = S[m]?) : KwAt S' g n l le ps W L T s :=
  ⟨(f _ (sto_lt h.ob)).trans h.ob, h.wk.of (f _ (sto_lt h.wk.ob)) (f _ (sto_lt h.wk.ls)), (f _ (sto_lt h.en)).trans h.en, h.pl, fun i p x e1 e2 => (f _ (h.plt (List.mem_of_getElem? e1))).trans (h.rw i p x e1 e2), h.pn, h.od, h.sl⟩
/-- the walker did something -/
theorem KwAt.go {S' : Sto} {W' : Wk} (h : KwAt S g n l le ps W L T s) (h' : WkAt S' n l W') (e : W'.w = W.w) (f : FrV S S' n l) : KwAt S' g n l le ps W' L T s := by
  obtain ⟨o1, o2, o3, o4⟩ := h.od
  refine ⟨(f.at_ _ (sto_lt h.ob) (by omega) (by omega)).trans h.ob, h', (f.at_ _ (sto_lt h.en) (by omega) (by omega)).trans h.en, h.pl, fun i p x e1 e2 => ?_, h.pn, h.od, h.sl⟩
  have := o4 p (List.mem_of_getElem? e1)
  rw [e]
  exact (f.at_ _ (h.plt (List.mem_of_getElem? e1)) (by omega) (by omega)).trans (h.rw i p x e1 e2)
theorem KwAt.room (h : KwAt S g n l le ps W L T s) {i x : Nat} (hx : L[i]? = some x) : ∃ p, ps[i]? = some p ∧ S[p]? = some (.lst (kRow W.w L T x)) := by
  have hi : i < ps.length := by rw [h.pl]; exact (List.getElem?_eq_some_iff.mp hx).1
  exact ⟨ps[i], List.getElem?_eq_getElem hi, h.rw i _ x (List.getElem?_eq_getElem hi) hx⟩
end
section
variable {w : Wb} {a : Nat} {L : List Nat} {T : List End}
theorem getD_of {L : List Nat} {i x : Nat} (h : L[i]? = some x) : L.getD i 0 = x := by rw [List.getD_eq_getElem?_getD, h]; rfl
theorem idx_get {L : List Nat} {x : Nat} (h : x ∈ L) : L[L.idxOf x]? = some x := by
  have h1 := List.idxOf_lt_length_iff.mpr h
  rw [List.getElem?_eq_getElem h1, List.getElem_idxOf h1]
/-- ways found so far -/
structure WbP (w : Wb) (L : List Nat) (T : List End) (s a : Nat) (ws : Wys) : Prop where
  nd : ∀ (i j : Nat) (x y : Nat × List Nat), i < j → ws[i]? = some x → ws[j]? = some y → x.1 ≠ y.1
  hd : ws[0]? = some (s, [])
  ok : ∀ (i j : Nat) (p : List Nat), ws[i]? = some (j, p) → p.length ≤ i ∧ j < L.length ∧ ∃ es, spots w (L.getD s 0) p = some es ∧ lastR (L.getD s 0) es = L.getD j 0
  cl : ∀ (k j : Nat) (p : List Nat), k < a → ws[k]? = some (j, p) → ∀ d, d < (rowD w (L.getD j 0)).length → isKn w T (L.getD j 0) d = true → ∃ (i : Nat) (q : List Nat), ws[i]? = some (L.idxOf (endR w (L.getD j 0) d).1, q)
theorem WbP.few {s a : Nat} {ws : Wys} (h : WbP w L T s a ws) : ws.length ≤ L.length := by
  have := nodup_le (n := L.length) (xs := ws.map (·.1)) ?_ ?_
  · simpa using this
  · rw [List.nodup_iff_pairwise_ne, List.pairwise_iff_getElem]
    intro i j hi hj hij
    rw [List.getElem_map, List.getElem_map]
    simp at hi hj
    exact h.nd i j _ _ hij (List.getElem?_eq_getElem hi) (List.getElem?_eq_getElem hj)
  · intro x hx
    obtain ⟨y, hy, rfl⟩ := List.mem_map.mp hx
    obtain ⟨i, hi⟩ := List.getElem?_of_mem hy
    exact (h.ok i y.1 y.2 hi).2.1
theorem WbP.init {s : Nat} (hs : s < L.length) : WbP w L T s 0 [(s, [])] :=
  ⟨fun i j x y h e1 e2 => by have := (List.getElem?_eq_some_iff.mp e2).1; simp at this; omega, rfl, fun i j p e => by
    have := (List.getElem?_eq_some_iff.mp e).1
    simp at this
    subst this
    cases e
    exact ⟨Nat.le_refl _, hs, [], rfl, rfl⟩, fun k j p hk => by omega⟩
/-- all is found where nothing is left to do -/
theorem WbP.full {s : Nat} {ws : Wys} (h : WbP w L T s ws.length ws) (W : IsWeb w) (K : Kst w a L T) {goal : Nat} (hs : s < L.length) (hg : goal < L.length) : ∃ (i : Nat) (p : List Nat), ws[i]? = some (goal, p) := by
  have hgs : ∀ i, i < L.length → L.getD i 0 ∈ L ∧ L.idxOf (L.getD i 0) = i := fun i hi => by
    have e : L[i]? = some L[i] := List.getElem?_eq_getElem hi
    rw [getD_of e]
    exact ⟨List.getElem_mem hi, idx_at K.nd e⟩
  have step : ∀ x d, x ∈ L → d < (rowD w x).length → isKn w T x d = true → (∃ (i : Nat) (q : List Nat), ws[i]? = some (L.idxOf x, q)) → ∃ (i : Nat) (q : List Nat), ws[i]? = some (L.idxOf (endR w x d).1, q) := fun x d hx hd hk ⟨i, q, e⟩ => by
    have ex : L.getD (L.idxOf x) 0 = x := getD_of (idx_get hx)
    have := h.cl i (L.idxOf x) q (List.getElem?_eq_some_iff.mp e).1 e d (by rw [ex]; exact hd) (by rw [ex]; exact hk)
    rw [ex] at this
    exact this
  have := K.conn (hgs s hs).1 (hgs goal hg).1 (P := fun x => ∃ (i : Nat) (q : List Nat), ws[i]? = some (L.idxOf x, q)) (fun t ht => ?_) ⟨0, [], by rw [(hgs s hs).2]; exact h.hd⟩
  · rw [(hgs goal hg).2] at this
    exact this
  · obtain ⟨v1, v2, v3⟩ := K.vt t ht
    have hk : isKn w T t.1 t.2 = true := isKn_iff.mpr (.inl ht)
    obtain ⟨b1, b2, b3⟩ := endR_back W v2
    refine ⟨step _ _ v1 v2 hk, fun z => ?_⟩
    have := step _ _ v3 b2 (by rw [isKn_back W v2]; exact hk) z
    rw [b3] at this
    exact this
end
end SW
namespace SW
open PySem L2

end SW
namespace SW
open PySem L2

/-! the map with a stone: going to a known room, the room with the stone, the first open door -/
structure FrG (S S' : Sto) (g n l : Nat) : Prop where
  len : S.length ≤ S'.length
  at_ : ∀ m, m < S.length → m ≠ g → m ≠ n → m ≠ l → S'[m]? = S[m]?
theorem FrG.refl (S : Sto) (g n l : Nat) : FrG S S g n l := ⟨Nat.le_refl _, fun _ _ _ _ _ => rfl⟩
theorem FrG.trans {S S' S2 : Sto} {g n l : Nat} (a : FrG S S' g n l) (b : FrG S' S2 g n l) : FrG S S2 g n l := ⟨Nat.le_trans a.len b.len, fun m h h1 h2 h3 => (b.at_ m (by have := a.len; omega) h1 h2 h3).trans (a.at_ m h h1 h2 h3)⟩
theorem FrV.g {S S' : Sto} {g n l : Nat} (a : FrV S S' n l) : FrG S S' g n l := ⟨a.len, fun m h _ h2 h3 => a.at_ m h h2 h3⟩
theorem KwAt.spot {S : Sto} {g n l le s s' : Nat} {ps : List Nat} {V : Wk} {L : List Nat} {T : List End} (h : KwAt S g n l le ps V L T s) (hs : s' < L.length) :
    fstD ["KnownWeb"] "spot" (.loc g) (nD s') S = some (S.set g (.ins "KnownWeb" (Kw.fs n le s'))) ∧ KwAt (S.set g (.ins "KnownWeb" (Kw.fs n le s'))) g n l le ps V L T s' := by
  obtain ⟨o1, o2, o3, o4⟩ := h.od
  refine ⟨fst_at h.ob (by simp) (by simp [Kw.fs]), sto_set h.ob, h.wk.of (sto_ne (by omega)) (sto_ne (by omega)), by rw [sto_ne (by omega)]; exact h.en, h.pl, fun i p x e1 e2 => ?_, h.pn, h.od, hs⟩
  have := o4 p (List.mem_of_getElem? e1)
  rw [sto_ne (by omega)]
  exact h.rw i p x e1 e2
end SW
namespace SW
open PySem L2

/-! the map with a stone: a tie more -/
section
variable {w : Wb} {a : Nat} {L : List Nat} {T : List End} {i j x d : Nat}
theorem endR_iff (W : IsWeb w) (hd : d < (rowD w x).length) {z t : Nat} (ht : t < (rowD w z).length) : endR w z t = (x, d) ↔ (z, t) = endR w x d := by
  constructor
  · intro h
    have := (endR_back W ht).2.2
    rw [h] at this
    exact this.symm
  · intro h
    have := (endR_back W hd).2.2
    rw [← h] at this
    exact this
def tied (y c : Nat) (e : End) (R : List D) (z : Nat) : List D := if z = y then R.set c (eD e) else R
theorem tied_len {y c : Nat} {e : End} {R : List D} {z : Nat} : (tied y c e R z).length = R.length := by
  unfold tied; split <;> simp
theorem tied_at {y c : Nat} {e : End} {R : List D} {z t : Nat} (ht : t < R.length) : (tied y c e R z)[t]? = if (z, t) = (y, c) then some (eD e) else R[t]? := by
  unfold tied
  by_cases hz : z = y
  · rw [if_pos hz, List.getElem?_set]
    by_cases hc : c = t
    · rw [if_pos hc, if_pos (by omega), if_pos (by rw [hz, hc])]
    · rw [if_neg hc, if_neg (fun h => hc (by injection h with _ h; exact h.symm))]
  · rw [if_neg hz, if_neg (fun h => hz (by injection h))]
theorem kRow_add (W : IsWeb w) (hn : L.Nodup) (hx : L[i]? = some x) (hd : d < (rowD w x).length) (hj : L[j]? = some (endR w x d).1) (z : Nat) :
    kRow w L (T ++ [(x, d)]) z = tied (endR w x d).1 (endR w x d).2 (i, d) (tied x d (j, (endR w x d).2) (kRow w L T z) z) z := by
  obtain ⟨b1, b2, b3⟩ := endR_back W hd
  apply List.ext_getElem?
  intro t
  by_cases ht : t < (rowD w z).length
  · rw [kRow_at ht, tied_at (by rw [tied_len, kRow_len]; exact ht), tied_at (by rw [kRow_len]; exact ht), kRow_at ht]
    have ka := isKn_add (w := w) (T := T) (x := x) (d := d) (y := z) (c := t)
    rw [endR_iff W hd ht] at ka
    have ee : ((endR w x d).1, (endR w x d).2) = endR w x d := rfl
    rw [ee]
    unfold kEnd
    by_cases h1 : (z, t) = endR w x d
    · rw [if_pos h1, if_pos (ka.mpr (.inr (.inr h1)))]
      have e2 := (endR_iff W hd ht).mpr h1
      rw [e2, idx_at hn hx]
    · rw [if_neg h1]
      by_cases h2 : (z, t) = (x, d)
      · rw [if_pos h2, if_pos (ka.mpr (.inr (.inl h2)))]
        have e1 : z = x := by injection h2
        have e2 : t = d := by injection h2
        subst e1 e2
        rw [idx_at hn hj]
      · rw [if_neg h2]
        by_cases h3 : isKn w T z t = true
        · rw [if_pos h3, if_pos (ka.mpr (.inl h3))]
        · rw [if_neg h3, if_neg fun z => ?_]
          rcases ka.mp z with z | z | z
          · exact h3 z
          · exact h2 z
          · exact h1 z
  · rw [List.getElem?_eq_none (by rw [kRow_len]; omega), List.getElem?_eq_none (by rw [tied_len, tied_len, kRow_len]; omega)]
end
theorem KwAt.tie {S S' : Sto} {g n l le s i j x d p q : Nat} {ps : List Nat} {V : Wk} {L : List Nat} {T : List End} (h : KwAt S g n l le ps V L T s) (hn : L.Nodup) (hx : L[i]? = some x) (hd : d < (rowD V.w x).length) (hj : L[j]? = some (endR V.w x d).1) (hp : ps[i]? = some p) (hq : ps[j]? = some q)
    (e1 : ∀ m, m ≠ p → m ≠ q → S'[m]? = S[m]?) (e2 : S'[p]? = some (.lst (kRow V.w L (T ++ [(x, d)]) x))) (e3 : S'[q]? = some (.lst (kRow V.w L (T ++ [(x, d)]) (endR V.w x d).1))) : KwAt S' g n l le ps V L (T ++ [(x, d)]) s := by
  obtain ⟨o1, o2, o3, o4⟩ := h.od
  have op := o4 p (List.mem_of_getElem? hp)
  have oq := o4 q (List.mem_of_getElem? hq)
  refine ⟨(e1 _ (by omega) (by omega)).trans h.ob, h.wk.of (e1 _ (by omega) (by omega)) (e1 _ (by omega) (by omega)), (e1 _ (fun z => op.2 z.symm) (fun z => oq.2 z.symm)).trans h.en, h.pl, fun k r z hr hz => ?_, h.pn, h.od, h.sl⟩
  have W := h.wk.web
  by_cases hpr : r = p
  · subst hpr
    have hkl := (List.getElem?_eq_some_iff.mp hr).1
    have : k = i := (List.getElem?_inj hkl h.pn).mp (by rw [hr, hp])
    subst this
    rw [hx] at hz; cases hz
    exact e2
  · by_cases hqr : r = q
    · subst hqr
      have hkl := (List.getElem?_eq_some_iff.mp hr).1
      have : k = j := (List.getElem?_inj hkl h.pn).mp (by rw [hr, hq])
      subst this
      rw [hj] at hz; cases hz
      exact e3
    · rw [e1 r hpr hqr, h.rw k r z hr hz, kRow_add W hn hx hd hj]
      have n1 : z ≠ x := fun e => by
        subst e
        have : k = i := (List.getElem?_inj (List.getElem?_eq_some_iff.mp hz).1 hn).mp (by rw [hz, hx])
        subst this
        rw [hp] at hr; exact hpr (Option.some.inj hr).symm
      have n2 : z ≠ (endR V.w x d).1 := fun e => by
        have : k = j := (List.getElem?_inj (List.getElem?_eq_some_iff.mp hz).1 hn).mp (by rw [hz, hj, e])
        subst this
        rw [hq] at hr; exact hqr (Option.some.inj hr).symm
      unfold tied
      rw [if_neg n1, if_neg n2]
end SW
namespace SW
open PySem L2

structure FrK (S S' : Sto) (g n l : Nat) : Prop where
  len : S.length ≤ S'.length
  at_ : ∀ m, m < g → m ≠ n → m ≠ l → S'[m]? = S[m]?
theorem FrK.refl (S : Sto) (g n l : Nat) : FrK S S g n l := ⟨Nat.le_refl _, fun _ _ _ _ => rfl⟩
theorem FrK.trans {S S' S2 : Sto} {g n l : Nat} (a : FrK S S' g n l) (b : FrK S' S2 g n l) : FrK S S2 g n l := ⟨Nat.le_trans a.len b.len, fun m h h1 h2 => (b.at_ m h h1 h2).trans (a.at_ m h h1 h2)⟩
theorem FrG.k {S S' : Sto} {g n l : Nat} (a : FrG S S' g n l) (hg : g < S.length) : FrK S S' g n l := ⟨a.len, fun m h h2 h3 => a.at_ m (by omega) (by omega) h2 h3⟩
end SW
namespace SW
open PySem L2

theorem Kst.full {w : Wb} {a : Nat} {L : List Nat} {T : List End} (W : IsWeb w) (K : Kst w a L T) (h : ∀ x ∈ L, ∀ d, d < (rowD w x).length → isKn w T x d = true) : L = metL w a := by
  rw [← K.od, met_full K.few fun x hx e he => ?_]
  obtain ⟨t, ht⟩ := List.getElem?_of_mem he
  have htl := (List.getElem?_eq_some_iff.mp ht).1
  have := (K.known W htl (h x hx t htl)).2
  rw [endR_of ht] at this
  exact this
end SW
namespace SW
open PySem L2

/-! what is seen with a stone, and what parts -/
section
variable {w1 w2 : Wb} {a b : Nat}
end
end SW
namespace SW
open PySem L2

end SW
namespace SW
open PySem L2

section
variable {w1 w2 : Wb} {a b : Nat} {p : List Nat} {S : Sto}
end
end SW
namespace SW
open PySem L2
end SW
namespace SW
open PySem L2
end SW
namespace SW
open PySem L2
end SW
namespace SW
open PySem L2
end SW
namespace SW
open PySem L2
end SW
namespace SW
open PySem L2
end SW
namespace SW
open PySem L2
end SW
namespace SW
open PySem L2
end SW
namespace SW
open PySem L2
end SW
namespace SW
open PySem L2
end SW
namespace SW
open PySem L2
end SW
namespace SW
open PySem L2
end SW
namespace SW
open PySem L2
end SW
namespace SW
open PySem L2
end SW
namespace SW
open PySem L2
end SW
namespace SW
open PySem L2
end SW
namespace SW
open PySem L2
def b_l_ties : EvS := (seqS (stS 1 (aE lstD nilA))
  (seqS (forS (enI (vE 0)) (.tp [(.nm 2), (.nm 3)]) (forS (enI (vE 3)) (.tp [(.nm 4), (.nm 5)]) (ifS (tB (b2E leD (aE tupD (consA (vE 2) (consA (vE 4) nilA))) (vE 5))) (exS (mE appendM (vE 1) (consA (aE tupD (consA (aE tupD (consA (vE 2) (consA (vE 4) nilA))) (consA (vE 5) nilA))) nilA))) nxS)))
  (rtS (vE 1))))
def g_l_ties : Fn := fnD 1 6 b_l_ties
def b_l_crossed : EvS := (seqS (ifS (tB (b2E neD (b2E eqD (b2E sbD (vE 1) (cE (.int 0))) (b2E sbD (vE 1) (cE (.int 1)))) (b2E eqD (b2E sbD (vE 2) (cE (.int 0))) (b2E sbD (vE 2) (cE (.int 1)))))) (rtS (cE .non)) nxS)
  (seqS (asS (vE 2) (patG (.tp [(.nm 8), (.nm 9)])))
  (seqS (ifS (tB (b2E eqD (vE 3) (cE (.int 1)))) (parS 8 9 (consA (vE 9) (consA (vE 8) nilA))) nxS)
  (seqS (stS 4 nT)
  (seqS (forS (enI (vE 0)) (.tp [(.nm 10), (.nm 11)]) (forS (enI (vE 11)) (.tp [(.nm 14), (.nm 15)]) (asS (vE 15) (subG (vE 4) (aE tupD (consA (vE 10) (consA (vE 14) nilA)))))))
  (seqS (forS (sqI (aE lstD (consA (aE tupD (consA (b2E sbD (vE 1) (cE (.int 0))) (consA (vE 9) nilA))) (consA (aE tupD (consA (vE 8) (consA (b2E sbD (vE 1) (cE (.int 1))) nilA))) nilA)))) (.tp [(.nm 12), (.nm 13)]) (seqS (asS (vE 13) (subG (vE 4) (vE 12)))
  (asS (vE 12) (subG (vE 4) (vE 13)))))
  (seqS (stS 5 (aE tupleD (consA (lcE (rgI1 (aE lenD (consA (vE 0) nilA))) (.nm 10) yesT (aE tupleD (consA (lcE (rgI1 (aE lenD (consA (b2E sbD (vE 0) (vE 10)) nilA))) (.nm 14) yesT (b2E sbD (vE 4) (aE tupD (consA (vE 10) (consA (vE 14) nilA)))) [14]) nilA)) [10]) nilA)))
  (seqS (stS 6 (aE lstD (consA (cE (.int 0)) nilA)))
  (seqS (stS 7 (cE (.int 0)))
  (seqS (whS (tB (b2E ltD (vE 7) (aE lenD (consA (vE 6) nilA)))) (seqS (forS (sqI (b2E sbD (vE 5) (b2E sbD (vE 6) (vE 7)))) (.tp [(.nm 10), (.nm 14)]) (ifS (tB (b2E notInD (vE 10) (vE 6))) (exS (mE appendM (vE 6) (consA (vE 10) nilA))) nxS))
  (stS 7 (b2E addD (vE 7) (cE (.int 1))))))
  (rtS (iteE (tB (b2E eqD (aE lenD (consA (vE 6) nilA)) (aE lenD (consA (vE 0) nilA)))) (vE 5) (cE .non)))))))))))))
def g_l_crossed : Fn := fnD 4 16 b_l_crossed
def b_leads_back : EvS := (rtS (b2E eqD (b2E sbD (vE 0) (cE (.int 0))) (b2E sbD (vE 0) (cE (.int 1)))))
def g_leads_back : Fn := fnD 1 1 b_leads_back
def b_with_ties : EvS := (seqS (stS 2 (lcE (sqI (vE 0)) (.nm 5) yesT (aE listD (consA (vE 5) nilA)) [5]))
  (seqS (forS (sqI (vE 1)) (.tp [(.nm 3), (.nm 4)]) (seqS (asS (vE 4) (subG (b2E sbD (vE 2) (b2E sbD (vE 3) (cE (.int 0)))) (b2E sbD (vE 3) (cE (.int 1)))))
  (asS (vE 3) (subG (b2E sbD (vE 2) (b2E sbD (vE 4) (cE (.int 0)))) (b2E sbD (vE 4) (cE (.int 1)))))))
  (rtS (aE tupleD (consA (lcE (sqI (vE 2)) (.nm 5) yesT (aE tupleD (consA (vE 5) nilA)) [5]) nilA)))))
def g_with_ties : Fn := fnD 2 6 b_with_ties
def b_web_crossed : EvS := (seqS (ifS (tB (b2E neD (aE g_leads_back (consA (vE 1) nilA)) (aE g_leads_back (consA (vE 2) nilA)))) (rtS (cE .non)) nxS)
  (seqS (stS 4 (aE g_with_ties (consA (vE 0) (consA (aE lstD (consA (aE tupD (consA (b2E sbD (vE 1) (cE (.int 0))) (consA (b2E sbD (vE 2) (b2E subD (cE (.int 1)) (vE 3))) nilA))) (consA (aE tupD (consA (b2E sbD (vE 2) (vE 3)) (consA (b2E sbD (vE 1) (cE (.int 1))) nilA))) nilA))) nilA))))
  (seqS (ifS (tB (aE g_is_web (consA (vE 4) nilA))) (rtS (vE 4)) nxS)
  (rtS (cE .non)))))
def g_web_crossed : Fn := fnD 4 5 b_web_crossed
end SW
namespace SW
open PySem L2
def b_l_all_crossed : EvS := (seqS (stS 1 (aE g_l_ties (consA (vE 0) nilA)))
  (seqS (stS 2 (aE lstD (consA (vE 0) nilA)))
  (seqS (forS (enI (vE 1)) (.tp [(.nm 3), (.nm 4)]) (forS (sqI (slE (vE 1) (someO (b2E addD (vE 3) (cE (.int 1)))) noO)) (.nm 5) (exS (mE extendM (vE 2) (consA (lcE (sqI (aE tupD (consA (cE (.int 0)) (consA (cE (.int 1)) nilA)))) (.nm 7) yesT (aE g_l_crossed (consA (vE 0) (consA (vE 4) (consA (vE 5) (consA (vE 7) nilA))))) [7]) nilA)))))
  (rtS (lcE (sqI (vE 2)) (.nm 6) (tB (b2E isNotD (vE 6) (cE .non))) (vE 6) [6])))))
def g_l_all_crossed : Fn := fnD 1 8 b_l_all_crossed
def b_crossings : EvS := (seqS (stS 1 (aE g_ties (consA (vE 0) nilA)))
  (seqS (stS 2 (aE lstD nilA))
  (seqS (forS (enI (vE 1)) (.tp [(.nm 3), (.nm 4)]) (forS (sqI (slE (vE 1) (someO (b2E addD (vE 3) (cE (.int 1)))) noO)) (.nm 5) (exS (mE extendM (vE 2) (consA (lcE (sqI (aE tupD (consA (cE (.int 0)) (consA (cE (.int 1)) nilA)))) (.nm 7) yesT (aE g_web_crossed (consA (vE 0) (consA (vE 4) (consA (vE 5) (consA (vE 7) nilA))))) [7]) nilA)))))
  (rtS (lcE (sqI (vE 2)) (.nm 6) (tB (b2E isNotD (vE 6) (cE .non))) (vE 6) [6])))))
def g_crossings : Fn := fnD 1 8 b_crossings
def b_put_right : EvS := (rtS (u1E sortSetBD (lcE (sqI (b2E addD (aE lstD (consA (vE 0) nilA)) (aE g_crossings (consA (vE 0) nilA)))) (.nm 3) (tB (aE g_fits (consA (vE 3) (consA (vE 1) (consA (vE 2) nilA))))) (vE 3) [3])))
def g_put_right : Fn := fnD 3 4 b_put_right
def b_law_v79 : EvS := (seqS (forS (sqI (aE g_l_boxes (consA (vE 0) (consA (cE (.int 6)) nilA)))) (.nm 1) (seqS (stS 2 (b2E sbD (aE lstD (consA (b2E addD (cE (.int 1)) (aE g_l_take_v2 (consA (vE 1) (consA (cE (.int 4)) nilA)))) (consA (cE (.int 7)) nilA))) (aE intD (consA (b2E eqD (aE g_l_take_v2 (consA (vE 1) (consA (cE (.int 8)) nilA))) (cE (.int 0))) nilA))))
  (seqS (stS 3 (aE g_l_web_v2 (consA (vE 1) (consA (vE 2) (consA (b2E addD (cE (.int 1)) (aE g_l_take_v2 (consA (vE 1) (consA (cE (.int 3)) nilA)))) nilA)))))
  (seqS (stS 4 (aE g_l_all_crossed (consA (vE 3) nilA)))
  (seqS (stS 5 (b2E sbD (aE lstD (consA (vE 3) (consA (b2E sbD (vE 4) (aE g_l_take_v2 (consA (vE 1) (consA (aE lenD (consA (vE 4) nilA)) nilA)))) (consA (aE g_l_web_v2 (consA (vE 1) (consA (vE 2) (consA (cE (.int 2)) nilA)))) nilA)))) (aE g_l_take_v2 (consA (vE 1) (consA (cE (.int 3)) nilA)))))
  (seqS (stS 6 (aE g_l_take_v2 (consA (vE 1) (consA (vE 2) nilA))))
  (seqS (stS 7 (aE g_l_story (consA (vE 5) (consA (vE 6) (consA (aE g_l_way_v2 (consA (vE 1) (consA (vE 5) (consA (vE 6) (consA (aE g_l_take_v2 (consA (vE 1) (consA (cE (.int 9)) nilA))) nilA))))) nilA)))))
  (seqS (stS 8 (u1E sortSetBD (lcE (sqI (vE 4)) (.nm 11) (tB (b2E isNotD (aE g_l_last (consA (vE 11) (consA (vE 6) (consA (vE 7) nilA)))) (cE .non))) (vE 11) [11])))
  (forS (rgI1 (cE (.int 2))) (.nm 9) (seqS (stS 10 (aE g_put_right (consA (vE 3) (consA (vE 6) (consA (vE 7) nilA)))))
  (seqS (ifS (notT (tB (aE (g_l_same_v2 8) (consA (vE 10) (consA (vE 8) nilA))))) (rtS (cE (.bl false))) nxS)
  (exS (mE appendM (vE 10) (consA (vE 3) nilA))))))))))))))
  (rtS (cE (.bl true))))
def g_law_v79 : Fn := fnD 1 12 b_law_v79
end SW
namespace SW
open PySem L2
end SW
namespace SW
open PySem L2
end SW
namespace SW
open PySem L2
end SW
namespace SW
open PySem L2
end SW
namespace SW
open PySem L2
end SW
namespace SW
open PySem L2
end SW
namespace SW
open PySem L2
end SW
namespace SW
open PySem L2
end SW
namespace SW
open PySem L2
end SW
namespace SW
open PySem L2
end SW
namespace SW
open PySem L2
end SW
namespace SW
open PySem L2
end SW
namespace SW
open PySem L2
end SW
namespace SW
open PySem L2
end SW
namespace SW
open PySem L2
end SW
namespace SW
open PySem L2
end SW
namespace SW
open PySem L2
end SW
namespace SW
open PySem L2

end SW
namespace SW
open PySem L2

/-- as it was -/
structure AsW (V V' : Wk) : Prop where
  w : V'.w = V.w
  r : V'.r = V.r
  hand : V'.hand = V.hand
  ly : V'.ly = V.ly
theorem AsW.refl (V : Wk) : AsW V V := ⟨rfl, rfl, rfl, rfl⟩
theorem AsW.trans {A B C : Wk} (a : AsW A B) (b : AsW B C) : AsW A C := ⟨b.w.trans a.w, b.r.trans a.r, b.hand.trans a.hand, b.ly.trans a.ly⟩
theorem AsW.onl {V V' : Wk} (a : AsW V V') : V'.onl = V.onl := by unfold Wk.onl; rw [a.r, a.ly]
section
variable {S : Sto} {n l : Nat} {V : Wk}
end
end SW
namespace SW
open PySem L2

/-! draws by a dict of three texts: k36 to k40 -/
def drK (c : Nat) (a r : Int) : List (Key × D) := [(.inr (Str.ofString "cells"), .loc c), (.inr (Str.ofString "at"), .int a), (.inr (Str.ofString "rest"), .int r)]
def Dr (S : Sto) (dl c z : Nat) : Prop := ∃ (cs : List Int) (a : Nat) (r : Int), S[dl]? = some (.dK (drK c a r)) ∧ S[c]? = some (.lst (cs.map D.int)) ∧ cs ≠ [] ∧ a ≤ z ∧ 0 ≤ r
theorem Dr.of {S S' : Sto} {dl c z : Nat} (h : Dr S dl c z) (h1 : S'[dl]? = S[dl]?) (h2 : S'[c]? = S[c]?) : Dr S' dl c z := by
  obtain ⟨cs, a, r, g1, g2, g3⟩ := h
  exact ⟨cs, a, r, h1.trans g1, h2.trans g2, g3⟩
theorem Dr.le {S : Sto} {dl c z z' : Nat} (h : Dr S dl c z) (hz : z ≤ z') : Dr S dl c z' := by
  obtain ⟨cs, a, r, g1, g2, g3, g4, g5⟩ := h
  exact ⟨cs, a, r, g1, g2, g3, by omega, g5⟩
theorem Dr.lt {S : Sto} {dl c z : Nat} (h : Dr S dl c z) : dl < S.length ∧ c < S.length ∧ dl ≠ c := by
  obtain ⟨cs, a, r, g1, g2, g3⟩ := h
  refine ⟨sto_lt g1, sto_lt g2, fun e => ?_⟩
  rw [e, g2] at g1
  cases g1
end SW
namespace SW
open PySem L2

end SW
namespace SW
open PySem L2

/-! webs by marks: which end has which mark -/
def flipM (e : End) : End := (e.1, 1 - e.2)
structure Mrk (n ties doors : Nat) (hs : Wb) (D : List (End × Nat)) : Prop where
  hi : HI n hs D
  nd : (D.map (·.1)).Nodup
  sd : ∀ x ∈ D, x.1.1 < ties ∧ x.1.2 ≤ 1 ∧ x.2 < n
  dr : ∀ (r : Nat) (x : List End), hs[r]? = some x → x.length ≤ doors
section
variable {n ties doors : Nat} {hs : Wb} {D : List (End × Nat)}
theorem Mrk.uniq (h : Mrk n ties doors hs D) {e : End} {r r' : Nat} (h1 : (e, r) ∈ D) (h2 : (e, r') ∈ D) : r = r' := by
  obtain ⟨i, hi⟩ := List.getElem?_of_mem h1
  obtain ⟨j, hj⟩ := List.getElem?_of_mem h2
  have hil : i < (D.map (·.1)).length := by rw [List.length_map]; exact (List.getElem?_eq_some_iff.mp hi).1
  have : i = j := (List.getElem?_inj hil h.nd).mp (by rw [List.getElem?_map, List.getElem?_map, hi, hj]; rfl)
  subst this
  rw [hi] at hj
  cases hj; rfl
theorem Mrk.ins (h : Mrk n ties doors hs D) {r v : Nat} {x : List End} {e : End} {ties' : Nat} (hx : hs[r]? = some x) (hxl : x.length < doors) (he : e.1 < ties') (hs1 : e.2 ≤ 1) (ht : ties ≤ ties') (hf : ∀ r, (e, r) ∉ D) : Mrk n ties' doors (hs.set r (insAt x v e)) (D ++ [(e, r)]) := by
  have hr : r < hs.length := (List.getElem?_eq_some_iff.mp hx).1
  refine ⟨h.hi.ins hx (hf r), ?_, fun y hy => ?_, fun r' y hy => ?_⟩
  · rw [List.map_append, List.nodup_append]
    refine ⟨h.nd, by simp, fun a ha b hb => ?_⟩
    simp at hb
    subst hb
    obtain ⟨y, hy, rfl⟩ := List.mem_map.mp ha
    rintro rfl
    exact hf y.2 hy
  · rcases List.mem_append.mp hy with z | z
    · obtain ⟨a, b, c⟩ := h.sd y z
      exact ⟨by omega, b, c⟩
    · rw [List.mem_singleton.mp z]
      exact ⟨he, hs1, by rw [← h.hi.len]; exact hr⟩
  · by_cases q : r = r'
    · subst q
      rw [List.getElem?_set_self hr] at hy
      cases hy
      rw [(ins_perm x v e).length_eq, List.length_cons]
      omega
    · rw [List.getElem?_set_ne q] at hy
      exact h.dr r' y hy
theorem Mrk.at_inj (h : Mrk n ties doors hs D) {e : End} {r i r' i' : Nat} (h1 : aT hs r i = some e) (h2 : aT hs r' i' = some e) : r = r' ∧ i = i' := by
  obtain ⟨m1, _⟩ := h.hi.of_at h1
  obtain ⟨m2, _⟩ := h.hi.of_at h2
  have hr := h.uniq m1 m2
  subst hr
  obtain ⟨x, hx, hi⟩ := aT_some.mp h1
  obtain ⟨y, hy, hj⟩ := aT_some.mp h2
  rw [hx] at hy
  cases hy
  have hil := (List.getElem?_eq_some_iff.mp hi).1
  exact ⟨rfl, (List.getElem?_inj hil (h.hi.nd r x hx)).mp (hi.trans hj.symm)⟩
/-- where each mark is -/
def rowK (r : Nat) (x : List End) (k : Nat) : List (End × End) := (List.range k).map fun i => (x.getD i (0, 0), (r, i))
def posK (hs : Wb) (k : Nat) : List (End × End) := (List.range k).flatMap fun r => rowK r (rowD hs r) (rowD hs r).length
def lkM (K : List (End × End)) (e : End) : Option End := (K.find? fun p => decide (p.1 = e)).map (·.2)
theorem rowK_mem {r k : Nat} {x : List End} {p : End × End} (hk : k ≤ x.length) : p ∈ rowK r x k ↔ p.2.1 = r ∧ p.2.2 < k ∧ x[p.2.2]? = some p.1 := by
  unfold rowK
  rw [List.mem_map]
  constructor
  · rintro ⟨i, hi, rfl⟩
    rw [List.mem_range] at hi
    refine ⟨rfl, hi, ?_⟩
    have hx : x[i]? = some (x[i]'(by omega)) := List.getElem?_eq_getElem (by omega)
    show x[i]? = some (x.getD i (0, 0))
    rw [List.getD_eq_getElem?_getD, hx]; rfl
  · rintro ⟨h1, h2, h3⟩
    refine ⟨p.2.2, List.mem_range.mpr h2, ?_⟩
    rw [List.getD_eq_getElem?_getD, h3]
    exact Prod.ext rfl (Prod.ext h1.symm rfl)
theorem posK_mem {hs : Wb} {k : Nat} {p : End × End} : p ∈ posK hs k ↔ p.2.1 < k ∧ aT hs p.2.1 p.2.2 = some p.1 := by
  unfold posK
  rw [List.mem_flatMap]
  constructor
  · rintro ⟨r, hr, h⟩
    rw [List.mem_range] at hr
    obtain ⟨h1, h2, h3⟩ := (rowK_mem (Nat.le_refl _)).mp h
    rw [h1]
    exact ⟨hr, rowD_at.mp h3⟩
  · rintro ⟨h1, h2⟩
    have h3 := rowD_at.mpr h2
    exact ⟨p.2.1, List.mem_range.mpr h1, (rowK_mem (Nat.le_refl _)).mpr ⟨rfl, (List.getElem?_eq_some_iff.mp h3).1, h3⟩⟩
theorem lkM_iff (h : Mrk n ties doors hs D) {k : Nat} {e p : End} : lkM (posK hs k) e = some p ↔ p.1 < k ∧ aT hs p.1 p.2 = some e := by
  unfold lkM
  constructor
  · intro h1
    obtain ⟨q, hq, rfl⟩ := Option.map_eq_some_iff.mp h1
    have h2 := List.mem_of_find?_eq_some hq
    have h3 : q.1 = e := by have := List.find?_some hq; exact of_decide_eq_true this
    obtain ⟨a, b⟩ := posK_mem.mp h2
    rw [h3] at b
    exact ⟨a, b⟩
  · rintro ⟨h1, h2⟩
    have hm : (e, p) ∈ posK hs k := posK_mem.mpr ⟨h1, h2⟩
    cases hf : (posK hs k).find? fun p => decide (p.1 = e) with
    | none =>
      rw [List.find?_eq_none] at hf
      exact absurd (decide_eq_true (show (e, p).1 = e from rfl)) (hf _ hm)
    | some q =>
      have h3 := List.mem_of_find?_eq_some hf
      have h4 : q.1 = e := by have := List.find?_some hf; exact of_decide_eq_true this
      obtain ⟨_, b⟩ := posK_mem.mp h3
      rw [h4] at b
      obtain ⟨c, d⟩ := h.at_inj b h2
      have : q.2 = p := Prod.ext c d
      rw [Option.map_some, this]
theorem Mrk.lk (h : Mrk n ties doors hs D) {r i : Nat} {e : End} (he : aT hs r i = some e) : lkM (posK hs hs.length) e = some (r, i) :=
  (lkM_iff h).mpr ⟨by rw [h.hi.len]; exact (h.hi.of_at he).2, he⟩
theorem Mrk.side (h : Mrk n ties doors hs D) {r i : Nat} {e : End} (he : aT hs r i = some e) : flipM (flipM e) = e := by
  have := (h.sd _ (h.hi.of_at he).1).2.1
  unfold flipM
  exact Prod.ext rfl (by show 1 - (1 - e.2) = e.2; simp at this; omega)
end
end SW
namespace SW
open PySem L2

/-- what a draw and the lists of marks leave as it was -/
structure FrM (S S' : Sto) (dl L : Nat) : Prop where
  len : S.length ≤ S'.length
  at_ : ∀ m, m < L → m ≠ dl → S'[m]? = S[m]?
theorem FrM.refl (S : Sto) (dl L : Nat) : FrM S S dl L := ⟨Nat.le_refl _, fun _ _ _ => rfl⟩
theorem FrM.trans {S S' S2 : Sto} {dl L : Nat} (a : FrM S S' dl L) (b : FrM S' S2 dl L) : FrM S S2 dl L := ⟨Nat.le_trans a.len b.len, fun m h h1 => (b.at_ m h h1).trans (a.at_ m h h1)⟩
section
variable {S : Sto} {dl c z L n : Nat} {hs : Wb} {τ : Tau} {Q : Out → Sto → Prop}
structure SmS (S0 S : Sto) (dl c z L n ties doors : Nat) (hs : Wb) (E0 E : List (End × Nat)) : Prop where
  d : Dr S dl c z
  h : Hw S L n hs
  m : Mrk n ties doors hs E
  sub : ∀ x ∈ E0, x ∈ E
  fr : FrM S0 S dl L
section
variable {S0 : Sto} {ties doors : Nat} {E0 E : List (End × Nat)} {o4 o5 o6 o7 o8 : Option D}
theorem SmS.keep {S' : Sto} (h : SmS S0 S dl c z L n ties doors hs E0 E) (l : S.length ≤ S'.length) (f : ∀ m, m < S.length → S'[m]? = S[m]?) : SmS S0 S' dl c z L n ties doors hs E0 E := by
  obtain ⟨h1, h2, _⟩ := h.d.lt
  have ht := sto_lt h.h.top
  exact ⟨h.d.of (f _ h1) (f _ h2), h.h.of fun k _ hk => f k hk, h.m, h.sub, h.fr.trans ⟨l, fun m hm _ => f m (by omega)⟩⟩
theorem SmS.pick {S' : Sto} (hL : dl < L ∧ c < L) (h : SmS S0 S dl c z L n ties doors hs E0 E) (d : Dr S' dl c (z + 1)) (l : S'.length = S.length) (f : ∀ m, m ≠ dl → S'[m]? = S[m]?) : SmS S0 S' dl c (z + 1) L n ties doors hs E0 E :=
  ⟨d, h.h.of fun k hk _ => f k (by omega), h.m, h.sub, h.fr.trans ⟨by omega, fun m _ hne => f m hne⟩⟩
end
end
end SW
namespace SW
open PySem L2

section
variable {S0 S : Sto} {dl c z L n ties doors : Nat} {hs : Wb} {E0 E : List (End × Nat)} {o4 o5 o6 o7 o8 o9 o10 : Option D}
end
/-! the dict of marks -/
def tkE (e : End) : List Key := [.inl (e.1 : Int), .inl (e.2 : Int)]
def mapM (K : List (End × End)) : List (List Key × D) := K.map fun p => (tkE p.1, eD p.2)
end SW
namespace SW
open PySem L2

section
variable {S0 S : Sto} {dl c z L n ties doors : Nat} {hs : Wb} {E0 E : List (End × Nat)} {o4 o5 o6 o7 o8 o9 o10 : Option D}
structure MwS (S0 S : Sto) (dl c z L n al : Nat) (hs : Wb) (K : List (End × End)) : Prop where
  d : Dr S dl c z
  h : Hw S L n hs
  a : S[al]? = some (.dT (mapM K))
  al : L + n < al
  fr : FrM S0 S dl L
theorem MwS.keep {K : List (End × End)} {al : Nat} {S' : Sto} (h : MwS S0 S dl c z L n al hs K) (l : S.length ≤ S'.length) (f : ∀ m, m < S.length → S'[m]? = S[m]?) : MwS S0 S' dl c z L n al hs K := by
  obtain ⟨h1, h2, _⟩ := h.d.lt
  have ht := sto_lt h.h.top
  exact ⟨h.d.of (f _ h1) (f _ h2), h.h.of fun k _ hk => f k hk, (f _ (sto_lt h.a)).trans h.a, h.al, h.fr.trans ⟨l, fun m hm _ => f m (by omega)⟩⟩
end
end SW
namespace SW
open PySem L2

/-! k36, k39, k40: some web; a walker that goes by draws -/
structure FrD (S S' : Sto) (dl : Nat) : Prop where
  len : S.length ≤ S'.length
  at_ : ∀ m, m < S.length → m ≠ dl → S'[m]? = S[m]?
theorem FrD.refl (S : Sto) (dl : Nat) : FrD S S dl := ⟨Nat.le_refl _, fun _ _ _ => rfl⟩
theorem FrD.trans {S S' S2 : Sto} {dl : Nat} (a : FrD S S' dl) (b : FrD S' S2 dl) : FrD S S2 dl := ⟨Nat.le_trans a.len b.len, fun m h h1 => (b.at_ m (by have := a.len; omega) h1).trans (a.at_ m h h1)⟩
theorem FrD.keep {S S' : Sto} {dl : Nat} (l : S.length ≤ S'.length) (f : ∀ m, m < S.length → S'[m]? = S[m]?) : FrD S S' dl := ⟨l, fun m h _ => f m h⟩
theorem FrM.d {S S' : Sto} {dl : Nat} (a : FrM S S' dl S.length) : FrD S S' dl := ⟨a.len, a.at_⟩
theorem FrD.pick {S S' : Sto} {dl : Nat} (l : S'.length = S.length) (f : ∀ m, m ≠ dl → S'[m]? = S[m]?) : FrD S S' dl := ⟨by omega, fun m _ h => f m h⟩
/-- frames of a walker and the draws -/
structure FrQ (S S' : Sto) (dl n l : Nat) : Prop where
  len : S.length ≤ S'.length
  at_ : ∀ m, m < S.length → m ≠ dl → m ≠ n → m ≠ l → S'[m]? = S[m]?
theorem FrQ.refl (S : Sto) (dl n l : Nat) : FrQ S S dl n l := ⟨Nat.le_refl _, fun _ _ _ _ _ => rfl⟩
theorem FrQ.trans {S S' S2 : Sto} {dl n l : Nat} (a : FrQ S S' dl n l) (b : FrQ S' S2 dl n l) : FrQ S S2 dl n l := ⟨Nat.le_trans a.len b.len, fun m h h1 h2 h3 => (b.at_ m (by have := a.len; omega) h1 h2 h3).trans (a.at_ m h h1 h2 h3)⟩
theorem FrV.q {S S' : Sto} {dl n l : Nat} (a : FrV S S' n l) : FrQ S S' dl n l := ⟨a.len, fun m h _ h2 h3 => a.at_ m h h2 h3⟩
theorem FrD.q {S S' : Sto} {dl n l : Nat} (a : FrD S S' dl) : FrQ S S' dl n l := ⟨a.len, fun m h h1 _ _ => a.at_ m h h1⟩
section
variable {S : Sto} {dl c z n l : Nat} {V : Wk}
end
end SW
namespace SW
open PySem L2

end SW
namespace SW
open PySem L2

end SW
namespace SW
open PySem L2

end SW
namespace SW
open PySem L2

section
variable {S : Sto} {w : Wb} {dl c z n l r h : Nat} {V : Wk} {o0 o2 o7 o8 : Option D} {R : Out → Sto → Prop}
end
end SW
namespace SW
open PySem L2

/-- a stone lies in room r alone -/
def LyR (V : Wk) (r : Nat) : Prop := ∀ x, x < V.w.length → V.ly.getD x 0 = if x = r then 1 else 0
theorem LyR.as {V V' : Wk} {r : Nat} (h : LyR V r) (hw : V'.w = V.w) (hl : V'.ly = V.ly) : LyR V' r := by
  unfold LyR at *
  rw [hw, hl]; exact h
end SW
namespace SW
open PySem L2

end SW
namespace SW
open PySem L2

/-! k38: going by steps -/
def Goes (w : Wb) : Nat → List End → Nat → Prop
  | y, [], z => y = z
  | y, a :: p, z => ∃ e, (rowD w y)[a.1]? = some e ∧ e.2 = a.2 ∧ Goes w e.1 p z
def turnP (p : List End) : List End := p.reverse.map fun a => (a.2, a.1)
theorem Goes.app {w : Wb} : ∀ {p : List End} {q : List End} {y z x : Nat}, Goes w y p z → Goes w z q x → Goes w y (p ++ q) x
  | [], q, y, z, x, h, g => by
    have : y = z := h
    subst this; exact g
  | a :: p, q, y, z, x, ⟨e, h1, h2, h3⟩, g => ⟨e, h1, h2, h3.app g⟩
theorem Goes.turn {w : Wb} (B : Back w) : ∀ {p : List End} {y z : Nat}, Goes w y p z → Goes w z (turnP p) y
  | [], y, z, h => by
    have : y = z := h
    subst this; rfl
  | a :: p, y, z, ⟨e, h1, h2, h3⟩ => by
    have ih := Goes.turn B h3
    unfold turnP at ih ⊢
    rw [List.reverse_cons, List.map_append]
    refine ih.app ⟨(y, a.1), ?_, rfl, rfl⟩
    show (rowD w e.1)[a.2]? = _
    rw [← h2]
    exact row_back B h1
theorem Goes.uniq {w : Wb} : ∀ {p : List End} {y z x : Nat}, Goes w y p z → Goes w y p x → z = x
  | [], y, z, x, h, g => by
    have h : y = z := h
    have g : y = x := g
    omega
  | a :: p, y, z, x, ⟨e, h1, h2, h3⟩, ⟨e', g1, g2, g3⟩ => by
    rw [h1] at g1; cases g1
    exact h3.uniq g3
theorem Goes.drop {w : Wb} {p : List End} {i y z : Nat} {a : End} (h : Goes w y (p.drop i) z) (ha : p[i]? = some a) : ∃ e, (rowD w y)[a.1]? = some e ∧ Goes w e.1 (p.drop (i + 1)) z := by
  obtain ⟨hl, rfl⟩ := List.getElem?_eq_some_iff.mp ha
  rw [List.drop_eq_getElem_cons hl] at h
  obtain ⟨e, h1, _, h3⟩ := h
  exact ⟨e, h1, h3⟩
/-- the walker has gone elsewhere -/
structure AsG (V V' : Wk) : Prop where
  w : V'.w = V.w
  hand : V'.hand = V.hand
  ly : V'.ly = V.ly
  steps : V.steps ≤ V'.steps
theorem AsG.refl (V : Wk) : AsG V V := ⟨rfl, rfl, rfl, Nat.le_refl _⟩
theorem AsG.trans {A B C : Wk} (a : AsG A B) (b : AsG B C) : AsG A C := ⟨b.w.trans a.w, b.hand.trans a.hand, b.ly.trans a.ly, Nat.le_trans a.steps b.steps⟩
section
variable {S : Sto} {n l z : Nat} {V : Wk} {p : List End}
end
end SW
namespace SW
open PySem L2

/-! k38: each room has steps to the stone; the steps tell the room -/
inductive Gv (w : Wb) (r : Nat) : Nat → List End → List Nat → Prop
  | nil : Gv w r r [] [r]
  | cons {y d : Nat} {e : End} {p : List End} {L : List Nat} : (rowD w y)[d]? = some e → Gv w r e.1 p L → Gv w r y ((d, e.2) :: p) (y :: L)
theorem Gv.goes {w : Wb} {r y : Nat} {p : List End} {L : List Nat} (h : Gv w r y p L) : Goes w y p r ∧ L.length = p.length + 1 := by
  induction h with
  | nil => exact ⟨rfl, rfl⟩
  | cons he _ ih => exact ⟨⟨_, he, rfl, ih.1⟩, by rw [List.length_cons, List.length_cons, ih.2]⟩
end SW
namespace SW
open PySem L2

section
variable {w : Wb} {r most : Nat}
end
theorem metStep_pre {xs : List Nat} {e : End} : ∀ x ∈ xs, x ∈ metStep xs e := by
  intro x hx
  unfold metStep
  split
  · exact hx
  · exact List.mem_append_left _ hx
theorem metStep_idx {xs : List Nat} {e : End} {x : Nat} (h : x ∈ xs) : (metStep xs e).idxOf x = xs.idxOf x := by
  unfold metStep
  split
  · rfl
  · rw [List.idxOf_append, if_pos h]
theorem metStep_mem {xs : List Nat} {e : End} : e.1 ∈ metStep xs e := by
  unfold metStep
  split
  · assumption
  · simp
theorem metRow_keep {xs : List Nat} {row : List End} : ∀ x ∈ xs, x ∈ metRow xs row ∧ (metRow xs row).idxOf x = xs.idxOf x := by
  induction row generalizing xs with
  | nil => exact fun x hx => ⟨hx, rfl⟩
  | cons e row ih =>
    intro x hx
    obtain ⟨h1, h2⟩ := ih (xs := metStep xs e) x (metStep_pre x hx)
    exact ⟨h1, h2.trans (metStep_idx hx)⟩
theorem metRow_mem {xs : List Nat} {row : List End} : ∀ e ∈ row, e.1 ∈ metRow xs row := by
  induction row generalizing xs with
  | nil => intro e h; cases h
  | cons a row ih =>
    intro e he
    rcases List.mem_cons.mp he with rfl | he
    · exact (metRow_keep (xs := metStep xs e) (row := row) e.1 metStep_mem).1
    · exact ih (xs := metStep xs a) e he
end SW
namespace SW
open PySem L2

/-! k38: the ends of a room -/
structure FrE (S S' : Sto) (n l k : Nat) : Prop where
  len : S.length ≤ S'.length
  at_ : ∀ m, m < S.length → m ≠ n → m ≠ l → m ≠ k → S'[m]? = S[m]?
theorem FrE.refl (S : Sto) (n l k : Nat) : FrE S S n l k := ⟨Nat.le_refl _, fun _ _ _ _ _ => rfl⟩
theorem FrE.trans {S S' S2 : Sto} {n l k : Nat} (a : FrE S S' n l k) (b : FrE S' S2 n l k) : FrE S S2 n l k := ⟨Nat.le_trans a.len b.len, fun m h h1 h2 h3 => (b.at_ m (by have := a.len; omega) h1 h2 h3).trans (a.at_ m h h1 h2 h3)⟩
theorem FrV.e {S S' : Sto} {n l k : Nat} (a : FrV S S' n l) : FrE S S' n l k := ⟨a.len, fun m h h1 h2 _ => a.at_ m h h1 h2⟩
section
variable {S S0 : Sto} {n l kl el r most x i : Nat} {V V0 : Wk} {v1 : D} {L : List Nat} {row : List End}
end
end SW
namespace SW
open PySem L2

end SW
namespace SW
open PySem L2

structure MrA (w : Wb) (r k n : Nat) (L : List Nat) : Prop where
  nd : L.Nodup
  lt : ∀ x ∈ L, x < w.length
  met : met w n k L = metL w r
  kn : k + n = w.length
  done : ∀ y ∈ L.take k, ∀ e ∈ rowD w y, e.1 ∈ L
theorem metRow_nd {row : List End} {m : Nat} : ∀ {xs : List Nat}, xs.Nodup → (∀ x ∈ xs, x < m) → (∀ e ∈ row, e.1 < m) → (metRow xs row).Nodup ∧ ∀ x ∈ metRow xs row, x < m := by
  induction row with
  | nil => intro xs h1 h2 _; exact ⟨h1, h2⟩
  | cons a row ih =>
    intro xs h1 h2 h3
    refine ih (xs := metStep xs a) ?_ ?_ fun e he => h3 e (List.mem_cons_of_mem _ he)
    · unfold metStep
      split
      · exact h1
      · rename_i hn
        rw [List.nodup_append]
        refine ⟨h1, by simp, fun x hx y hy => ?_⟩
        have : y = a.1 := by simpa using hy
        subst this
        exact fun e => hn (e ▸ hx)
    · intro x hx
      unfold metStep at hx
      split at hx
      · exact h2 x hx
      · rcases List.mem_append.mp hx with hx | hx
        · exact h2 x hx
        · have : x = a.1 := by simpa using hx
          rw [this]; exact h3 a List.mem_cons_self
theorem MrA.next {w : Wb} {r k n x : Nat} {L : List Nat} (W : IsWeb w) (h : MrA w r k (n + 1) L) (hx : L[k]? = some x) : MrA w r (k + 1) n (metRow L (rowD w x)) := by
  have hxl := h.lt x (List.mem_of_getElem? hx)
  have hr3 : ∀ e ∈ rowD w x, e.1 < w.length := fun e he => by
    obtain ⟨j, hj⟩ := List.getElem?_of_mem he
    exact W.back.closed _ _ _ _ (rowD_at.mp hj)
  obtain ⟨a, b⟩ := metRow_nd h.nd h.lt hr3
  have hkl : k < L.length := (List.getElem?_eq_some_iff.mp hx).1
  refine ⟨a, b, ?_, by have := h.kn; omega, ?_⟩
  · have hm := h.met
    have e : SW.met w (n + 1) k L = SW.met w n (k + 1) (metRow L (rowD w x)) := by
      show (match L[k]? with | some r => SW.met w n (k + 1) (metRow L ((w[r]?).getD [])) | none => L) = _
      rw [hx]; rfl
    rw [e] at hm
    exact hm
  · intro y hy e he
    have htk : (metRow L (rowD w x)).take (k + 1) = L.take k ++ [x] := by
      have hp : ∀ (row : List End) (xs : List Nat), ∃ ys, metRow xs row = xs ++ ys := by
        intro row
        induction row with
        | nil => exact fun xs => ⟨[], by simp [metRow]⟩
        | cons c row ih =>
          intro xs
          obtain ⟨ys, hy⟩ := ih (metStep xs c)
          show ∃ zs, metRow (metStep xs c) row = xs ++ zs
          rw [hy]
          unfold metStep
          split
          · exact ⟨ys, rfl⟩
          · exact ⟨[c.1] ++ ys, by simp⟩
      obtain ⟨ys, hys⟩ := hp (rowD w x) L
      rw [hys, List.take_append_of_le_length (by omega), List.take_add_one, hx]
      rfl
    rw [htk] at hy
    rcases List.mem_append.mp hy with hy | hy
    · exact (metRow_keep e.1 (h.done y hy e he)).1
    · have : y = x := by simpa using hy
      subst this
      exact metRow_mem e he
end SW
namespace SW
open PySem L2

end SW
namespace SW
open PySem L2

section
variable {S : Sto} {w : Wb} {dl c z n l r h most : Nat} {V : Wk} {o0 o2 o8 o9 : Option D} {R : Out → Sto → Prop}
end
end SW
namespace SW
open PySem L2

/-! plain runs of defs that may raise -/
section
variable {τ : Tau} {S : Sto}
end
end SW
namespace SW
open PySem L2

/-! k37: no stone there -/
section
variable {S : Sto} {n l r : Nat} {V : Wk}
/-- what a walker tells of itself -/
def Wk.tells (V : Wk) : List D := [V.onl, V.here, nD V.hand, nD V.steps]
end
end SW
namespace SW
open PySem L2

/-! k27: the same, kind by kind; a walker may be refused -/
def p4 : Nat → D → Bool
  | _, .non => true
  | _, .int _ => true
  | n + 1, .tup ds => decide (ds.length ≤ 1000) && ds.all (p4 n)
  | _, _ => false
section
variable {S : Sto} {n l : Nat} {W : Wk} {Q : Rs → Sto → Prop}
end
end SW
namespace SW
open PySem L2

/-! k27: a deed, done by the walker -/
inductive De
  | go (d : Int)
  | lay
  | take
inductive DRes
  | did (V : Wk)
  | no (c : String)
def Wk.deed (V : Wk) : De → DRes
  | .go d => if 0 ≤ d ∧ d < ((rowD V.w V.r).length : Int) then (match (rowD V.w V.r)[d.toNat]? with | some e => .did (V.go e) | none => .no "NoDoor") else .no "NoDoor"
  | .lay => if 0 < V.hand then .did V.lay else .no "NoStone"
  | .take => if 0 < V.ly.getD V.r 0 then .did V.take else .no "NoStone"
section
variable {S : Sto} {n l : Nat} {V : Wk} {Q : D → Sto → Prop}
end
end SW
namespace SW
open PySem L2

/-! k53: two ties crossed -/
def setW (w : Wb) (a v : End) : Wb := w.set a.1 ((rowD w a.1).set a.2 v)
theorem setW_len {w : Wb} {a v : End} : (setW w a v).length = w.length := by unfold setW; simp
theorem rowD_set {w : Wb} {k r : Nat} {x : List End} (hk : k < w.length) : rowD (w.set k x) r = if k = r then x else rowD w r := by
  unfold rowD
  rw [List.getElem?_set]
  by_cases h : k = r
  · subst h
    rw [if_pos rfl, if_pos hk, if_pos rfl]; rfl
  · rw [if_neg h, if_neg h]
theorem setW_row {w : Wb} {a v : End} {r : Nat} (ha : a.1 < w.length) : rowD (setW w a v) r = if a.1 = r then (rowD w r).set a.2 v else rowD w r := by
  unfold setW
  rw [rowD_set ha]
  split
  · rename_i h; rw [h]
  · rfl
theorem setW_rlen {w : Wb} {a v : End} {r : Nat} (ha : a.1 < w.length) : (rowD (setW w a v) r).length = (rowD w r).length := by
  rw [setW_row ha]
  split <;> simp
/-- a door of the web -/
def Dw (w : Wb) (a : End) : Prop := a.1 < w.length ∧ a.2 < (rowD w a.1).length
theorem Dw.set {w : Wb} {a b v : End} (ha : Dw w a) (hb : Dw w b) : Dw (setW w a v) b := ⟨by rw [setW_len]; exact hb.1, by rw [setW_rlen ha.1]; exact hb.2⟩
theorem aT_rowD {w : Wb} {r i : Nat} : aT w r i = (rowD w r)[i]? := by
  unfold rowD aT
  cases w[r]? <;> simp
theorem setW_at {w : Wb} {a v : End} {r i : Nat} (ha : Dw w a) : aT (setW w a v) r i = if (r, i) = a then some v else aT w r i := by
  rw [aT_rowD, aT_rowD, setW_row ha.1]
  by_cases h : a.1 = r
  · rw [if_pos h]
    by_cases h2 : a.2 = i
    · have : (r, i) = a := Prod.ext h.symm h2.symm
      rw [if_pos this, ← h2, List.getElem?_set_self (by rw [← h]; exact ha.2)]
    · rw [if_neg (fun q => h2 (by rw [← q])), List.getElem?_set_ne h2]
  · rw [if_neg h, if_neg (fun q => h (by rw [← q]))]
def tieX (w : Wb) (x y : End) : Wb := setW (setW w x y) y x
theorem Dw.tie {w : Wb} {x y b : End} (hx : Dw w x) (hy : Dw w y) (hb : Dw w b) : Dw (tieX w x y) b := (hx.set hy).set (hx.set hb)
theorem tieX_len {w : Wb} {x y : End} : (tieX w x y).length = w.length := by unfold tieX; rw [setW_len, setW_len]
theorem tieX_rlen {w : Wb} {x y : End} {r : Nat} (hx : Dw w x) (hy : Dw w y) : (rowD (tieX w x y) r).length = (rowD w r).length := by
  unfold tieX
  rw [setW_rlen (hx.set hy).1, setW_rlen hx.1]
theorem tieX_at {w : Wb} {x y : End} {r i : Nat} (hx : Dw w x) (hy : Dw w y) : aT (tieX w x y) r i = if (r, i) = y then some x else if (r, i) = x then some y else aT w r i := by
  unfold tieX
  rw [setW_at (hx.set hy), setW_at hx]
def Wt1 (S0 : Sto) (w : Wb) (i : Nat) (acc : List D) (S : Sto) : Prop := acc = (List.range i).map (fun j => D.loc (S0.length + j)) ∧ (∀ j x, j < i → w[j]? = some x → S[S0.length + j]? = some (.lst (x.map eD))) ∧ S.length = S0.length + i ∧ ∀ n, n < S0.length → S[n]? = S0[n]?
def Wt2 (S0 : Sto) (p : Nat) (w : Wb) (ws : List Wb) (i : Nat) (τ : Tau) (S : Sto) : Prop := ∃ (v : Wb) (o3 o4 o5 : Option D), τ = [some (wD w), some (.loc p), some (.loc (S0.length + w.length)), o3, o4, o5] ∧ ws[i]? = some v ∧ Hw S S0.length w.length v ∧ S0.length ≤ S.length ∧ ∀ n, n < S0.length → S[n]? = S0[n]?
def Wt3 (S0 : Sto) (v : Wb) (i : Nat) (acc : List D) (S : Sto) : Prop := acc = (v.take i).map rD ∧ S = S0
theorem with_ties_ok {S : Sto} {w : Wb} {p : Nat} {x1 y1 x2 y2 : End} {Q : D → Sto → Prop} (hw : w.length ≤ 24) (hd : ∀ (r : Nat) (x : List End), w[r]? = some x → x.length ≤ 6) (hp : S[p]? = some (.lst [tD (x1, y1), tD (x2, y2)]))
    (h1 : Dw w x1) (h2 : Dw w y1) (h3 : Dw w x2) (h4 : Dw w y2)
    (q : ∀ S' : Sto, S.length ≤ S'.length → (∀ n, n < S.length → S'[n]? = S[n]?) → Q (wD (tieX (tieX w x1 y1) x2 y2)) S') : Wp (g_with_ties [wD w, .loc p] S) Q := by
  unfold g_with_ties
  refine (wp_fnD (by rfl)).mpr ?_
  unfold b_with_ties
  have hpl := sto_lt hp
  (simp! only [src_W])
  refine lc_fixed (w.map rD) (by simp; omega) (Wt1 S w) ⟨rfl, fun j x h => by omega, rfl, fun _ _ => rfl⟩ ?_ ?_
  · rintro i d acc S1 hdd ⟨rfl, g1, l1, f1⟩
    rw [List.getElem?_map] at hdd
    obtain ⟨x, hx, rfl⟩ := Option.map_eq_some_iff.mp hdd
    refine ⟨_, pb_nm, ?_⟩
    have er : rD x = .tup (x.map eD) := rfl
    (simp! only [er, wq_listT])
    refine ⟨by rw [List.range_succ, List.map_append, l1]; rfl, fun j y hj hy => ?_, by simp; omega, fun n hn => by rw [sto_app (by omega)]; exact f1 n hn⟩
    by_cases hji : j < i
    · rw [sto_app (by omega)]; exact g1 j y hji hy
    · have : j = i := by omega
      subst this
      rw [hx] at hy; cases hy
      rw [← l1]; exact sto_new
  · rintro acc S1 ⟨rfl, g1, l1, f1⟩
    rw [List.length_map] at g1 l1
    have H : Hw (S1 ++ [MO.lst ((List.range w.length).map fun j => D.loc (S.length + j))]) S.length w.length w := by
      refine ⟨by rw [← l1]; exact sto_new, rfl, fun r x hx => ?_⟩
      have hr := (List.getElem?_eq_some_iff.mp hx).1
      rw [sto_app (by omega)]; exact g1 r x hr hx
    have f2 : ∀ n, n < S.length → (S1 ++ [MO.lst ((List.range w.length).map fun j => D.loc (S.length + j))])[n]? = S[n]? := fun n hn => by rw [sto_app (by omega)]; exact f1 n hn
    have l2 : S.length ≤ (S1 ++ [MO.lst ((List.range w.length).map fun j => D.loc (S.length + j))]).length := by simp; omega
    rw [List.length_map, l1]
    (simp! only [])
    generalize S1 ++ [MO.lst ((List.range w.length).map fun j => D.loc (S.length + j))] = S2 at H f2 l2 ⊢
    have p2 := (f2 p hpl).trans hp
    refine ⟨_, src_loc p2, ?_⟩
    refine lo_live p _ (Wt2 S p w [w, tieX w x1 y1, tieX (tieX w x1 y1) x2 y2]) ⟨w, _, _, _, rfl, rfl, H, l2, f2⟩ (fun i τ S' ⟨_, _, _, _, _, _, _, _, g⟩ => (g p hpl).trans hp) ?_ ?_
    · have step : ∀ (v : Wb) (x y : End) (o3 o4 o5 : Option D) (S3 : Sto) (R : Out → Sto → Prop), Hw S3 S.length w.length v → Dw v x → Dw v y → S.length ≤ S3.length → (∀ n, n < S.length → S3[n]? = S[n]?) → (∀ (S4 : Sto) (o3 o4 o5 : Option D), Hw S4 S.length w.length (tieX v x y) → S.length ≤ S4.length → (∀ n, n < S.length → S4[n]? = S[n]?) → R (.nx [some (wD w), some (.loc p), some (.loc (S.length + w.length)), o3, o4, o5]) S4) → Wp ((seqS (asS (vE 4) (subG (b2E sbD (vE 2) (b2E sbD (vE 3) (cE (.int 0)))) (b2E sbD (vE 3) (cE (.int 1))))) (asS (vE 3) (subG (b2E sbD (vE 2) (b2E sbD (vE 4) (cE (.int 0)))) (b2E sbD (vE 4) (cE (.int 1)))))) [some (wD w), some (.loc p), some (.loc (S.length + w.length)), some (eD x), some (eD y), o5] S3) R := by
        intro v x y o3 o4 o5 S3 R H3 hx hy l3 f3 k
        have e0 : ∀ a : End, atI [D.int (a.1 : Int), D.int (a.2 : Int)] 0 = some (.int (a.1 : Int)) := fun _ => rfl
        have e1 : ∀ a : End, atI [D.int (a.1 : Int), D.int (a.2 : Int)] 1 = some (.int (a.2 : Int)) := fun _ => rfl
        have hvl := H3.len
        have at1 : atI ((List.range w.length).map fun i => D.loc (S.length + i)) (x.1 : Int) = some (.loc (S.length + x.1)) := atI_of (by rw [List.getElem?_map, List.getElem?_range (by rw [← hvl]; exact hx.1)]; rfl)
        have at2 : atI ((List.range w.length).map fun i => D.loc (S.length + i)) (y.1 : Int) = some (.loc (S.length + y.1)) := atI_of (by rw [List.getElem?_map, List.getElem?_range (by rw [← hvl]; exact hy.1)]; rfl)
        have r1 := H3.at_ x.1 _ (row_at hx.1)
        have st1 := stD_lst (v := eD y) r1 (show x.2 < ((rowD v x.1).map eD).length by rw [List.length_map]; exact hx.2)
        have em1 : ((rowD v x.1).map eD).set x.2 (eD y) = ((rowD v x.1).set x.2 y).map eD := by rw [List.map_set]
        rw [em1] at st1
        have H4 : Hw (S3.set (S.length + x.1) (.lst (((rowD v x.1).set x.2 y).map eD))) S.length w.length (setW v x y) := H3.ins (row_at hx.1)
        have f4 : ∀ n, n < S.length → (S3.set (S.length + x.1) (.lst (((rowD v x.1).set x.2 y).map eD)))[n]? = S[n]? := fun n hn => by rw [sto_ne (by omega)]; exact f3 n hn
        have l4 : S.length ≤ (S3.set (S.length + x.1) (.lst (((rowD v x.1).set x.2 y).map eD))).length := by simpa using l3
        have t4 := H4.top
        have t3 := H3.top
        have hy' := hx.set (v := y) hy
        have r2 := H4.at_ y.1 _ (row_at hy'.1)
        have st2 := stD_lst (v := eD x) r2 (show y.2 < ((rowD (setW v x y) y.1).map eD).length by rw [List.length_map]; exact hy'.2)
        have em2 : ((rowD (setW v x y) y.1).map eD).set y.2 (eD x) = ((rowD (setW v x y) y.1).set y.2 x).map eD := by rw [List.map_set]
        rw [em2] at st2
        have H5 : Hw ((S3.set (S.length + x.1) (.lst (((rowD v x.1).set x.2 y).map eD))).set (S.length + y.1) (.lst (((rowD (setW v x y) y.1).set y.2 x).map eD))) S.length w.length (tieX v x y) := H4.ins (row_at hy'.1)
        have f5 : ∀ n, n < S.length → ((S3.set (S.length + x.1) (.lst (((rowD v x.1).set x.2 y).map eD))).set (S.length + y.1) (.lst (((rowD (setW v x y) y.1).set y.2 x).map eD)))[n]? = S[n]? := fun n hn => by rw [sto_ne (by omega)]; exact f4 n hn
        generalize S3.set (S.length + x.1) (.lst (((rowD v x.1).set x.2 y).map eD)) = S4 at st1 st2 H4 f4 l4 t4 r2 H5 f5 ⊢
        have exD : eD x = .tup [.int (x.1 : Int), .int (x.2 : Int)] := rfl
        have eyD : eD y = .tup [.int (y.1 : Int), .int (y.2 : Int)] := rfl
        have s0 : ∀ (a : End) (S : Sto) (Q : D → Sto → Prop), Wp (sbD (eD a) (.int 0) S) Q ↔ Q (.int (a.1 : Int)) S := fun a S Q => sb_tup (e0 a)
        have s1 : ∀ (a : End) (S : Sto) (Q : D → Sto → Prop), Wp (sbD (eD a) (.int 1) S) Q ↔ Q (.int (a.2 : Int)) S := fun a S Q => sb_tup (e1 a)
        (simp! only [s0, s1, wq_sbL t3, at1])
        refine ⟨_, st1, ?_⟩
        (simp! only [s0, s1, wq_sbL t4, at2])
        refine ⟨_, st2, ?_⟩
        exact k _ _ _ _ H5 (by simpa using l4) f5
      rintro i d τ S3 hdd ⟨v, o3, o4, o5, rfl, hv, H3, l3, f3⟩
      match i, hdd, hv with
      | 0, hdd, hv =>
        cases hdd; cases hv
        refine ⟨_, rfl, ?_⟩
        exact step w x1 y1 none none o5 S3 _ H3 h1 h2 l3 f3 fun S4 o3 o4 o5 H4 l4 f4 => ⟨_, _, _, _, rfl, rfl, H4, l4, f4⟩
      | 1, hdd, hv =>
        cases hdd; cases hv
        refine ⟨_, rfl, ?_⟩
        exact step _ x2 y2 none none o5 S3 _ H3 (h1.tie h2 h3) (h1.tie h2 h4) l3 f3 fun S4 o3 o4 o5 H4 l4 f4 => ⟨_, _, _, _, rfl, rfl, H4, l4, f4⟩
      | i + 2, hdd, _ => simp at hdd
    · rintro τ S3 ⟨v, o3, o4, o5, rfl, hv, H3, l3, f3⟩
      cases hv
      have t3 := H3.top
      have vl := H3.len
      (simp! only [])
      refine ⟨_, src_loc t3, ?_⟩
      refine lc_live _ _ (by simp; omega) (Wt3 S3 (tieX (tieX w x1 y1) x2 y2)) ⟨rfl, rfl⟩ (fun i acc S' h => by rw [h.2]; exact t3) ?_ ?_
      · rintro i d acc S4 hdd ⟨rfl, rfl⟩
        rw [List.getElem?_map] at hdd
        obtain ⟨j, hj, rfl⟩ := Option.map_eq_some_iff.mp hdd
        have hi : i < w.length := by have := (List.getElem?_eq_some_iff.mp hj).1; simpa using this
        rw [List.getElem?_range hi] at hj
        cases hj
        refine ⟨_, pb_nm, ?_⟩
        have hx := row_at (w := tieX (tieX w x1 y1) x2 y2) (x := i) (by omega)
        have hr := H3.at_ i _ hx
        (simp! only [wq_tupleL hr])
        refine ⟨?_, rfl⟩
        rw [List.take_add_one, hx, List.map_append]; rfl
      · rintro acc S4 ⟨rfl, rfl⟩
        have e5 : (S4 ++ [MO.lst (((tieX (tieX w x1 y1) x2 y2).take ((List.range w.length).map fun i => D.loc (S.length + i)).length).map rD)])[S4.length]? = some (.lst (((tieX (tieX w x1 y1) x2 y2).take ((List.range w.length).map fun i => D.loc (S.length + i)).length).map rD)) := sto_new
        (simp! only [wq_tupleL e5])
        rw [List.length_map, List.length_range, ← vl, List.take_length]
        exact q _ (by simp; omega) fun n hn => by rw [sto_app (by omega)]; exact f3 n hn
end SW
namespace SW
open PySem L2

/-! k53: the crossing -/
def crossX (w : Wb) (a a' f l : End) : Wb := tieX (tieX w a l) f a'
/-- two ties that may be crossed -/
structure Tw2 (w : Wb) (a a' f l : End) : Prop where
  a1 : aT w a.1 a.2 = some a'
  a2 : aT w a'.1 a'.2 = some a
  f1 : aT w f.1 f.2 = some l
  f2 : aT w l.1 l.2 = some f
  ne : a ≠ f ∧ a ≠ l ∧ a' ≠ f ∧ a' ≠ l
  same : a = a' ↔ f = l
theorem dw_of {w : Wb} {a e : End} (h : aT w a.1 a.2 = some e) : Dw w a := by
  obtain ⟨x, hx, hi⟩ := aT_some.mp h
  have hr : rowD w a.1 = x := by unfold rowD; rw [hx]; rfl
  exact ⟨(List.getElem?_eq_some_iff.mp hx).1, by rw [hr]; exact (List.getElem?_eq_some_iff.mp hi).1⟩
section
variable {w : Wb} {a a' f l : End}
theorem Tw2.at_ (T : Tw2 w a a' f l) {r i : Nat} : aT (crossX w a a' f l) r i = if (r, i) = a' then some f else if (r, i) = f then some a' else if (r, i) = l then some a else if (r, i) = a then some l else aT w r i := by
  have d1 := dw_of T.a1
  have d2 := dw_of T.a2
  have d3 := dw_of T.f1
  have d4 := dw_of T.f2
  unfold crossX
  rw [tieX_at (d1.tie d4 d3) (d1.tie d4 d2), tieX_at d1 d4]
theorem Tw2.len (T : Tw2 w a a' f l) : (crossX w a a' f l).length = w.length := by unfold crossX; rw [tieX_len, tieX_len]
theorem Tw2.rlen (T : Tw2 w a a' f l) {r : Nat} : (rowD (crossX w a a' f l) r).length = (rowD w r).length := by
  have d1 := dw_of T.a1
  have d2 := dw_of T.a2
  have d3 := dw_of T.f1
  have d4 := dw_of T.f2
  unfold crossX
  rw [tieX_rlen (d1.tie d4 d3) (d1.tie d4 d2), tieX_rlen d1 d4]
theorem Tw2.back (T : Tw2 w a a' f l) (B : Back w) : Back (crossX w a a' f l) := by
  intro r i s j h
  rw [T.at_] at h ⊢
  obtain ⟨n1, n2, n3, n4⟩ := T.ne
  have a1 := T.a1
  have a2 := T.a2
  have f1 := T.f1
  have f2 := T.f2
  by_cases q1 : (r, i) = a'
  · rw [if_pos q1] at h
    have e : f = (s, j) := Option.some.inj h
    rw [← e, if_neg (fun z => n3 z.symm), if_pos rfl, q1]
  · rw [if_neg q1] at h
    by_cases q2 : (r, i) = f
    · rw [if_pos q2] at h
      have e : a' = (s, j) := Option.some.inj h
      rw [← e, if_pos rfl, q2]
    · rw [if_neg q2] at h
      by_cases q3 : (r, i) = l
      · rw [if_pos q3] at h
        have e : a = (s, j) := Option.some.inj h
        have na : a ≠ a' := fun z => q2 (q3.trans (T.same.mp z).symm)
        rw [← e, if_neg na, if_neg n1, if_neg n2, if_pos rfl, q3]
      · rw [if_neg q3] at h
        by_cases q4 : (r, i) = a
        · rw [if_pos q4] at h
          have e : l = (s, j) := Option.some.inj h
          have nl : l ≠ f := fun z => q1 (q4.trans (T.same.mpr z.symm))
          rw [← e, if_neg (fun z => n4 z.symm), if_neg nl, if_pos rfl, q4]
        · rw [if_neg q4] at h
          have hb := B r i s j h
          have m1 : (s, j) ≠ a' := fun z => by
            have : aT w a'.1 a'.2 = some (r, i) := by rw [← z]; exact hb
            rw [a2] at this
            exact q4 (Option.some.inj this).symm
          have m2 : (s, j) ≠ f := fun z => by
            have : aT w f.1 f.2 = some (r, i) := by rw [← z]; exact hb
            rw [f1] at this
            exact q3 (Option.some.inj this).symm
          have m3 : (s, j) ≠ l := fun z => by
            have : aT w l.1 l.2 = some (r, i) := by rw [← z]; exact hb
            rw [f2] at this
            exact q2 (Option.some.inj this).symm
          have m4 : (s, j) ≠ a := fun z => by
            have : aT w a.1 a.2 = some (r, i) := by rw [← z]; exact hb
            rw [a1] at this
            exact q1 (Option.some.inj this).symm
          rw [if_neg m1, if_neg m2, if_neg m3, if_neg m4]
          exact hb
end
/-- what comes of crossing -/
def dueC (w : Wb) (a a' b b' : End) (ab : Nat) : Option Wb :=
  if (decide (a = a')) ≠ (decide (b = b')) then none
  else
    let m := if ab = 1 then crossX w a a' b' b else crossX w a a' b b'
    if (metL m 0).length = m.length then some m else none
def optW : Option Wb → D
  | some m => wD m
  | none => .non
/-- two unlike ties of the list -/
structure Tie2 (w : Wb) (a a' b b' : End) : Prop where
  a1 : aT w a.1 a.2 = some a'
  b1 : aT w b.1 b.2 = some b'
  la : leE a a'
  lb : leE b b'
  ne : a ≠ b
theorem Tie2.tw {w : Wb} {a a' b b' : End} (T : Tie2 w a a' b b') (B : Back w) (h : decide (a = a') = decide (b = b')) : Tw2 w a a' b b' ∧ Tw2 w a a' b' b := by
  have a2 : aT w a'.1 a'.2 = some a := B a.1 a.2 a'.1 a'.2 T.a1
  have b2 : aT w b'.1 b'.2 = some b := B b.1 b.2 b'.1 b'.2 T.b1
  have hs : a = a' ↔ b = b' := by
    rw [← decide_eq_true_iff (p := a = a'), ← decide_eq_true_iff (p := b = b'), h]
  have anti : ∀ x y : End, leE x y → leE y x → x = y := fun x y h1 h2 => by
    unfold leE at h1 h2
    exact Prod.ext (by omega) (by omega)
  have n2 : a ≠ b' := fun z => by
    have h1 := b2
    rw [← z, T.a1] at h1
    have h2 : a' = b := Option.some.inj h1
    have la := T.la
    have lb := T.lb
    rw [h2] at la
    rw [← z] at lb
    exact T.ne (anti _ _ la lb)
  have n3 : a' ≠ b := fun z => by
    have h1 := a2
    rw [z, T.b1] at h1
    exact n2 (Option.some.inj h1).symm
  have n4 : a' ≠ b' := fun z => by
    have h1 := a2
    rw [z, b2] at h1
    exact T.ne (Option.some.inj h1).symm
  exact ⟨⟨T.a1, a2, T.b1, b2, ⟨T.ne, n2, n3, n4⟩, hs⟩, ⟨T.a1, a2, b2, T.b1, ⟨n2, T.ne, n4, n3⟩, hs.trans ⟨Eq.symm, Eq.symm⟩⟩⟩
section
variable {S : Sto} {w : Wb} {a a' b b' : End} {ab : Nat}
theorem leads_ok {Q : D → Sto → Prop} (q : Q (.bl (decide (a = a'))) S) : Wp (g_leads_back [tD (a, a')] S) Q := by
  unfold g_leads_back
  refine (wp_fnD (by rfl)).mpr ?_
  unfold b_leads_back
  have e : tD (a, a') = .tup [eD a, eD a'] := rfl
  have s0 : ∀ (S : Sto) (Q : D → Sto → Prop), Wp (sbD (tD (a, a')) (.int 0) S) Q ↔ Q (eD a) S := fun S Q => sb_tup rfl
  have s1 : ∀ (S : Sto) (Q : D → Sto → Prop), Wp (sbD (tD (a, a')) (.int 1) S) Q ↔ Q (eD a') S := fun S Q => sb_tup rfl
  (simp! only [s0, s1, wq_eqE])
  exact q
theorem crossed_ok {Q : D → Sto → Prop} (B : Back w) (T : Tie2 w a a' b b') (hw : w.length ≤ 24) (h0 : 0 < w.length) (hd : ∀ (r : Nat) (x : List End), w[r]? = some x → x.length ≤ 6) (hab : ab ≤ 1)
    (q : ∀ S' : Sto, S.length ≤ S'.length → (∀ n, n < S.length → S'[n]? = S[n]?) → Q (optW (dueC w a a' b b' ab)) S') : Wp (g_web_crossed [wD w, tD (a, a'), tD (b, b'), nD ab] S) Q := by
  unfold g_web_crossed
  refine (wp_fnD (by rfl)).mpr ?_
  unfold b_web_crossed
  have en : ∀ y : Nat, nD y = D.int (y : Int) := fun _ => rfl
  (simp! only [])
  refine leads_ok ?_
  refine leads_ok ?_
  rw [wp_neB]
  refine ⟨_, rfl, ?_⟩
  by_cases hq : decide (a = a') = decide (b = b')
  · rw [if_neg (by simp [hq])]
    have s0 : ∀ (x y : End) (S : Sto) (Q : D → Sto → Prop), Wp (sbD (tD (x, y)) (.int 0) S) Q ↔ Q (eD x) S := fun x y S Q => sb_tup rfl
    have s1 : ∀ (x y : End) (S : Sto) (Q : D → Sto → Prop), Wp (sbD (tD (x, y)) (.int 1) S) Q ↔ Q (eD y) S := fun x y S Q => sb_tup rfl
    obtain ⟨T1, T2⟩ := T.tw B hq
    have key : ∀ (f l : End) (m : Wb), Tw2 w a a' f l → m = crossX w a a' f l → dueC w a a' b b' ab = (if (metL m 0).length = m.length then some m else none) → Wp (g_with_ties [wD w, .loc S.length] (S ++ [MO.lst [tD (a, l), tD (f, a')]])) fun d S1 => Wp (g_is_web [d] S1) fun d_1 S2 => ∃ b_1, d_1 = D.bl b_1 ∧ if b_1 = true then Q d S2 else Q .non S2 := by
      intro f l m T' em ed
      have hp : (S ++ [MO.lst [tD (a, l), tD (f, a')]])[S.length]? = some (.lst [tD (a, l), tD (f, a')]) := sto_new
      refine with_ties_ok hw hd hp (dw_of T'.a1) (dw_of T'.f2) (dw_of T'.f1) (dw_of T'.a2) fun S2 l2 f2 => ?_
      have em' : tieX (tieX w a l) f a' = m := em.symm
      rw [em']
      have hml : m.length = w.length := by rw [em]; exact T'.len
      refine is_web_ok (by omega) fun S3 c hc l3 f3 => ?_
      have hwp : WebP m ↔ (metL m 0).length = m.length := by
        constructor
        · exact fun h => h.2.2
        · intro h
          refine ⟨by omega, fun r _ d e he => ?_, h⟩
          have Bm := T'.back B
          rw [← em] at Bm
          exact rowD_at.mpr (Bm r d e.1 e.2 (rowD_at.mp he))
      refine ⟨c, rfl, ?_⟩
      have q' := q S3 (by simp at l2; omega) fun n hn => by rw [f3 n (by simp at l2; omega), f2 n (by simp; omega), sto_app hn]
      rw [ed] at q'
      by_cases hm : (metL m 0).length = m.length
      · rw [if_pos hm] at q'
        rw [if_pos (hc.mpr (hwp.mpr hm))]
        exact q'
      · rw [if_neg hm] at q'
        rw [if_neg (fun z => hm (hwp.mp (hc.mp z)))]
        exact q'
    have tt : ∀ x y : End, D.tup [eD x, eD y] = tD (x, y) := fun _ _ => rfl
    have z0 : nD 0 = D.int 0 := rfl
    have z1 : nD 1 = D.int 1 := rfl
    match ab, hab with
    | 0, _ =>
      rw [z0]
      have k := key b b' _ T1 rfl (by unfold dueC; rw [if_neg (by simp [hq])]; rfl)
      (simp! only [s0, s1, tt, Int.sub_zero])
      exact k
    | 1, _ =>
      rw [z1]
      have k := key b' b _ T2 rfl (by unfold dueC; rw [if_neg (by simp [hq])]; rfl)
      (simp! only [s0, s1, tt, Int.sub_self])
      exact k
  · rw [if_pos (by simp [hq])]
    have := q S (Nat.le_refl _) fun _ _ => rfl
    unfold dueC at this
    rw [if_pos hq] at this
    exact this
end
end SW
namespace SW
open PySem L2

/-! k53: the law's own crossing -/
def W53 : EvS := (seqS (stS 6 (aE lstD (consA (cE (.int 0)) nilA)))
  (seqS (stS 7 (cE (.int 0)))
  (seqS (whS (tB (b2E ltD (vE 7) (aE lenD (consA (vE 6) nilA)))) (seqS (forS (sqI (b2E sbD (vE 5) (b2E sbD (vE 6) (vE 7)))) (.tp [(.nm 10), (.nm 14)]) (ifS (tB (b2E notInD (vE 10) (vE 6))) (exS (mE appendM (vE 6) (consA (vE 10) nilA))) nxS))
  (stS 7 (b2E addD (vE 7) (cE (.int 1))))))
  (rtS (iteE (tB (b2E eqD (aE lenD (consA (vE 6) nilA)) (aE lenD (consA (vE 0) nilA)))) (vE 5) (cE .non))))))
def M53 : EvS := (seqS (stS 5 (aE tupleD (consA (lcE (rgI1 (aE lenD (consA (vE 0) nilA))) (.nm 10) yesT (aE tupleD (consA (lcE (rgI1 (aE lenD (consA (b2E sbD (vE 0) (vE 10)) nilA))) (.nm 14) yesT (b2E sbD (vE 4) (aE tupD (consA (vE 10) (consA (vE 14) nilA)))) [14]) nilA)) [10]) nilA)))
  W53)
def P53 : EvS := (seqS (forS (sqI (aE lstD (consA (aE tupD (consA (b2E sbD (vE 1) (cE (.int 0))) (consA (vE 9) nilA))) (consA (aE tupD (consA (vE 8) (consA (b2E sbD (vE 1) (cE (.int 1))) nilA))) nilA)))) (.tp [(.nm 12), (.nm 13)]) (seqS (asS (vE 13) (subG (vE 4) (vE 12)))
  (asS (vE 12) (subG (vE 4) (vE 13)))))
  M53)
def R53 : EvS := (seqS (stS 4 nT)
  (seqS (forS (enI (vE 0)) (.tp [(.nm 10), (.nm 11)]) (forS (enI (vE 11)) (.tp [(.nm 14), (.nm 15)]) (asS (vE 15) (subG (vE 4) (aE tupD (consA (vE 10) (consA (vE 14) nilA)))))))
  P53))
def B53 : EvS := (seqS (ifS (tB (b2E neD (b2E eqD (b2E sbD (vE 1) (cE (.int 0))) (b2E sbD (vE 1) (cE (.int 1)))) (b2E eqD (b2E sbD (vE 2) (cE (.int 0))) (b2E sbD (vE 2) (cE (.int 1)))))) (rtS (cE .non)) nxS)
  (seqS (asS (vE 2) (patG (.tp [(.nm 8), (.nm 9)])))
  (seqS (ifS (tB (b2E eqD (vE 3) (cE (.int 1)))) (parS 8 9 (consA (vE 9) (consA (vE 8) nilA))) nxS)
  R53)))
def T53 (w : Wb) (d1 d2 d3 : D) (o4 o5 o6 o7 o8 o9 o10 o11 o12 o13 o14 o15 : Option D) : Tau := [some (wD w), some d1, some d2, some d3, o4, o5, o6, o7, o8, o9, o10, o11, o12, o13, o14, o15]
def CtI (S0 : Sto) (w0 : Wb) (d1 d2 d3 : D) (o4 o8 o9 o11 o12 o13 o15 : Option D) (w : Wb) (a : Nat) (n : Nat) (τ : Tau) (S : Sto) : Prop := ∃ (xs : List Nat) (k : Nat) (o10 o14 : Option D), τ = T53 w0 d1 d2 d3 o4 (some (wD w)) (some (.loc S0.length)) (some (nD k)) o8 o9 o10 o11 o12 o13 o14 o15
  ∧ RcOk w a k xs ∧ k + n = w.length ∧ met w n k xs = metL w a ∧ S[S0.length]? = some (.lst (xs.map nD)) ∧ S.length = S0.length + 1 ∧ ∀ n, n < S0.length → S[n]? = S0[n]?
def CtJ (S0 : Sto) (w0 : Wb) (d1 d2 d3 : D) (o4 o8 o9 o11 o12 o13 o15 : Option D) (w : Wb) (a k r : Nat) (xs : List Nat) (x : List End) (i : Nat) (τ : Tau) (S : Sto) : Prop := ∃ (ys : List Nat) (o10 o14 : Option D), τ = T53 w0 d1 d2 d3 o4 (some (wD w)) (some (.loc S0.length)) (some (nD k)) o8 o9 o10 o11 o12 o13 o14 o15
  ∧ RcOk w a k ys ∧ ys[k]? = some r ∧ ys = metRow xs (x.take i) ∧ (∀ i' e, i' < i → aT w r i' = some e → e.1 ∈ ys) ∧ S[S0.length]? = some (.lst (ys.map nD)) ∧ S.length = S0.length + 1 ∧ ∀ n, n < S0.length → S[n]? = S0[n]?
section
variable {w0 m : Wb} {d1 d2 d3 : D} {o4 o6 o7 o8 o9 o10 o11 o12 o13 o14 o15 : Option D}
theorem w53_ok {S : Sto} {Q : D → Sto → Prop} (hc : Closed m) (ha : 0 < m.length) (hw : m.length ≤ 24) (hl0 : w0.length = m.length)
    (q : ∀ S' : Sto, S.length ≤ S'.length → (∀ n, n < S.length → S'[n]? = S[n]?) → Q (if (metL m 0).length = m.length then wD m else .non) S') :
    Wp (W53 (T53 w0 d1 d2 d3 o4 (some (wD m)) o6 o7 o8 o9 o10 o11 o12 o13 o14 o15) S) fun o S1 => match o with | .rt d => Q d S1 | .nx _ => Q .non S1 | _ => False := by
  unfold W53 T53
  (simp! only [])
  refine wp_while (CtI S w0 d1 d2 d3 o4 o8 o9 o11 o12 o13 o15 m 0) m.length (by omega) ⟨[0], 0, _, _, rfl, ⟨by simp, by simpa using ha, by simp; exact .refl, by simp, fun i _ _ hi => by omega⟩, by omega, rfl, sto_new, by simp, fun n hn => sto_app hn⟩ ?_
  rintro n τ S1 ⟨xs, k, o10, o14, rfl, R, hkn, hmet, hx, hl, hf⟩
  have hxl := nodup_le R.nd R.lt
  unfold T53
  (simp! only [len_loc hx, List.length_map, nD])
  by_cases hk : k < xs.length
  · rw [if_pos (by omega)]
    have hr : xs[k]? = some xs[k] := List.getElem?_eq_getElem hk
    generalize xs[k] = r at hr
    have hrl := R.lt r (List.mem_of_getElem? hr)
    have hat : atI (xs.map nD) (k : Int) = some (nD r) := atI_of (by rw [List.getElem?_map, hr]; rfl)
    have hrow : m[r]? = some m[r] := List.getElem?_eq_getElem hrl
    generalize m[r] = x at hrow
    (simp! only [wq_sbL hx])
    refine ⟨_, hat, ?_⟩
    unfold nD
    rw [wq_row hrow]
    refine ⟨_, rfl, ?_⟩
    have hJ0 : CtJ S w0 d1 d2 d3 o4 o8 o9 o11 o12 o13 o15 m 0 k r xs x 0 [some (wD w0), some d1, some d2, some d3, o4, some (wD m), some (.loc S.length), some (nD k), o8, o9, o10, o11, o12, o13, o14, o15] S1 := ⟨xs, _, _, rfl, R, hr, rfl, fun i' e h => by omega, hx, hl, hf⟩
    refine lo_fixed (x.map eD) (CtJ S w0 d1 d2 d3 o4 o8 o9 o11 o12 o13 o15 m 0 k r xs x) hJ0 ?_ ?_
    · rintro i d τ S2 hd ⟨ys, o10, o14, rfl, R, hr, hys, hdn, hx, hl, hf⟩
      rw [List.getElem?_map] at hd
      obtain ⟨e, he, rfl⟩ := Option.map_eq_some_iff.mp hd
      have hat : aT m r i = some e := aT_some.mpr ⟨x, hrow, he⟩
      have hes := hc r i e.1 e.2 hat
      have hst := metRow_take (xs := xs) he
      rw [← hys] at hst
      unfold metStep at hst
      unfold eD T53
      (simp! only [wq_notIn hx])
      have hstep : ∀ zs : List Nat, (∀ y ∈ ys, y ∈ zs) → e.1 ∈ zs → ∀ i' e', i' < i + 1 → aT m r i' = some e' → e'.1 ∈ zs := fun zs h1 h2 i' e' hi' ha' => by
        by_cases z : i' = i
        · subst z; rw [hat] at ha'; cases ha'; exact h2
        · exact h1 _ (hdn i' e' (by omega) ha')
      by_cases hm : e.1 ∈ ys
      · rw [if_pos hm] at hst
        simp only [hm, decide_true, Bool.not_true, Bool.false_eq_true, if_false]
        exact ⟨ys, _, _, rfl, R, hr, hst.symm, hstep ys (fun _ h => h) hm, hx, hl, hf⟩
      · rw [if_neg hm] at hst
        simp only [hm, decide_false, Bool.not_false, if_true]
        have hxl := nodup_le R.nd R.lt
        (simp! only [isLst_loc hx, wq_append hx, List.length_map])
        refine ⟨by omega, ys ++ [e.1], _, _, rfl, ⟨?_, ?_, ?_, ?_, ?_⟩, ?_, hst.symm, hstep _ (fun y h => List.mem_append_left _ h) (by simp), ?_, by simpa using hl, fun n hn => by rw [sto_ne (by omega)]; exact hf n hn⟩
        · rw [List.nodup_append]
          refine ⟨R.nd, by simp, fun y hy z hz e => ?_⟩
          simp at hz
          subst hz; subst e
          exact hm hy
        · intro y hy
          rcases List.mem_append.mp hy with hy | hy
          · exact R.lt y hy
          · simp at hy; subst hy; exact hes
        · intro y hy
          rcases List.mem_append.mp hy with hy | hy
          · exact R.rch y hy
          · simp at hy; subst hy; exact .step (R.rch r (List.mem_of_getElem? hr)) ⟨i, e.2, hat⟩
        · exact List.mem_append_left _ R.one
        · intro i' y s hi' hy hadj
          have hkl : k < ys.length := (List.getElem?_eq_some_iff.mp hr).1
          rw [List.getElem?_append_left (by omega)] at hy
          exact List.mem_append_left _ (R.done i' y s hi' hy hadj)
        · rw [List.getElem?_append_left (List.getElem?_eq_some_iff.mp hr).1]; exact hr
        · rw [sto_set hx, List.map_append]; rfl
    · rintro τ S2 ⟨ys, o10, o14, rfl, R, hr', hys, hdn, hx, hl, hf⟩
      rw [List.length_map] at hdn hys
      rw [List.take_length] at hys
      rw [cont_nx]
      have ek : ((k : Int) + 1) = ((k + 1 : Nat) : Int) := by omega
      unfold T53 nD
      (simp! only [ek])
      have hn : n = (n - 1) + 1 := by omega
      refine ⟨n - 1, by omega, ys, k + 1, o10, o14, rfl, ⟨R.nd, R.lt, R.rch, R.one, ?_⟩, by omega, ?_, hx, hl, hf⟩
      · intro i y s hi hy hadj
        by_cases z : i = k
        · subst z
          rw [hr'] at hy; cases hy
          obtain ⟨i', j, h⟩ := hadj
          refine hdn i' _ ?_ h
          obtain ⟨x', hx', hi'⟩ := aT_some.mp h
          rw [hrow] at hx'; cases hx'
          exact (List.getElem?_eq_some_iff.mp hi').1
        · exact R.done i y s (by omega) hy hadj
      · rw [← hmet]
        conv => rhs; rw [hn]
        simp only [met, hr, hrow, Option.getD_some]
        rw [← hys]
  · rw [if_neg (by omega)]
    rw [met_done (by omega)] at hmet
    subst hmet
    have q' := q S1 (by omega) hf
    (simp! only [len_loc hx, List.length_map, len_w, wp_eqI])
    by_cases hm : (metL m 0).length = m.length
    · rw [if_pos hm] at q'
      rw [if_pos (by rw [hl0]; omega)]
      exact q'
    · rw [if_neg hm] at q'
      rw [if_neg (by rw [hl0]; omega)]
      exact q'
end
end SW
namespace SW
open PySem L2

/-! k53: the law's own crossing, the dict of ends -/
/-- the dict tells the ends of the web -/
def Ends (ds : List (List Key × D)) (w : Wb) : Prop := ∀ r i e, aT w r i = some e → lk ds (kE (r, i)) = some (eD e)
def Mz1 (S0 : Sto) (m : Wb) (i : Nat) (acc : List D) (S : Sto) : Prop := acc = (m.take i).map rD ∧ S0.length ≤ S.length ∧ ∀ n, n < S0.length → S[n]? = S0[n]?
def Mz2 (S0 : Sto) (m : Wb) (r : Nat) (i : Nat) (acc : List D) (S : Sto) : Prop := acc = ((rowD m r).take i).map eD ∧ S0.length ≤ S.length ∧ ∀ n, n < S0.length → S[n]? = S0[n]?
section
variable {w0 m : Wb} {a a' f l : End} {d2 d3 : D} {o4 o5 o6 o7 o8 o9 o10 o11 o12 o13 o14 o15 : Option D}
theorem m53_ok {S : Sto} {n : Nat} {ds : List (List Key × D)} {d1 : D} {Q : D → Sto → Prop} (hds : S[n]? = some (.dT ds)) (E : Ends ds m) (hc : Closed m) (ha : 0 < m.length) (hw : m.length ≤ 24) (hd : ∀ (r : Nat) (x : List End), w0[r]? = some x → x.length ≤ 6) (hl0 : w0.length = m.length) (hr0 : ∀ r, (rowD m r).length = (rowD w0 r).length)
    (q : ∀ S' : Sto, S.length ≤ S'.length → (∀ n, n < S.length → S'[n]? = S[n]?) → Q (if (metL m 0).length = m.length then wD m else .non) S') :
    Wp (M53 (T53 w0 d1 d2 d3 (some (.loc n)) o5 o6 o7 o8 o9 o10 o11 o12 o13 o14 o15) S) fun o S1 => match o with | .rt d => Q d S1 | .nx _ => Q .non S1 | _ => False := by
  unfold M53 T53
  have hn := sto_lt hds
  (simp! only [len_w])
  refine ⟨by simp [big62]; omega, ?_⟩
  rw [Int.toNat_natCast]
  refine lc_rng 0 w0.length (by omega) (Mz1 S m) ⟨rfl, Nat.le_refl _, fun _ _ => rfl⟩ ?_ ?_
  · rintro i acc S1 hi ⟨rfl, l1, f1⟩
    have e0 : ((0 : Int) + (i : Int)) = (i : Int) := by omega
    rw [e0]
    refine ⟨_, pb_nm, ?_⟩
    have hx := row_at (w := w0) (x := i) hi
    have hx6 := hd _ _ hx
    (simp! only [wq_row hx, len_row])
    refine ⟨by simp [big62]; omega, ?_⟩
    rw [Int.toNat_natCast]
    refine lc_rng 0 (rowD w0 i).length (by omega) (Mz2 S m i) ⟨rfl, l1, f1⟩ ?_ ?_
    · rintro j acc S2 hj ⟨rfl, l2, f2⟩
      have e0 : ((0 : Int) + (j : Int)) = (j : Int) := by omega
      rw [e0]
      refine ⟨_, pb_nm, ?_⟩
      have hjm : j < (rowD m i).length := by rw [hr0]; exact hj
      have he : (rowD m i)[j]? = some (rowD m i)[j] := List.getElem?_eq_getElem hjm
      generalize (rowD m i)[j] = e at he
      have hlk := E i j e (rowD_at.mp he)
      have h2 := (f2 n hn).trans hds
      (simp! only [])
      have dg : ∀ Q : D → Sto → Prop, Wp (sbD (.loc n) (.tup [.int (i : Int), .int (j : Int)]) S2) Q ↔ ∃ d, lk ds (kE (i, j)) = some d ∧ Q d S2 := fun Q => wq_dgT h2
      rw [dg]
      refine ⟨_, hlk, ?_, l2, f2⟩
      rw [List.take_add_one, he, List.map_append]; rfl
    · rintro acc S2 ⟨rfl, l2, f2⟩
      have e5 : (S2 ++ [MO.lst (((rowD m i).take (rowD w0 i).length).map eD)])[S2.length]? = some (.lst (((rowD m i).take (rowD w0 i).length).map eD)) := sto_new
      (simp! only [wq_tupleL e5])
      rw [← hr0, List.take_length]
      refine ⟨?_, by simp; omega, fun k hk => by rw [sto_app (by omega)]; exact f2 k hk⟩
      have hm := row_at (w := m) (x := i) (by omega)
      rw [List.take_add_one, hm, List.map_append]; rfl
  · rintro acc S1 ⟨rfl, l1, f1⟩
    have e5 : (S1 ++ [MO.lst ((m.take w0.length).map rD)])[S1.length]? = some (.lst ((m.take w0.length).map rD)) := sto_new
    (simp! only [wq_tupleL e5])
    rw [hl0, List.take_length]
    show Wp (W53 (T53 w0 d1 d2 d3 (some (.loc n)) (some (wD m)) o6 o7 o8 o9 o10 o11 o12 o13 o14 o15) _) _
    refine w53_ok hc ha hw hl0 fun S2 l2 f2 => ?_
    refine q S2 (by simp at l2; omega) fun k hk => by rw [f2 k (by simp; omega), sto_app (by omega)]; exact f1 k hk
theorem Ends.tie {ds : List (List Key × D)} {w : Wb} {x y : End} (E : Ends ds w) (hx : Dw w x) (hy : Dw w y) : Ends (ptK (ptK ds (kE x) (eD y)) (kE y) (eD x)) (tieX w x y) := by
  intro r i e h
  rw [tieX_at hx hy] at h
  rw [lk_pt]
  by_cases q1 : (r, i) = y
  · rw [if_pos q1] at h
    cases h
    rw [if_pos (by rw [q1])]
  · rw [if_neg q1] at h
    rw [if_neg (fun z => q1 (kE_inj z)), lk_pt]
    by_cases q2 : (r, i) = x
    · rw [if_pos q2] at h
      cases h
      rw [if_pos (by rw [q2])]
    · rw [if_neg q2] at h
      rw [if_neg (fun z => q2 (kE_inj z))]
      exact E r i e h
def Pz (S0 : Sto) (n p : Nat) (w0 : Wb) (d1 d2 d3 : D) (o5 o6 o7 o8 o9 o10 o11 o14 o15 : Option D) (ps : List D) (ws : List Wb) (i : Nat) (τ : Tau) (S : Sto) : Prop := ∃ (ds : List (List Key × D)) (v : Wb) (o12 o13 : Option D), τ = T53 w0 d1 d2 d3 (some (.loc n)) o5 o6 o7 o8 o9 o10 o11 o12 o13 o14 o15 ∧ ws[i]? = some v ∧ Ends ds v ∧ ds.length ≤ 200 + 2 * i ∧ S[n]? = some (.dT ds) ∧ S[p]? = some (.lst ps) ∧ S0.length ≤ S.length ∧ ∀ k, k < S0.length → k ≠ n → S[k]? = S0[k]?
theorem p53_ok {S S0 : Sto} {ds : List (List Key × D)} {Q : D → Sto → Prop} (hds : S[S0.length]? = some (.dT ds)) (hf0 : S0.length ≤ S.length) (f0 : ∀ k, k < S0.length → S[k]? = S0[k]?) (E : Ends ds w0) (hdl : ds.length ≤ 200) (B : Back w0) (T : Tw2 w0 a a' f l) (ha : 0 < w0.length) (hw : w0.length ≤ 24) (hd : ∀ (r : Nat) (x : List End), w0[r]? = some x → x.length ≤ 6)
    (q : ∀ S' : Sto, S0.length ≤ S'.length → (∀ n, n < S0.length → S'[n]? = S0[n]?) → Q (if (metL (crossX w0 a a' f l) 0).length = (crossX w0 a a' f l).length then wD (crossX w0 a a' f l) else .non) S') :
    Wp (P53 (T53 w0 (tD (a, a')) d2 d3 (some (.loc S0.length)) o5 o6 o7 (some (eD f)) (some (eD l)) o10 o11 o12 o13 o14 o15) S) fun o S1 => match o with | .rt d => Q d S1 | .nx _ => Q .non S1 | _ => False := by
  unfold P53 T53
  have s0 : ∀ (x y : End) (S : Sto) (Q : D → Sto → Prop), Wp (sbD (tD (x, y)) (.int 0) S) Q ↔ Q (eD x) S := fun x y S Q => sb_tup rfl
  have s1 : ∀ (x y : End) (S : Sto) (Q : D → Sto → Prop), Wp (sbD (tD (x, y)) (.int 1) S) Q ↔ Q (eD y) S := fun x y S Q => sb_tup rfl
  have tt : ∀ x y : End, D.tup [eD x, eD y] = tD (x, y) := fun _ _ => rfl
  have hn := sto_lt hds
  (simp! only [s0, s1, tt])
  have hp : (S ++ [MO.lst [tD (a, l), tD (f, a')]])[S.length]? = some (.lst [tD (a, l), tD (f, a')]) := sto_new
  have h2 : (S ++ [MO.lst [tD (a, l), tD (f, a')]])[S0.length]? = some (.dT ds) := by rw [sto_app hn]; exact hds
  have f2 : ∀ k, k < S0.length → (S ++ [MO.lst [tD (a, l), tD (f, a')]])[k]? = S0[k]? := fun k hk => by rw [sto_app (by omega)]; exact f0 k hk
  have l2 : S0.length ≤ (S ++ [MO.lst [tD (a, l), tD (f, a')]]).length := by simp; omega
  have hpn : S.length ≠ S0.length := by omega
  generalize S ++ [MO.lst [tD (a, l), tD (f, a')]] = S2 at hp h2 f2 l2 ⊢
  generalize S.length = p at hp hpn ⊢
  refine ⟨_, src_loc hp, ?_⟩
  have x1 := dw_of T.a1
  have x2 := dw_of T.a2
  have x3 := dw_of T.f1
  have x4 := dw_of T.f2
  refine lo_live p _ (Pz S0 S0.length p w0 (tD (a, a')) d2 d3 o5 o6 o7 (some (eD f)) (some (eD l)) o10 o11 o14 o15 [tD (a, l), tD (f, a')] [w0, tieX w0 a l, crossX w0 a a' f l]) ⟨ds, w0, _, _, rfl, rfl, E, by omega, h2, hp, l2, fun k hk _ => f2 k hk⟩ (fun i τ S' ⟨_, _, _, _, _, _, _, _, _, g, _⟩ => g) ?_ ?_
  · have step : ∀ (v : Wb) (x y : End) (ds : List (List Key × D)) (o12 o13 : Option D) (S3 : Sto) (R : Out → Sto → Prop), Ends ds v → Dw v x → Dw v y → ds.length ≤ 1000 → S3[S0.length]? = some (.dT ds) → (∀ (S4 : Sto) (ds' : List (List Key × D)) (o12 o13 : Option D), Ends ds' (tieX v x y) → ds'.length ≤ ds.length + 2 → S4[S0.length]? = some (.dT ds') → S4.length = S3.length → (∀ k, k ≠ S0.length → S4[k]? = S3[k]?) → R (.nx (T53 w0 (tD (a, a')) d2 d3 (some (.loc S0.length)) o5 o6 o7 (some (eD f)) (some (eD l)) o10 o11 o12 o13 o14 o15)) S4) → Wp ((seqS (asS (vE 13) (subG (vE 4) (vE 12))) (asS (vE 12) (subG (vE 4) (vE 13)))) (T53 w0 (tD (a, a')) d2 d3 (some (.loc S0.length)) o5 o6 o7 (some (eD f)) (some (eD l)) o10 o11 (some (eD x)) (some (eD y)) o14 o15) S3) R := by
      intro v x y ds o12 o13 S3 R E3 hx hy hl h3 k
      have st1 : stD (.loc S0.length) (eD x) (eD y) S3 = some (S3.set S0.length (.dT (ptK ds (kE x) (eD y)))) := stD_T h3 (by omega)
      have h4 : (S3.set S0.length (.dT (ptK ds (kE x) (eD y))))[S0.length]? = some (.dT (ptK ds (kE x) (eD y))) := sto_set h3
      have p1 := pt_len ds (kE x) (eD y)
      have st2 : stD (.loc S0.length) (eD y) (eD x) (S3.set S0.length (.dT (ptK ds (kE x) (eD y)))) = some ((S3.set S0.length (.dT (ptK ds (kE x) (eD y)))).set S0.length (.dT (ptK (ptK ds (kE x) (eD y)) (kE y) (eD x)))) := stD_T h4 (by omega)
      have p2 := pt_len (ptK ds (kE x) (eD y)) (kE y) (eD x)
      unfold T53
      (simp! only [st1, st2])
      exact k _ _ _ _ (E3.tie hx hy) (by omega) (sto_set h4) (by simp) fun j hj => by rw [sto_ne (Ne.symm hj), sto_ne (Ne.symm hj)]
    rintro i d τ S3 hdd ⟨ds3, v, o12, o13, rfl, hv, E3, l3, h3, hp3, ll3, f3⟩
    match i, hdd, hv with
    | 0, hdd, hv =>
      cases hdd; cases hv
      refine ⟨_, rfl, ?_⟩
      refine step w0 a l ds3 none none S3 _ E3 x1 x4 (by omega) h3 fun S4 ds' o12 o13 E4 l4 h4 ll4 f4 => ?_
      exact ⟨ds', _, _, _, rfl, rfl, E4, by omega, h4, (f4 _ hpn).trans hp3, by omega, fun k hk hkn => (f4 k hkn).trans (f3 k hk hkn)⟩
    | 1, hdd, hv =>
      cases hdd; cases hv
      refine ⟨_, rfl, ?_⟩
      refine step _ f a' ds3 none none S3 _ E3 (x1.tie x4 x3) (x1.tie x4 x2) (by omega) h3 fun S4 ds' o12 o13 E4 l4 h4 ll4 f4 => ?_
      exact ⟨ds', _, _, _, rfl, rfl, E4, by omega, h4, (f4 _ hpn).trans hp3, by omega, fun k hk hkn => (f4 k hkn).trans (f3 k hk hkn)⟩
    | i + 2, hdd, _ => simp at hdd
  · rintro τ S3 ⟨ds3, v, o12, o13, rfl, hv, E3, l3, h3, hp3, ll3, f3⟩
    cases hv
    have Bm := T.back B
    refine m53_ok h3 E3 (fun r i s j h => (dw_of (a := (s, j)) (Bm r i s j h)).1) (by rw [T.len]; exact ha) (by rw [T.len]; exact hw) hd T.len.symm (fun r => T.rlen) fun S4 l4 f4 => ?_
    exact q S4 (by omega) fun k hk => by rw [f4 k (by omega)]; exact f3 k hk (by omega)
def PartE (ds : List (List Key × D)) (w : Wb) (r i : Nat) : Prop := ∀ r' i' e, (r' < r ∨ (r' = r ∧ i' < i)) → aT w r' i' = some e → lk ds (kE (r', i')) = some (eD e)
theorem PartE.put {ds : List (List Key × D)} {w : Wb} {r i : Nat} {e : End} (h : PartE ds w r i) (he : aT w r i = some e) : PartE (ptK ds (kE (r, i)) (eD e)) w r (i + 1) := by
  intro r' i' e' hlt h'
  rw [lk_pt]
  by_cases q : (r', i') = (r, i)
  · rw [if_pos (by rw [q])]
    cases q
    rw [he] at h'; cases h'
    rfl
  · rw [if_neg (fun z => q (kE_inj z))]
    refine h r' i' e' ?_ h'
    rcases hlt with z | ⟨z, y⟩
    · exact .inl z
    · refine .inr ⟨z, ?_⟩
      have : i' ≠ i := fun z2 => q (by rw [z, z2])
      omega
def Rz1 (S0 : Sto) (w0 : Wb) (d1 d2 d3 : D) (o5 o6 o7 o8 o9 o12 o13 : Option D) (i : Nat) (τ : Tau) (S : Sto) : Prop := ∃ (ds : List (List Key × D)) (o10 o11 o14 o15 : Option D), τ = T53 w0 d1 d2 d3 (some (.loc S0.length)) o5 o6 o7 o8 o9 o10 o11 o12 o13 o14 o15 ∧ PartE ds w0 i 0 ∧ ds.length ≤ i * 6 ∧ S[S0.length]? = some (.dT ds) ∧ S0.length ≤ S.length ∧ ∀ n, n < S0.length → S[n]? = S0[n]?
def Rz2 (S0 : Sto) (w0 : Wb) (d1 d2 d3 : D) (o5 o6 o7 o8 o9 o12 o13 : Option D) (r : Nat) (x : List End) (i : Nat) (τ : Tau) (S : Sto) : Prop := ∃ (ds : List (List Key × D)) (o14 o15 : Option D), τ = T53 w0 d1 d2 d3 (some (.loc S0.length)) o5 o6 o7 o8 o9 (some (nD r)) (some (rD x)) o12 o13 o14 o15 ∧ PartE ds w0 r i ∧ ds.length ≤ r * 6 + i ∧ S[S0.length]? = some (.dT ds) ∧ S0.length ≤ S.length ∧ ∀ n, n < S0.length → S[n]? = S0[n]?
theorem r53_ok {S : Sto} {Q : D → Sto → Prop} (B : Back w0) (T : Tw2 w0 a a' f l) (ha : 0 < w0.length) (hw : w0.length ≤ 24) (hd : ∀ (r : Nat) (x : List End), w0[r]? = some x → x.length ≤ 6)
    (q : ∀ S' : Sto, S.length ≤ S'.length → (∀ n, n < S.length → S'[n]? = S[n]?) → Q (if (metL (crossX w0 a a' f l) 0).length = (crossX w0 a a' f l).length then wD (crossX w0 a a' f l) else .non) S') :
    Wp (R53 (T53 w0 (tD (a, a')) d2 d3 o4 o5 o6 o7 (some (eD f)) (some (eD l)) o10 o11 o12 o13 o14 o15) S) fun o S1 => match o with | .rt d => Q d S1 | .nx _ => Q .non S1 | _ => False := by
  unfold R53 T53
  (simp! only [srcE_W])
  refine lo_enT (w0.map rD) (Rz1 S w0 (tD (a, a')) d2 d3 o5 o6 o7 (some (eD f)) (some (eD l)) o12 o13) ⟨[], _, _, _, _, rfl, fun r' i' e h _ => by omega, by simp, sto_new, by simp, fun n hn => sto_app hn⟩ ?_ ?_
  · rintro r d τ S1 hdr ⟨ds, o10, o11, o14, o15, rfl, E, hl, he, hsl, hf⟩
    rw [List.getElem?_map] at hdr
    obtain ⟨x, hx, rfl⟩ := Option.map_eq_some_iff.mp hdr
    have hr : r < w0.length := (List.getElem?_eq_some_iff.mp hx).1
    have hxl := hd r x hx
    unfold T53
    (simp! only [srcE_R])
    refine lo_enT (x.map eD) (Rz2 S w0 (tD (a, a')) d2 d3 o5 o6 o7 (some (eD f)) (some (eD l)) o12 o13 r x) ⟨ds, _, _, rfl, E, by omega, he, hsl, hf⟩ ?_ ?_
    · rintro i dd τ S2 hdd ⟨ds, o14, o15, rfl, E, hl, he, hsl, hf⟩
      rw [List.getElem?_map] at hdd
      obtain ⟨e, hq, rfl⟩ := Option.map_eq_some_iff.mp hdd
      have hdl : i < x.length := (List.getElem?_eq_some_iff.mp hq).1
      have hat : aT w0 r i = some e := aT_some.mpr ⟨x, hx, hq⟩
      have st1 : stD (.loc S.length) (.tup [.int (r : Int), .int (i : Int)]) (eD e) S2 = some (S2.set S.length (.dT (ptK ds (kE (r, i)) (eD e)))) := stD_T he (by omega)
      have p1 := pt_len ds (kE (r, i)) (eD e)
      unfold T53 nD
      (simp! only [st1])
      exact ⟨_, _, _, rfl, E.put hat, by omega, sto_set he, by simpa using hsl, fun n hn => by rw [sto_ne (by omega)]; exact hf n hn⟩
    · rintro τ S2 ⟨ds, o14, o15, rfl, E, hl, he, hsl, hf⟩
      rw [List.length_map] at E hl
      unfold T53
      (simp! only [])
      refine ⟨ds, _, _, _, _, rfl, ?_, by omega, he, hsl, hf⟩
      rintro r' i' e (z | z) h
      · by_cases hr' : r' < r
        · exact E r' i' e (.inl hr') h
        · have : r' = r := by omega
          subst this
          obtain ⟨y, hy, hi⟩ := aT_some.mp h
          rw [hx] at hy; cases hy
          exact E r' i' e (.inr ⟨rfl, (List.getElem?_eq_some_iff.mp hi).1⟩) h
      · omega
  · rintro τ S1 ⟨ds, o10, o11, o14, o15, rfl, E, hl, he, hsl, hf⟩
    rw [List.length_map] at E hl
    rw [cont_nx]
    refine p53_ok he hsl hf (fun r i e h => ?_) (by omega) B T ha hw hd q
    obtain ⟨y, hy, _⟩ := aT_some.mp h
    exact E r i e (.inl (List.getElem?_eq_some_iff.mp hy).1) h
end
/-- the law's own crossing comes to the same -/
theorem l_crossed_ok {S : Sto} {w : Wb} {a a' b b' : End} {ab : Nat} {Q : D → Sto → Prop} (B : Back w) (T : Tie2 w a a' b b') (hw : w.length ≤ 24) (h0 : 0 < w.length) (hd : ∀ (r : Nat) (x : List End), w[r]? = some x → x.length ≤ 6) (hab : ab ≤ 1)
    (q : ∀ S' : Sto, S.length ≤ S'.length → (∀ n, n < S.length → S'[n]? = S[n]?) → Q (optW (dueC w a a' b b' ab)) S') : Wp (g_l_crossed [wD w, tD (a, a'), tD (b, b'), nD ab] S) Q := by
  unfold g_l_crossed
  refine (wp_fnD (by rfl)).mpr ?_
  show Wp (B53 _ _) _
  unfold B53
  have s0 : ∀ (x y : End) (S : Sto) (Q : D → Sto → Prop), Wp (sbD (tD (x, y)) (.int 0) S) Q ↔ Q (eD x) S := fun x y S Q => sb_tup rfl
  have s1 : ∀ (x y : End) (S : Sto) (Q : D → Sto → Prop), Wp (sbD (tD (x, y)) (.int 1) S) Q ↔ Q (eD y) S := fun x y S Q => sb_tup rfl
  have et : tD (b, b') = .tup [eD b, eD b'] := rfl
  by_cases hq : decide (a = a') = decide (b = b')
  · obtain ⟨T1, T2⟩ := T.tw B hq
    have z0 : nD 0 = D.int 0 := rfl
    have z1 : nD 1 = D.int 1 := rfl
    match ab, hab with
    | 0, _ =>
      rw [z0]
      have q2 : ∀ S' : Sto, S.length ≤ S'.length → (∀ n, n < S.length → S'[n]? = S[n]?) → Q (if (metL (crossX w a a' b b') 0).length = (crossX w a a' b b').length then wD (crossX w a a' b b') else .non) S' := fun S' l' f' => by
        have := q S' l' f'
        unfold dueC at this
        rw [if_neg (by simp [hq])] at this
        simp only [Nat.zero_ne_one, if_false] at this
        by_cases hm : (metL (crossX w a a' b b') 0).length = (crossX w a a' b b').length
        · rw [if_pos hm] at this ⊢
          exact this
        · rw [if_neg hm] at this ⊢
          exact this
      (simp! only [s0, s1, wq_eqE, wp_neB, wp_eqI])
      rw [if_neg (by simp [hq])]
      refine ⟨_, rfl, _, rfl, ?_⟩
      rw [wp_eqI]
      refine ⟨_, rfl, ?_⟩
      rw [if_neg (by decide)]
      exact r53_ok B T1 h0 hw hd q2
    | 1, _ =>
      rw [z1]
      have q2 : ∀ S' : Sto, S.length ≤ S'.length → (∀ n, n < S.length → S'[n]? = S[n]?) → Q (if (metL (crossX w a a' b' b) 0).length = (crossX w a a' b' b).length then wD (crossX w a a' b' b) else .non) S' := fun S' l' f' => by
        have := q S' l' f'
        unfold dueC at this
        rw [if_neg (by simp [hq])] at this
        simp only [if_true] at this
        by_cases hm : (metL (crossX w a a' b' b) 0).length = (crossX w a a' b' b).length
        · rw [if_pos hm] at this ⊢
          exact this
        · rw [if_neg hm] at this ⊢
          exact this
      (simp! only [s0, s1, wq_eqE, wp_neB, wp_eqI])
      rw [if_neg (by simp [hq])]
      refine ⟨_, rfl, _, rfl, ?_⟩
      rw [wp_eqI]
      refine ⟨_, rfl, ?_⟩
      rw [if_pos (by decide)]
      refine ⟨_, rfl, _, rfl, _, _, ⟨rfl, rfl⟩, ?_⟩
      exact r53_ok B T2 h0 hw hd q2
  · (simp! only [s0, s1, wq_eqE, wp_neB, wp_eqI])
    rw [if_pos (by simp [hq])]
    have := q S (Nat.le_refl _) fun _ _ => rfl
    unfold dueC at this
    rw [if_pos hq] at this
    exact this
end SW
namespace SW
open PySem L2

section
variable {S : Sto} {w : Wb}
theorem due_len {a a' b b' : End} {ab : Nat} {m : Wb} (B : Back w) (T : Tie2 w a a' b b') (h : dueC w a a' b b' ab = some m) : m.length = w.length ∧ ∀ r, (rowD m r).length = (rowD w r).length := by
  unfold dueC at h
  by_cases hq : decide (a = a') = decide (b = b')
  · rw [if_neg (by simp [hq])] at h
    obtain ⟨T1, T2⟩ := T.tw B hq
    by_cases h1 : ab = 1
    · simp only [h1, if_true] at h
      by_cases hm : (metL (crossX w a a' b' b) 0).length = (crossX w a a' b' b).length
      · rw [if_pos hm] at h
        cases h
        exact ⟨T2.len, fun r => T2.rlen⟩
      · rw [if_neg hm] at h
        cases h
    · simp only [h1, if_false] at h
      by_cases hm : (metL (crossX w a a' b b') 0).length = (crossX w a a' b b').length
      · rw [if_pos hm] at h
        cases h
        exact ⟨T1.len, fun r => T1.rlen⟩
      · rw [if_neg hm] at h
        cases h
  · rw [if_pos hq] at h
    cases h
end
end SW
namespace SW
open PySem L2

/-! how many ties the drawn webs have -/
def ltE (a b : End) : Prop := a.1 < b.1 ∨ (a.1 = b.1 ∧ a.2 < b.2)
theorem tieAt_some {w : Wb} {r d : Nat} {t : End × End} (h : tieAt w r d = some t) : t.1 = (r, d) ∧ aT w r d = some t.2 ∧ leE (r, d) t.2 := by
  unfold tieAt at h
  obtain ⟨q, h1, h2⟩ := Option.bind_eq_some_iff.mp h
  split at h2
  · cases h2; exact ⟨rfl, h1, by assumption⟩
  · cases h2
theorem endsRow_mem {w : Wb} {r n : Nat} {t : End × End} (h : t ∈ endsRow w r n) : t.1.1 = r ∧ aT w t.1.1 t.1.2 = some t.2 ∧ leE t.1 t.2 := by
  unfold endsRow at h
  obtain ⟨d, _, h⟩ := List.mem_filterMap.mp h
  obtain ⟨a, b, c⟩ := tieAt_some h
  rw [a]
  exact ⟨rfl, b, c⟩
theorem endsN_mem {w : Wb} {m : Nat} {t : End × End} (h : t ∈ endsN w m) : aT w t.1.1 t.1.2 = some t.2 ∧ leE t.1 t.2 := by
  unfold endsN at h
  obtain ⟨r, _, h⟩ := List.mem_flatMap.mp h
  exact (endsRow_mem h).2
theorem endsN_pw (w : Wb) (m : Nat) : (endsN w m).Pairwise fun a b => ltE a.1 b.1 := by
  unfold endsN
  rw [List.pairwise_flatMap]
  refine ⟨fun r _ => ?_, ?_⟩
  · unfold endsRow
    rw [List.pairwise_filterMap]
    refine List.Pairwise.imp ?_ List.pairwise_lt_range
    intro d d' hlt t ht t' ht'
    obtain ⟨a, _, _⟩ := tieAt_some ht
    obtain ⟨b, _, _⟩ := tieAt_some ht'
    rw [a, b]
    exact .inr ⟨rfl, hlt⟩
  · refine List.Pairwise.imp ?_ List.pairwise_lt_range
    intro r r' hlt t ht t' ht'
    have a := (endsRow_mem ht).1
    have b := (endsRow_mem ht').1
    exact .inl (by omega)
section
variable {many : Nat} {ps : List End} {hs : Wb}
/-- the number of a door's tie -/
def tieNo (hs : Wb) (t : End × End) : Nat := ((aT hs t.1.1 t.1.2).map Prod.fst).getD 0
theorem HI.half (P : PsOk many ps) (h : HI many hs (doneTo many ps ps.length)) {r i : Nat} {q : End} (a : aT (joinW hs) r i = some q) : ∃ e, aT hs r i = some e ∧ aT hs q.1 q.2 = some (partner e) := by
  have J := h.join P
  rw [aT_join] at a
  obtain ⟨e, he, e2⟩ := Option.map_eq_some_iff.mp a
  have hp := posOf_at (J.part r i e he)
  rw [e2] at hp
  exact ⟨e, he, hp⟩
theorem HI.ties (P : PsOk many ps) (h : HI many hs (doneTo many ps ps.length)) (m : Nat) : (endsN (joinW hs) m).length ≤ ps.length := by
  have J := h.join P
  have lt : ∀ t ∈ endsN (joinW hs) m, tieNo hs t < ps.length := fun t ht => by
    obtain ⟨e, he, _⟩ := h.half P (endsN_mem ht).1
    unfold tieNo
    rw [he]
    exact (mem_done.mp (h.of_at he).1).1
  have inj : ∀ t ∈ endsN (joinW hs) m, ∀ t' ∈ endsN (joinW hs) m, tieNo hs t = tieNo hs t' → t.1 = t'.1 := fun t ht t' ht' e0 => by
    obtain ⟨a1, l1⟩ := endsN_mem ht
    obtain ⟨a2, l2⟩ := endsN_mem ht'
    obtain ⟨e, he, hp⟩ := h.half P a1
    obtain ⟨e', he', hp'⟩ := h.half P a2
    unfold tieNo at e0
    rw [he, he'] at e0
    have e1 : e.1 = e'.1 := e0
    by_cases q : e.2 = e'.2
    · have : e = e' := Prod.ext e1 q
      subst this
      obtain ⟨z1, z2⟩ := J.dist _ _ _ _ _ he he'
      exact Prod.ext z1 z2
    · obtain ⟨_, p, hp1, hs1⟩ := mem_done.mp (h.of_at he).1
      obtain ⟨_, p', hp2, hs2⟩ := mem_done.mp (h.of_at he').1
      rw [← e1, hp1] at hp2
      cases hp2
      have s1 := side_iff.mp hs1
      have s2 := side_iff.mp (e1 ▸ hs2 : _)
      have pe : partner e = e' := by
        unfold partner
        refine Prod.ext e1 ?_
        show (if e.2 = 0 then 1 else if e.2 = 1 then 0 else e.2) = e'.2
        obtain ⟨_, s1⟩ := s1
        obtain ⟨_, s2⟩ := s2
        rcases s1 with ⟨h1, h2, _⟩ | ⟨h1, ⟨h2, _⟩ | ⟨h2, _⟩⟩ <;> rcases s2 with ⟨g1, g2, _⟩ | ⟨g1, ⟨g2, _⟩ | ⟨g2, _⟩⟩
        · exact absurd (h2.trans g2.symm) q
        · exact absurd h1 g1
        · exact absurd h1 g1
        · exact absurd g1 h1
        · exact absurd (h2.trans g2.symm) q
        · rw [h2, g2]; rfl
        · exact absurd g1 h1
        · rw [h2, g2]; rfl
        · exact absurd (h2.trans g2.symm) q
      have pe' : partner e' = e := by rw [← pe, partner_partner (J.side _ _ _ he)]
      rw [pe] at hp
      rw [pe'] at hp'
      have z1 : t.2 = t'.1 := by
        obtain ⟨z1, z2⟩ := J.dist _ _ _ _ _ hp he'
        exact Prod.ext z1 z2
      have z2 : t'.2 = t.1 := by
        obtain ⟨z1, z2⟩ := J.dist _ _ _ _ _ hp' he
        exact Prod.ext z1 z2
      rw [z1] at l1
      rw [z2] at l2
      exact leE_anti l1 l2
  have nd : ((endsN (joinW hs) m).map (tieNo hs)).Nodup := by
    unfold List.Nodup
    rw [List.pairwise_map]
    refine List.Pairwise.imp_of_mem ?_ (endsN_pw (joinW hs) m)
    intro a b ha hb hlt e
    have := inj a ha b hb e
    rw [this] at hlt
    unfold ltE at hlt
    omega
  have := nodup_sub_len (M := List.range ps.length) nd fun x hx => by
    obtain ⟨t, ht, rfl⟩ := List.mem_map.mp hx
    exact List.mem_range.mpr (lt t ht)
  simpa using this
end
end SW
namespace SW
open PySem L2

/-! lists of webs, sorted -/
def eKn (e : End) : NestedKey := .tup [.num (e.1 : Int), .num (e.2 : Int)]
def rKn (r : List End) : NestedKey := .tup (r.map eKn)
def wKn (w : Wb) : NestedKey := .tup (w.map rKn)
theorem wKn_nk (w : Wb) : nkT (wD w) = some (wKn w) := by
  have h1 : ∀ r : List End, nksOf (r.map eD) = some (r.map eKn) := fun r => by
    induction r with
    | nil => rfl
    | cons e r ih =>
      show (nkOf (eD e)).bind _ = _
      have : nkOf (eD e) = some (eKn e) := rfl
      rw [this, Option.bind_some, ih]; rfl
  have h2 : ∀ w : Wb, nksOf (w.map rD) = some (w.map rKn) := fun w => by
    induction w with
    | nil => rfl
    | cons r w ih =>
      have : nkOf (rD r) = some (rKn r) := by
        show (nksOf (r.map eD)).map _ = _
        rw [h1]; rfl
      show (nkOf (rD r)).bind _ = _
      rw [this, Option.bind_some, ih]; rfl
  have d1 : ∀ r : List End, NestedKey.depthAll (r.map eKn) ≤ 1 := fun r => by
    induction r with
    | nil => simp [NestedKey.depthAll]
    | cons e r ih =>
      rw [List.map_cons]
      simp only [NestedKey.depthAll, eKn, NestedKey.depth]
      omega
  have d2 : ∀ w : Wb, NestedKey.depthAll (w.map rKn) ≤ 2 := fun w => by
    induction w with
    | nil => simp [NestedKey.depthAll]
    | cons r w ih =>
      rw [List.map_cons]
      have := d1 r
      simp only [NestedKey.depthAll, rKn, NestedKey.depth]
      omega
  show (nksOf (w.map rD)).bind _ = _
  rw [h2, Option.bind_some, if_pos]
  · rfl
  · have := d2 w
    simp only [NestedKey.depth]
    omega
theorem kD_wKn (w : Wb) : kD (wKn w) = some (wD w) := by
  have h1 : ∀ r : List End, kDs (r.map eKn) = some (r.map eD) := fun r => by
    induction r with
    | nil => rfl
    | cons e r ih =>
      show (kD (eKn e)).bind _ = _
      have : kD (eKn e) = some (eD e) := rfl
      rw [this, Option.bind_some, ih]; rfl
  have h2 : ∀ w : Wb, kDs (w.map rKn) = some (w.map rD) := fun w => by
    induction w with
    | nil => rfl
    | cons r w ih =>
      have : kD (rKn r) = some (rD r) := by
        show (kDs (r.map eKn)).map _ = _
        rw [h1]; rfl
      show (kD (rKn r)).bind _ = _
      rw [this, Option.bind_some, ih]; rfl
  show (kDs (w.map rKn)).map _ = _
  rw [h2]; rfl
theorem datas_map : ∀ ks : List NestedKey, NestedKey.datas ks = ks.map NestedKey.data
  | [] => rfl
  | k :: ks => by simp only [NestedKey.datas, List.map_cons, datas_map ks]
theorem alike_wKn (v w : Wb) : W.alike (wKn v).data (wKn w).data = true := by
  have a1 : ∀ e f : End, W.alike (eKn e).data (eKn f).data = true := fun e f => by
    simp [eKn, NestedKey.data, NestedKey.datas, W.alike, W.alikeAll]
  have a2 : ∀ r s : List End, W.alike (rKn r).data (rKn s).data = true := fun r => by
    unfold rKn
    simp only [NestedKey.data, W.alike, datas_map]
    induction r with
    | nil => intro s; cases s <;> rfl
    | cons e r ih =>
      intro s
      cases s with
      | nil => rfl
      | cons f s =>
        simp only [List.map_cons, W.alikeAll, a1, ih s, Bool.and_self]
  unfold wKn
  simp only [NestedKey.data, W.alike, datas_map]
  induction v generalizing w with
  | nil => cases w <;> rfl
  | cons r v ih =>
    cases w with
    | nil => rfl
    | cons s w =>
      simp only [List.map_cons, W.alikeAll, a2, ih w, Bool.and_self]
theorem keysAll_ws : ∀ ws : List Wb, keysAll (ws.map wD) = some (ws.map wKn)
  | [] => rfl
  | w :: ws => by
    rw [List.map_cons]
    show (nkT (wD w)).bind _ = _
    rw [wKn_nk, Option.bind_some, keysAll_ws ws]; rfl
theorem kDs_ws : ∀ ws : List Wb, kDs (ws.map wKn) = some (ws.map wD)
  | [] => rfl
  | w :: ws => by
    rw [List.map_cons]
    show (kD (wKn w)).bind _ = _
    rw [kD_wKn, Option.bind_some, kDs_ws ws]; rfl
end SW
namespace SW
open PySem L2

/-! six boxes -/
theorem boxes6_ok {ns : List Int} {S : Sto} {Q : D → Sto → Prop} (hns : ns.length ≤ 63)
    (q : ∀ (S' : Sto) (m : Nat) (bs : List Nat), S'[m]? = some (.lst (bs.map D.loc)) → bs.Pairwise (· < ·) → (∀ b ∈ bs, b < m ∧ Bx S' b 0) → bs.length ≤ 6 → Q (.loc m) S') : Wp (g_l_boxes [.fl (ns.map D.int), .int 6] S) Q := by
  unfold g_l_boxes
  refine (wp_fnD (by rfl)).mpr ?_
  unfold b_l_boxes
  (simp! only [List.length_map])
  have hm : ∃ m : Nat, (if (if ((ns.length : Nat) : Int) < 6 then ((ns.length : Nat) : Int) else 6) > 1 then (if ((ns.length : Nat) : Int) < 6 then ((ns.length : Nat) : Int) else 6) else 1) = (m : Int) ∧ m ≤ 6 := by
    by_cases h : ((ns.length : Nat) : Int) < 6
    · rw [if_pos h]
      by_cases h2 : ((ns.length : Nat) : Int) > 1
      · exact ⟨ns.length, by rw [if_pos h2], by omega⟩
      · exact ⟨1, by rw [if_neg h2]; rfl, by omega⟩
    · rw [if_neg h]
      exact ⟨6, by rw [if_pos (by decide)]; rfl, by omega⟩
  obtain ⟨m, hm, hmK⟩ := hm
  rw [hm]
  refine ⟨by simp [big62]; omega, ?_⟩
  rw [Int.toNat_natCast]
  refine lc_rng 0 m (by omega) (BcI S) ⟨[], rfl, rfl⟩ ?_ ?_
  · rintro i acc S1 hi ⟨cs, rfl, hl⟩
    have e0 : ((0 : Int) + (i : Int)) = (i : Int) := by omega
    rw [e0]
    refine ⟨_, pb_nm, ?_⟩
    have e1 : slE3 (vE 0) (someO (vE 3)) (someO (cE (.int 63))) (someO (vE 1)) [some (D.fl (ns.map D.int)), some (D.int 6), none, some (D.int (i : Int))] S1 = some (.loc S1.length, S1 ++ [.lst ((pickL ns (some (i : Int)) (some 63) (some 6)).map D.int)]) := by
      rw [← pick_map]
      rfl
    have e2 : ∀ Q : D → Sto → Prop, Wp (slE3 (vE 0) (someO (vE 3)) (someO (cE (.int 63))) (someO (vE 1)) [some (D.fl (ns.map D.int)), some (D.int 6), none, some (D.int (i : Int))] S1) Q ↔ Q (.loc S1.length) (S1 ++ [.lst ((pickL ns (some (i : Int)) (some 63) (some 6)).map D.int)]) := fun Q => by rw [e1]; exact wp_some
    have e3 : ∀ (S : Sto) (n : Nat) (l : List Int) (Q : D → Sto → Prop), S[n]? = some (.lst (l.map D.int)) → (Wp (sumD [.loc n] S) Q ↔ Q (.int l.sum) S) := fun S n l Q h => by
      have : sumD [.loc n] S = some (.int l.sum, S) := by
        unfold sumD lsOf
        simp only [h, Option.bind_some, intsOf_ints, Option.map_some]
      rw [this]; exact wp_some
    have hn : (S1 ++ [MO.lst ((pickL ns (some (i : Int)) (some 63) (some 6)).map D.int)])[S1.length]? = some (.lst ((pickL ns (some (i : Int)) (some 63) (some 6)).map D.int)) := sto_new
    (simp! only [e2, e3 _ _ _ _ hn])
    exact ⟨cs ++ [(pickL ns (some (i : Int)) (some 63) (some 6)).sum], by rw [List.map_append]; rfl, by simp [hl]⟩
  · rintro acc S1 ⟨cs, rfl, hl⟩
    have hn : (S1 ++ [MO.lst (cs.map D.int)])[S1.length]? = some (.lst (cs.map D.int)) := sto_new
    generalize S1.length = c at hn ⊢
    generalize S1 ++ [MO.lst (cs.map D.int)] = S2 at hn ⊢
    (simp! only [len_loc hn, List.length_map])
    refine ⟨by simp [big62]; omega, ?_⟩
    rw [Int.toNat_natCast]
    refine lc_rng 0 cs.length (by omega) (fun i acc S => BbI c cs i acc S ∧ acc.length = i) ⟨⟨[], rfl, hn, .nil, by simp⟩, rfl⟩ ?_ ?_
    · rintro i acc S3 hi ⟨⟨bs, rfl, hc, hp, hb⟩, hli⟩
      have e0 : ((0 : Int) + (i : Int)) = (i : Int) := by omega
      rw [e0]
      refine ⟨_, pb_nm, ?_⟩
      (simp! only [])
      refine box2_ok hc (by omega) hi fun S4 hb4 l4 f4 => ?_
      refine ⟨⟨bs ++ [S3.length], by rw [List.map_append]; rfl, (f4 _ (sto_lt hc)).trans hc, ?_, ?_⟩, by rw [List.length_append, hli]; rfl⟩
      · rw [List.pairwise_append]
        refine ⟨hp, by simp, fun x hx y hy => ?_⟩
        rw [List.mem_singleton.mp hy]
        exact (hb x hx).lt
      · intro b hbm
        rcases List.mem_append.mp hbm with z | z
        · exact (hb b z).of (f4 _ (hb b z).lt)
        · rw [List.mem_singleton.mp z]; exact hb4
    · rintro acc S3 ⟨⟨bs, rfl, hc, hp, hb⟩, hli⟩
      rw [List.length_map] at hli
      (simp! only [])
      exact q _ S3.length bs sto_new hp (fun b hbm => ⟨(hb b hbm).lt, (hb b hbm).of (sto_app (hb b hbm).lt)⟩) (by omega)
end SW
namespace SW
open PySem L2

/-! k54: how many ties; the crossings -/
theorem src2_ties {w : Wb} {k : Nat} (B : Back w) (h : Src2 w k) : (endsN w w.length).length ≤ k := by
  obtain ⟨hs, kvs, hn, hl, hL, E⟩ := h
  have info : ∀ t ∈ endsN w w.length, ∃ e f, aT hs t.1.1 t.1.2 = some e ∧ Pt kvs e f ∧ aT hs t.2.1 t.2.2 = some f ∧ e.1 < k ∧ (∀ lp, lk kvs (kN e.1) = some (.bl lp) → lp = true → e.2 = 0) := fun t ht => by
    obtain ⟨h1, h2⟩ := endsN_mem ht
    obtain ⟨x, hx, hi⟩ := aT_some.mp h1
    obtain ⟨e, f, e1, p, e2⟩ := (hL _ x hx).1 _ t.2 hi
    obtain ⟨a, b, lp, c, d, dd⟩ := E e (aT_has.mpr ⟨_, _, e1⟩)
    refine ⟨e, f, e1, p, e2, a, fun lp2 h2 h3 => ?_⟩
    rw [c] at h2
    cases h2
    exact dd h3
  have nd : (endsN w w.length).Pairwise fun a b => a.1 ≠ b.1 := (endsN_pw w w.length).imp fun h z => by
    unfold ltE at h
    rw [z] at h
    omega
  let φ : End × End → Nat := fun t => ((aT hs t.1.1 t.1.2).map (·.1)).getD 0
  have inj : ((endsN w w.length).map φ).Nodup := by
    rw [List.nodup_iff_pairwise_ne, List.pairwise_map]
    refine List.Pairwise.imp_of_mem ?_ nd
    intro t t' ht ht' hne he
    apply hne
    obtain ⟨e, f, e1, ⟨lp, p1, p2, p3⟩, e2, _, e4⟩ := info t ht
    obtain ⟨e', f', g1, ⟨lp', q1, q2, q3⟩, g2, _, g4⟩ := info t' ht'
    obtain ⟨m1, l1⟩ := endsN_mem ht
    obtain ⟨m2, l2⟩ := endsN_mem ht'
    have hee : e.1 = e'.1 := by
      have : φ t = φ t' := he
      simp only [φ, e1, g1, Option.map_some, Option.getD_some] at this
      exact this
    rw [← hee, p1] at q1
    cases q1
    by_cases z : e.2 = e'.2
    · have : e = e' := Prod.ext hee z
      rw [← this] at g1
      obtain ⟨a, b⟩ := flat_one hn e1 g1
      exact Prod.ext a b
    · cases lp with
      | true =>
        have := e4 true p1 rfl
        have := g4 true (by rw [← hee]; exact p1) rfl
        omega
      | false =>
        simp only [Bool.false_eq_true, if_false] at p3 q3
        have hf : f = e' := by
          rw [p3]; exact Prod.ext hee (by simp only; omega)
        have hf' : f' = e := by
          rw [q3]; exact Prod.ext hee.symm (by simp only; omega)
        rw [hf] at e2
        rw [hf'] at g2
        obtain ⟨a, b⟩ := flat_one hn e2 g1
        obtain ⟨c, d⟩ := flat_one hn g2 e1
        unfold leE at l1 l2
        exact Prod.ext (by omega) (by omega)
  have sub : ((endsN w w.length).map φ) ⊆ List.range k := fun x hx => by
    obtain ⟨t, ht, rfl⟩ := List.mem_map.mp hx
    obtain ⟨e, f, e1, _, _, e3, _⟩ := info t ht
    refine List.mem_range.mpr ?_
    show φ t < k
    simp only [φ, e1, Option.map_some, Option.getD_some]
    exact e3
  have := nodup_sub_len inj sub
  rw [List.length_map, List.length_range] at this
  exact this
/-- all crossings of two ties, as the search comes to them -/
def crP (w : Wb) (a b : End × End) : List (Option Wb) := [dueC w a.1 a.2 b.1 b.2 0, dueC w a.1 a.2 b.1 b.2 1]
def crR (w : Wb) (a : End × End) (bs : List (End × End)) : List (Option Wb) := bs.flatMap (crP w a)
def crA (w : Wb) (es : List (End × End)) : Nat → List (Option Wb)
  | 0 => []
  | i + 1 => crA w es i ++ match es[i]? with
    | some a => crR w a (es.drop (i + 1))
    | none => []
def crW (w : Wb) : List Wb := (crA w (endsN w w.length) (endsN w w.length).length).filterMap id
theorem crR_len {w : Wb} {a : End × End} {bs : List (End × End)} : (crR w a bs).length = 2 * bs.length := by
  unfold crR
  induction bs with
  | nil => rfl
  | cons b bs ih => rw [List.flatMap_cons, List.length_append, ih, List.length_cons]; simp [crP]; omega
theorem crA_len {w : Wb} {es : List (End × End)} : ∀ i, i ≤ es.length → (crA w es i).length + (es.length - i) * (es.length - i - 1) ≤ es.length * (es.length - 1)
  | 0, _ => by simp [crA]
  | i + 1, h => by
    have ih := crA_len (w := w) (es := es) i (by omega)
    have he : es[i]? = some es[i] := List.getElem?_eq_getElem (by omega)
    simp only [crA, he, List.length_append, crR_len, List.length_drop]
    obtain ⟨m, hm⟩ : ∃ m, es.length - i = m + 1 := ⟨es.length - i - 1, by omega⟩
    have h1 : es.length - (i + 1) = m := by omega
    rw [h1]
    rw [hm] at ih
    have h2 : (m + 1) * (m + 1 - 1) = m * (m - 1) + 2 * m := by
      cases m with
      | zero => rfl
      | succ m =>
        show (m + 2) * (m + 1) = (m + 1) * m + 2 * (m + 1)
        rw [Nat.add_mul, Nat.mul_comm (m + 1) m]
    omega
theorem es_tie2 {w : Wb} {es : List (End × End)} (E : EsOk w es) {i j : Nat} {a b : End × End} (ha : es[i]? = some a) (hb : es[j]? = some b) (hij : i < j) : Tie2 w a.1 a.2 b.1 b.2 := by
  obtain ⟨a1, a2⟩ := (E.mem a.1 a.2).mp (List.mem_of_getElem? ha)
  obtain ⟨b1, b2⟩ := (E.mem b.1 b.2).mp (List.mem_of_getElem? hb)
  refine ⟨a1, b1, a2, b2, fun z => ?_⟩
  have nd := E.nd
  have h1 : (es.map Prod.fst)[i]? = some a.1 := by rw [List.getElem?_map, ha]; rfl
  have h2 : (es.map Prod.fst)[j]? = some a.1 := by rw [List.getElem?_map, hb, z]; rfl
  have := (List.getElem?_inj (List.getElem?_eq_some_iff.mp h1).1 nd).mp (h1.trans h2.symm)
  omega
/-- the loops over two ties -/
def K54 (cf : Fn) : EvS := exS (mE extendM (vE 2) (consA (lcE (sqI (aE tupD (consA (cE (.int 0)) (consA (cE (.int 1)) nilA)))) (.nm 7) yesT (aE cf (consA (vE 0) (consA (vE 4) (consA (vE 5) (consA (vE 7) nilA))))) [7]) nilA))
def L54 (cf : Fn) : EvS := (seqS (forS (enI (vE 1)) (.tp [(.nm 3), (.nm 4)]) (forS (sqI (slE (vE 1) (someO (b2E addD (vE 3) (cE (.int 1)))) noO)) (.nm 5) (K54 cf)))
  (rtS (lcE (sqI (vE 2)) (.nm 6) (tB (b2E isNotD (vE 6) (cE .non))) (vE 6) [6])))
def CrossF (cf : Fn) (w : Wb) : Prop := ∀ (S : Sto) (a a' b b' : End) (ab : Nat) (Q : D → Sto → Prop), Tie2 w a a' b b' → ab ≤ 1 → (∀ S' : Sto, S.length ≤ S'.length → (∀ n, n < S.length → S'[n]? = S[n]?) → Q (optW (dueC w a a' b b' ab)) S') → Wp (cf [wD w, tD (a, a'), tD (b, b'), nD ab] S) Q
def Kc54I (S0 : Sto) (w : Wb) (a b : End × End) (i : Nat) (acc : List D) (S : Sto) : Prop := acc = ((crP w a b).take i).map optW ∧ S0.length ≤ S.length ∧ ∀ m, m < S0.length → S[m]? = S0[m]?
theorem k54_ok {cf : Fn} {S : Sto} {w : Wb} {a b : End × End} {f : Nat} {os : List (Option Wb)} {o1 o3 o6 o7 : Option D} {Q : Out → Sto → Prop} (hC : CrossF cf w) (T : Tie2 w a.1 a.2 b.1 b.2) (hf : S[f]? = some (.lst (os.map optW))) (hl : os.length ≤ 100000)
    (q : ∀ (S' : Sto), S'[f]? = some (.lst ((os ++ crP w a b).map optW)) → S.length ≤ S'.length → (∀ m, m < S.length → m ≠ f → S'[m]? = S[m]?) → Q (.nx [some (wD w), o1, some (.loc f), o3, some (tD a), some (tD b), o6, o7]) S') :
    Wp (K54 cf [some (wD w), o1, some (.loc f), o3, some (tD a), some (tD b), o6, o7] S) Q := by
  unfold K54
  (simp! only [isLst_loc hf])
  refine lc_fixed _ (by simp) (Kc54I S w a b) ⟨rfl, Nat.le_refl _, fun _ _ => rfl⟩ ?_ ?_
  · rintro i d acc S1 hd ⟨rfl, l1, f1⟩
    refine ⟨_, pb_nm, ?_⟩
    obtain ⟨ab, hab, hd2, ht⟩ : ∃ ab : Nat, ab ≤ 1 ∧ d = nD ab ∧ (crP w a b).take (i + 1) = (crP w a b).take i ++ [dueC w a.1 a.2 b.1 b.2 ab] := by
      match i, hd with
      | 0, hd => cases hd; exact ⟨0, by omega, rfl, rfl⟩
      | 1, hd => cases hd; exact ⟨1, by omega, rfl, rfl⟩
      | i + 2, hd => simp at hd
    subst hd2
    (simp! only [])
    refine hC S1 a.1 a.2 b.1 b.2 ab _ T hab fun S2 l2 f2 => ⟨?_, by omega, fun m hm => (f2 m (by omega)).trans (f1 m hm)⟩
    rw [ht, List.map_append]; rfl
  · rintro acc S1 ⟨rfl, l1, f1⟩
    have e2 : (crP w a b).take [D.int 0, D.int 1].length = crP w a b := rfl
    rw [e2]
    have hf1 : (S1 ++ [MO.lst ((crP w a b).map optW)])[f]? = some (.lst (os.map optW)) := by rw [sto_app (by have := sto_lt hf; omega), f1 f (sto_lt hf)]; exact hf
    rw [wq_extend hf1 sto_new]
    refine ⟨by rw [List.length_map, List.length_map]; simp [crP]; omega, ?_⟩
    refine q _ (by rw [sto_set hf1, List.map_append]) (by simp; omega) fun m hm hmf => by rw [sto_ne (Ne.symm hmf), sto_app (by omega)]; exact f1 m hm
def J54I (S0 : Sto) (w : Wb) (t f : Nat) (es : List (End × End)) (os : List (Option Wb)) (i : Nat) (τ : Tau) (S : Sto) : Prop := ∃ o3 o4 o5 o6 o7 : Option D, τ = [some (wD w), some (.loc t), some (.loc f), o3, o4, o5, o6, o7] ∧ S[f]? = some (.lst ((os ++ crA w es i).map optW)) ∧ S[t]? = some (.lst (es.map tD)) ∧ S0.length ≤ S.length ∧ ∀ m, m < S0.length → m ≠ f → S[m]? = S0[m]?
def J54J (S0 : Sto) (w : Wb) (t f p : Nat) (es : List (End × End)) (os : List (Option Wb)) (a : End × End) (bs : List (End × End)) (o3 : Option D) (i : Nat) (τ : Tau) (S : Sto) : Prop := ∃ o5 o6 o7 : Option D, τ = [some (wD w), some (.loc t), some (.loc f), o3, some (tD a), o5, o6, o7] ∧ S[f]? = some (.lst ((os ++ crR w a (bs.take i)).map optW)) ∧ S[t]? = some (.lst (es.map tD)) ∧ S[p]? = some (.lst (bs.map tD)) ∧ S0.length ≤ S.length ∧ ∀ m, m < S0.length → m ≠ f → S[m]? = S0[m]?
def Fl54I (S0 : Sto) (os : List (Option Wb)) (i : Nat) (acc : List D) (S : Sto) : Prop := acc = ((os.take i).filterMap id).map wD ∧ S = S0
theorem l54_ok {cf : Fn} {S : Sto} {w : Wb} {t f : Nat} {es : List (End × End)} {os : List (Option Wb)} {Q : D → Sto → Prop} (hC : CrossF cf w) (E : EsOk w es) (hft : f ≠ t) (ht : S[t]? = some (.lst (es.map tD))) (hf : S[f]? = some (.lst (os.map optW))) (hes : es.length ≤ 144) (hos : os.length ≤ 100)
    (q : ∀ (S' : Sto) (p : Nat), S'[p]? = some (.lst (((os ++ crA w es es.length).filterMap id).map wD)) → S.length ≤ p → S.length ≤ S'.length → (∀ m, m < S.length → m ≠ f → S'[m]? = S[m]?) → Q (.loc p) S') :
    Wp (L54 cf [some (wD w), some (.loc t), some (.loc f), none, none, none, none, none] S) fun o S1 => match o with | .rt d => Q d S1 | .nx _ => Q .non S1 | _ => False := by
  unfold L54
  generalize hK : K54 cf = KK
  have hml : ∀ i, i ≤ es.length → (crA w es i).length ≤ 20592 := fun i hi => by
    have h1 := crA_len (w := w) (es := es) i hi
    have h2 : es.length * (es.length - 1) ≤ 144 * 143 := Nat.mul_le_mul hes (by omega)
    omega
  (simp! only [srcE_loc ht])
  refine lo_en t (es.map tD) (J54I S w t f es os) ⟨_, _, _, _, _, rfl, by simpa [crA] using hf, ht, Nat.le_refl _, fun _ _ _ => rfl⟩ (fun i τ S' h => ?_) ?_ ?_
  · obtain ⟨_, _, _, _, _, _, _, h, _⟩ := h
    exact h
  · rintro i d τ S1 hd ⟨o3, o4, o5, o6, o7, rfl, hf1, ht1, l1, f1⟩
    rw [List.getElem?_map] at hd
    obtain ⟨a, ha, rfl⟩ := Option.map_eq_some_iff.mp hd
    have hil := (List.getElem?_eq_some_iff.mp ha).1
    have hi1 : (i : Int) + 1 = ((i + 1 : Nat) : Int) := by omega
    have htl := sto_lt ht1
    have hfl := sto_lt hf1
    (simp! only [hi1, wq_slL ht1, cut_drop])
    rw [← List.map_drop]
    have hp1 : (S1 ++ [MO.lst ((es.drop (i + 1)).map tD)])[S1.length]? = some (.lst ((es.drop (i + 1)).map tD)) := sto_new
    refine ⟨_, src_loc hp1, ?_⟩
    refine lo_live _ _ (J54J S w t f S1.length es (os ++ crA w es i) a (es.drop (i + 1)) (some (.int (i : Int)))) ⟨_, _, _, rfl, by rw [sto_app hfl]; simpa [crR] using hf1, by rw [sto_app htl]; exact ht1, hp1, by simp; omega, fun m hm hmf => by rw [sto_app (by omega)]; exact f1 m hm hmf⟩ (fun j τ S' h => ?_) ?_ ?_
    · obtain ⟨_, _, _, _, _, _, h, _⟩ := h
      exact h
    · rintro j d τ S2 hd2 ⟨o5, o6, o7, rfl, hf2, ht2, hp2, l2, f2⟩
      rw [List.getElem?_map] at hd2
      obtain ⟨b, hb, rfl⟩ := Option.map_eq_some_iff.mp hd2
      have hjl := (List.getElem?_eq_some_iff.mp hb).1
      refine ⟨_, pb_nm, ?_⟩
      have hb2 : es[i + 1 + j]? = some b := by rw [← hb, List.getElem?_drop]
      subst hK
      have hlen : (os ++ crA w es i ++ crR w a ((es.drop (i + 1)).take j)).length ≤ 100000 := by
        have := hml i (by omega)
        rw [List.length_append, List.length_append, crR_len, List.length_take, List.length_drop]; omega
      have htf : t ≠ f := Ne.symm hft
      have hpf : S1.length ≠ f := by omega
      refine k54_ok hC (es_tie2 E ha hb2 (by omega)) hf2 hlen fun S3 hf3 l3 f3 => ?_
      refine ⟨_, _, _, rfl, ?_, (f3 t (sto_lt ht2) htf).trans ht2, (f3 _ (sto_lt hp2) hpf).trans hp2, by omega, fun m hm hmf => (f3 m (by omega) hmf).trans (f2 m hm hmf)⟩
      rw [hf3, List.take_add_one, hb]
      unfold crR
      rw [List.flatMap_append]
      simp [List.append_assoc]
    · rintro τ S2 ⟨o5, o6, o7, rfl, hf2, ht2, hp2, l2, f2⟩
      rw [List.length_map, List.take_length] at hf2
      refine ⟨_, _, _, _, _, rfl, ?_, ht2, l2, f2⟩
      rw [hf2]
      simp only [crA, ha, List.append_assoc]
  · rintro τ S1 ⟨o3, o4, o5, o6, o7, rfl, hf1, ht1, l1, f1⟩
    rw [List.length_map] at hf1
    have hal := hml es.length (Nat.le_refl _)
    (simp! only [])
    refine ⟨_, src_loc hf1, ?_⟩
    refine lc_live _ _ (by rw [List.length_map, List.length_append]; omega) (Fl54I S1 (os ++ crA w es es.length)) ⟨rfl, rfl⟩ (fun i acc S' h => h.2 ▸ hf1) ?_ ?_
    · rintro i d acc S2 hd ⟨rfl, rfl⟩
      rw [List.getElem?_map] at hd
      obtain ⟨o, ho, rfl⟩ := Option.map_eq_some_iff.mp hd
      refine ⟨_, pb_nm, ?_⟩
      have hft : ((os ++ crA w es es.length).take (i + 1)).filterMap id = ((os ++ crA w es es.length).take i).filterMap id ++ o.toList := by
        rw [List.take_add_one, ho, List.filterMap_append]
        cases o <;> rfl
      cases o with
      | none =>
        have en : isNonD (optW none) = true := rfl
        (simp! only [wp_isnot_non, en])
        exact ⟨by rw [hft]; simp, rfl⟩
      | some m =>
        have en : isNonD (optW (some m)) = false := rfl
        (simp! only [wp_isnot_non, en])
        exact ⟨by rw [hft, List.map_append]; rfl, rfl⟩
    · rintro acc S2 ⟨rfl, rfl⟩
      rw [List.length_map, List.take_length]
      exact q _ _ sto_new (by omega) (by simp; omega) fun m hm hmf => by rw [sto_app (by omega)]; exact f1 m hm hmf
theorem crossings_ok {S : Sto} {w : Wb} {Q : D → Sto → Prop} (B : Back w) (hw : w.length ≤ 24) (h0 : 0 < w.length) (hd : ∀ (r : Nat) (x : List End), w[r]? = some x → x.length ≤ 6)
    (q : ∀ (S' : Sto) (p : Nat), S'[p]? = some (.lst ((crW w).map wD)) → S.length ≤ p → S.length ≤ S'.length → (∀ m, m < S.length → S'[m]? = S[m]?) → Q (.loc p) S') : Wp (g_crossings [wD w] S) Q := by
  unfold g_crossings
  refine (wp_fnD (by rfl)).mpr ?_
  show Wp (seqS (stS 1 (aE g_ties (consA (vE 0) nilA))) (seqS (stS 2 (aE lstD nilA)) (L54 g_web_crossed)) _ _) _
  generalize hL : L54 g_web_crossed = LL
  (simp! only [])
  refine ties_ok hw hd fun S1 es E h1 l1 f1 => ?_
  (simp! only [])
  have hfew := E.few
  have h2 : (S1 ++ [MO.lst []])[S.length]? = some (.lst (es.map tD)) := (sto_app (sto_lt h1)).trans h1
  have hn : (S1 ++ [MO.lst []])[S1.length]? = some (.lst (([] : List (Option Wb)).map optW)) := sto_new
  subst hL
  refine l54_ok (fun S a a' b b' ab Q T hab q => crossed_ok B T hw h0 hd hab q) E (by omega) h2 hn hfew (by simp) fun S' p hp lp l' f' => ?_
  rw [List.nil_append] at hp
  have ee := E.is
  rw [ee] at hp
  simp only [List.length_append, List.length_singleton] at lp l' f'
  exact q S' p hp (by omega) (by omega) fun m hm => by rw [f' m (by omega) (by omega), sto_app (by omega)]; exact f1 m hm
theorem all_crossed_ok {S : Sto} {w : Wb} {Q : D → Sto → Prop} (B : Back w) (hw : w.length ≤ 24) (h0 : 0 < w.length) (hd : ∀ (r : Nat) (x : List End), w[r]? = some x → x.length ≤ 6)
    (q : ∀ (S' : Sto) (p : Nat), S'[p]? = some (.lst ((w :: crW w).map wD)) → S.length ≤ p → S.length ≤ S'.length → (∀ m, m < S.length → S'[m]? = S[m]?) → Q (.loc p) S') : Wp (g_l_all_crossed [wD w] S) Q := by
  unfold g_l_all_crossed
  refine (wp_fnD (by rfl)).mpr ?_
  show Wp (seqS (stS 1 (aE g_l_ties (consA (vE 0) nilA))) (seqS (stS 2 (aE lstD (consA (vE 0) nilA))) (L54 g_l_crossed)) _ _) _
  generalize hL : L54 g_l_crossed = LL
  (simp! only [])
  have lt : ∀ (S : Sto) R, Wp (g_ties [wD w] S) R → Wp (g_l_ties [wD w] S) R := fun S R h => h
  refine lt _ _ (ties_ok hw hd fun S1 es E h1 l1 f1 => ?_)
  (simp! only [])
  have hfew := E.few
  have h2 : (S1 ++ [MO.lst [wD w]])[S.length]? = some (.lst (es.map tD)) := (sto_app (sto_lt h1)).trans h1
  have hn : (S1 ++ [MO.lst [wD w]])[S1.length]? = some (.lst ([some w].map optW)) := sto_new
  subst hL
  refine l54_ok (fun S a a' b b' ab Q T hab q => l_crossed_ok B T hw h0 hd hab q) E (by omega) h2 hn hfew (by simp) fun S' p hp lp l' f' => ?_
  have ee := E.is
  rw [ee] at hp
  simp only [List.length_append, List.length_singleton] at lp l' f'
  exact q S' p hp (by omega) (by omega) fun m hm => by rw [f' m (by omega) (by omega), sto_app (by omega)]; exact f1 m hm
end SW
namespace SW
open PySem L2

/-! k54: webs put right -/
theorem ss_webs (ws : List Wb) (hl : ws.length < 77) (hne : ∀ w ∈ ws, w ≠ []) : ∃ M : List Wb, M.length ≤ ws.length ∧ (∀ x ∈ M, x ∈ ws) ∧ ∀ (S : Sto) (n : Nat) (Q : D → Sto → Prop), S[n]? = some (.lst (ws.map wD)) → (Wp (sortSetBD (.loc n) S) Q ↔ Q (.loc S.length) (S ++ [.lst (M.map wD)])) := by
  cases hw : ws with
  | nil =>
    refine ⟨[], by simp, by simp, fun S n Q h => ?_⟩
    have e : sortSetBD (.loc n) S = some (newD (.lst []) S) := by
      unfold sortSetBD
      simp only [h, List.map_nil, intsAll]
      have z : sortI (dedL ([] : List Int)) = [] := List.length_eq_zero_iff.mp ((sortI_perm _).length_eq.trans rfl)
      rw [if_pos (by simp), z]; rfl
    rw [e]; exact wp_some
  | cons w0 wr =>
    have hok : okKs (dedL (ws.map wKn)) = true ∧ okKs (ws.map wKn) = true := by
      have key : ∀ ks : List NestedKey, (∀ k ∈ ks, ∃ w ∈ ws, wKn w = k) → okKs ks = true := fun ks hk => by
        unfold okKs
        rw [Bool.and_eq_true, List.all_eq_true, List.all_eq_true]
        refine ⟨fun a ha => ?_, fun a ha => ?_⟩
        · rw [List.all_eq_true]
          intro b hb
          obtain ⟨v, _, rfl⟩ := hk a ha
          obtain ⟨w, _, rfl⟩ := hk b hb
          exact alike_wKn v w
        · obtain ⟨v, hv, rfl⟩ := hk a ha
          cases v with
          | nil => exact absurd rfl (hne _ hv)
          | cons r v => rfl
      exact ⟨key _ fun k hk => List.mem_map.mp (dedL_mem.mp hk), key _ fun k hk => List.mem_map.mp hk⟩
    have mk : ∀ ks : List NestedKey, (∀ k ∈ ks, ∃ w ∈ ws, wKn w = k) → ∃ M : List Wb, ks = M.map wKn ∧ ∀ x ∈ M, x ∈ ws := by
      intro ks
      induction ks with
      | nil => intro _; exact ⟨[], rfl, by simp⟩
      | cons k ks ih =>
        intro h
        obtain ⟨x, hx, rfl⟩ := h k (by simp)
        obtain ⟨M, rfl, hM⟩ := ih fun k hk => h k (by simp [hk])
        exact ⟨x :: M, rfl, fun y hy => by
          rcases List.mem_cons.mp hy with rfl | hy
          · exact hx
          · exact hM y hy⟩
    obtain ⟨M, hM, hMw⟩ := mk (sortK (dedL (ws.map wKn))) fun k hk => List.mem_map.mp (dedL_mem.mp ((List.mergeSort_perm _ _).mem_iff.mp hk))
    have hlen : M.length ≤ ws.length := by
      have h1 : (sortK (dedL (ws.map wKn))).length = (dedL (ws.map wKn)).length := (List.mergeSort_perm _ _).length_eq
      have h2 := nodup_sub_len (dedL_nodup (ws.map wKn)) (M := ws.map wKn) fun x hx => dedL_mem.mp hx
      rw [hM, List.length_map] at h1
      rw [List.length_map] at h2
      omega
    rw [← hw]
    refine ⟨M, hlen, hMw, fun S n Q h => ?_⟩
    have hi : intsAll (ws.map wD) = none := by rw [hw]; rfl
    have e : sortSetBD (.loc n) S = some (newD (.lst (M.map wD)) S) := by
      unfold sortSetBD
      simp only [h, hi, keysAll_ws, Option.bind_some]
      rw [if_pos ⟨.inl (by rw [List.length_map]; exact hl), hok.2⟩, hM, kDs_ws]; rfl
    rw [e]; exact wp_some
theorem crA_mem {w : Wb} {es : List (End × End)} {o : Option Wb} : ∀ {i : Nat}, o ∈ crA w es i → ∃ (i' j : Nat) (a b : End × End) (ab : Nat), es[i']? = some a ∧ es[j]? = some b ∧ i' < j ∧ ab ≤ 1 ∧ o = dueC w a.1 a.2 b.1 b.2 ab
  | 0, h => by simp [crA] at h
  | i + 1, h => by
    simp only [crA] at h
    rcases List.mem_append.mp h with h | h
    · exact crA_mem h
    · cases ha : es[i]? with
      | none => rw [ha] at h; simp at h
      | some a =>
        rw [ha] at h
        obtain ⟨b, hb, h⟩ := List.mem_flatMap.mp h
        obtain ⟨j, hj⟩ := List.getElem?_of_mem hb
        rw [List.getElem?_drop] at hj
        unfold crP at h
        rcases List.mem_cons.mp h with rfl | h
        · exact ⟨i, i + 1 + j, a, b, 0, ha, hj, by omega, by omega, rfl⟩
        · rw [List.mem_singleton.mp h]
          exact ⟨i, i + 1 + j, a, b, 1, ha, hj, by omega, by omega, rfl⟩
theorem cr_cw {w m : Wb} {n : Nat} (C : Cw w n) (B : Back w) (E : EsOk w (endsN w w.length)) (h : m ∈ crW w) : Cw m n ∧ Back m ∧ m.length = w.length := by
  unfold crW at h
  obtain ⟨o, ho, ho2⟩ := List.mem_filterMap.mp h
  simp only [id] at ho2
  subst ho2
  obtain ⟨i, j, a, b, ab, ha, hb, hij, hab, e⟩ := crA_mem ho
  have T := es_tie2 E ha hb hij
  have e := e.symm
  obtain ⟨l1, l2⟩ := due_len B T e
  have hB : Back m := by
    unfold dueC at e
    split at e
    · cases e
    · rename_i hq
      have hq : decide (a.1 = a.2) = decide (b.1 = b.2) := by simpa using hq
      obtain ⟨T1, T2⟩ := T.tw B hq
      by_cases h1 : ab = 1
      · subst h1
        have e' : (if (metL (crossX w a.1 a.2 b.2 b.1) 0).length = (crossX w a.1 a.2 b.2 b.1).length then some (crossX w a.1 a.2 b.2 b.1) else none) = some m := e
        have hB := T2.back B
        generalize crossX w a.1 a.2 b.2 b.1 = X at e' hB
        split at e'
        · cases e'; exact hB
        · cases e'
      · have h0 : ab = 0 := by omega
        subst h0
        have e' : (if (metL (crossX w a.1 a.2 b.1 b.2) 0).length = (crossX w a.1 a.2 b.1 b.2).length then some (crossX w a.1 a.2 b.1 b.2) else none) = some m := e
        have hB := T1.back B
        generalize crossX w a.1 a.2 b.1 b.2 = X at e' hB
        split at e'
        · cases e'; exact hB
        · cases e'
  have hr : ∀ r x, m[r]? = some x → rowD m r = x := fun r x hx => by unfold rowD; rw [hx]; rfl
  refine ⟨⟨by rw [l1]; exact C.len, fun r i s j ha => (dw_of (a := (s, j)) (hB r i s j ha)).1, fun r x hx => ?_⟩, hB, l1⟩
  have h1 := l2 r
  have hrl : r < w.length := by rw [← l1]; exact (List.getElem?_eq_some_iff.mp hx).1
  have h2 := C.six r _ (row_at hrl)
  rw [hr r x hx] at h1
  omega
def fitW (w : Wb) (r n : Nat) (ss : List St) : List Wb := (w :: crW w).filter fun m => (lastF m r n ss).isSome
def Fi54I (S0 : Sto) (p : Nat) (ws : List Wb) (r n : Nat) (ss : List St) (i : Nat) (acc : List D) (S : Sto) : Prop := acc = ((ws.take i).filter fun m => (lastF m r n ss).isSome).map wD ∧ S[p]? = some (.lst (ws.map wD)) ∧ S0.length ≤ S.length ∧ ∀ m, m < S0.length → S[m]? = S0[m]?
theorem put_right_ok {S : Sto} {w : Wb} {k r n : Nat} {ss : List St} {M : List Wb} {Q : D → Sto → Prop} (C : Cw w k) (B : Back w) (E : EsOk w (endsN w w.length)) (hw : w.length ≤ 24) (hr : r < w.length) (hl : ss.length ≤ 900000)
    (hM : ∀ (S : Sto) (n' : Nat) (Q : D → Sto → Prop), S[n']? = some (.lst ((fitW w r n ss).map wD)) → (Wp (sortSetBD (.loc n') S) Q ↔ Q (.loc S.length) (S ++ [.lst (M.map wD)])))
    (q : ∀ (S' : Sto) (p : Nat), S'[p]? = some (.lst (M.map wD)) → S.length ≤ p → S.length ≤ S'.length → (∀ m, m < S.length → S'[m]? = S[m]?) → Q (.loc p) S') : Wp (g_put_right [wD w, nD r, stoD n ss] S) Q := by
  unfold g_put_right
  refine (wp_fnD (by rfl)).mpr ?_
  unfold b_put_right
  have hcr : (crW w).length ≤ 20592 := by
    unfold crW
    have h1 := crA_len (w := w) (es := endsN w w.length) (endsN w w.length).length (Nat.le_refl _)
    have h2 : (endsN w w.length).length * ((endsN w w.length).length - 1) ≤ 144 * 143 := Nat.mul_le_mul E.few (by have := E.few; omega)
    have h3 := List.length_filterMap_le (id : Option Wb → Option Wb) (crA w (endsN w w.length) (endsN w w.length).length)
    omega
  (simp! only [])
  refine crossings_ok B hw (by omega) C.six fun S1 p hp lp l1 f1 => ?_
  simp only [List.length_append, List.length_singleton] at lp l1 f1
  have h1 : S1[S.length]? = some (.lst ([w].map wD)) := (f1 _ (by omega)).trans sto_new
  rw [wq_catL h1 hp]
  refine ⟨by rw [List.length_map, List.length_map]; simp; omega, ?_⟩
  have h2 : (S1 ++ [MO.lst ([w].map wD ++ (crW w).map wD)])[S1.length]? = some (.lst ((w :: crW w).map wD)) := sto_new
  have f2 : ∀ m, m < S.length → (S1 ++ [MO.lst ([w].map wD ++ (crW w).map wD)])[m]? = S[m]? := fun m hm => by rw [sto_app (by omega), f1 m (by omega), sto_app hm]
  have l2 : (S1 ++ [MO.lst ([w].map wD ++ (crW w).map wD)]).length = S1.length + 1 := by simp
  generalize S1 ++ [MO.lst ([w].map wD ++ (crW w).map wD)] = S2 at h2 f2 l2 ⊢
  refine ⟨_, src_loc h2, ?_⟩
  refine lc_live _ _ (by rw [List.length_map, List.length_cons]; omega) (Fi54I S S1.length (w :: crW w) r n ss) ⟨rfl, h2, by omega, f2⟩ (fun i acc S' h => h.2.1) ?_ ?_
  · rintro i d acc S3 hd ⟨rfl, h3, l3, f3⟩
    rw [List.getElem?_map] at hd
    obtain ⟨m, hm, rfl⟩ := Option.map_eq_some_iff.mp hd
    refine ⟨_, pb_nm, ?_⟩
    have hCm : Cw m k ∧ m.length = w.length := by
      rcases List.mem_cons.mp (List.mem_of_getElem? hm) with rfl | hm
      · exact ⟨C, rfl⟩
      · have := cr_cw C B E hm; exact ⟨this.1, this.2.2⟩
    (simp! only [])
    refine fits_ok hCm.1 (by omega) hl fun S4 l4 f4 => ⟨_, rfl, ?_⟩
    have h4 := (f4 _ (sto_lt h3)).trans h3
    cases hs : (lastF m r n ss).isSome with
    | true =>
      rw [if_pos rfl]
      refine ⟨?_, h4, by omega, fun j hj => (f4 j (by omega)).trans (f3 j hj)⟩
      rw [List.take_add_one, hm, List.filter_append]
      simp [hs]
    | false =>
      rw [if_neg (by decide)]
      refine ⟨?_, h4, by omega, fun j hj => (f4 j (by omega)).trans (f3 j hj)⟩
      rw [List.take_add_one, hm, List.filter_append]
      simp [hs]
  · rintro acc S3 ⟨rfl, h3, l3, f3⟩
    rw [List.length_map, List.take_length]
    have h4 : (S3 ++ [MO.lst (((w :: crW w).filter fun m => (lastF m r n ss).isSome).map wD)])[S3.length]? = some (.lst ((fitW w r n ss).map wD)) := sto_new
    rw [hM _ _ _ h4]
    exact q _ _ sto_new (by simp; omega) (by simp; omega) fun m hm => by rw [sto_app (by simp; omega), sto_app (by omega)]; exact f3 m hm
end SW
namespace SW
open PySem L2

/-! k54: the law -/
def T54 : EvS := (seqS (stS 10 (aE g_put_right (consA (vE 3) (consA (vE 6) (consA (vE 7) nilA)))))
  (seqS (ifS (notT (tB (aE (g_l_same_v2 8) (consA (vE 10) (consA (vE 8) nilA))))) (rtS (cE (.bl false))) nxS)
  (exS (mE appendM (vE 10) (consA (vE 3) nilA)))))
def D54 : EvS := (seqS (stS 8 (u1E sortSetBD (lcE (sqI (vE 4)) (.nm 11) (tB (b2E isNotD (aE g_l_last (consA (vE 11) (consA (vE 6) (consA (vE 7) nilA)))) (cE .non))) (vE 11) [11])))
  (forS (rgI1 (cE (.int 2))) (.nm 9) T54))
def S54 : EvS := (seqS (stS 6 (aE g_l_take_v2 (consA (vE 1) (consA (vE 2) nilA))))
  (seqS (stS 7 (aE g_l_story (consA (vE 5) (consA (vE 6) (consA (aE g_l_way_v2 (consA (vE 1) (consA (vE 5) (consA (vE 6) (consA (aE g_l_take_v2 (consA (vE 1) (consA (cE (.int 9)) nilA))) nilA))))) nilA)))))
  D54))
def X54 : EvS := (seqS (stS 2 (b2E sbD (aE lstD (consA (b2E addD (cE (.int 1)) (aE g_l_take_v2 (consA (vE 1) (consA (cE (.int 4)) nilA)))) (consA (cE (.int 7)) nilA))) (aE intD (consA (b2E eqD (aE g_l_take_v2 (consA (vE 1) (consA (cE (.int 8)) nilA))) (cE (.int 0))) nilA))))
  (seqS (stS 3 (aE g_l_web_v2 (consA (vE 1) (consA (vE 2) (consA (b2E addD (cE (.int 1)) (aE g_l_take_v2 (consA (vE 1) (consA (cE (.int 3)) nilA)))) nilA)))))
  (seqS (stS 4 (aE g_l_all_crossed (consA (vE 3) nilA)))
  (seqS (stS 5 (b2E sbD (aE lstD (consA (vE 3) (consA (b2E sbD (vE 4) (aE g_l_take_v2 (consA (vE 1) (consA (aE lenD (consA (vE 4) nilA)) nilA)))) (consA (aE g_l_web_v2 (consA (vE 1) (consA (vE 2) (consA (cE (.int 2)) nilA)))) nilA)))) (aE g_l_take_v2 (consA (vE 1) (consA (cE (.int 3)) nilA)))))
  S54))))
def T54I (S0 : Sto) (b n r p d8 : Nat) (w o : Wb) (st : D) (M : List Wb) (o0 : Option D) (i : Nat) (τ : Tau) (S : Sto) : Prop := ∃ o9 o10 o11 : Option D, τ = [o0, some (.loc b), some (nD n), some (wD w), some (.loc p), some (wD o), some (nD r), some st, some (.loc d8), o9, o10, o11] ∧ S[d8]? = some (.lst (M.map wD)) ∧ S0.length ≤ S.length ∧ ∀ m, m < S0.length → S[m]? = S0[m]?
def Du54I (S0 : Sto) (ws : List Wb) (r n : Nat) (ss : List St) (i : Nat) (acc : List D) (S : Sto) : Prop := acc = ((ws.take i).filter fun m => (lastF m r n ss).isSome).map wD ∧ S = S0
theorem d54_ok {S : Sto} {b n r p : Nat} {k : Nat} {w o : Wb} {ss : List St} {o0 o8 o9 o10 o11 : Option D} {Q : Out → Sto → Prop} (C : Cw w n) (B : Back w) (E : EsOk w (endsN w w.length)) (hn : n ≤ 7) (hr : r < n) (hfew : (crW w).length ≤ 72) (hl : ss.length ≤ 900000) (hp : S[p]? = some (.lst ((w :: crW w).map wD)))
    (q : ∀ (S' : Sto) (o8 o9 o10 o11 : Option D), S.length ≤ S'.length → (∀ m, m < S.length → S'[m]? = S[m]?) → Q (.nx [o0, some (.loc b), some (nD n), some (wD w), some (.loc p), some (wD o), some (nD r), some (stoD k ss), o8, o9, o10, o11]) S') :
    Wp (D54 [o0, some (.loc b), some (nD n), some (wD w), some (.loc p), some (wD o), some (nD r), some (stoD k ss), o8, o9, o10, o11] S) Q := by
  unfold D54
  generalize hT : T54 = TT
  have hwl := C.len
  have hcm : ∀ m ∈ w :: crW w, Cw m n ∧ m.length = w.length := fun m hm => by
    rcases List.mem_cons.mp hm with rfl | hm
    · exact ⟨C, rfl⟩
    · have := cr_cw C B E hm; exact ⟨this.1, this.2.2⟩
  have hfl : (fitW w r k ss).length < 77 := by
    have := List.length_filter_le (fun m => (lastF m r k ss).isSome) (w :: crW w)
    unfold fitW
    rw [List.length_cons] at this
    omega
  obtain ⟨M, hM1, hM2, hM3⟩ := ss_webs (fitW w r k ss) hfl fun m hm z => by
    have := (hcm m (List.mem_filter.mp hm).1).2
    rw [z] at this
    simp at this
    omega
  (simp! only [])
  refine ⟨_, src_loc hp, ?_⟩
  refine lc_live _ _ (by rw [List.length_map, List.length_cons]; omega) (Du54I S (w :: crW w) r k ss) ⟨rfl, rfl⟩ (fun i acc S' h => h.2 ▸ hp) ?_ ?_
  · rintro i d acc S3 hd ⟨rfl, rfl⟩
    rw [List.getElem?_map] at hd
    obtain ⟨m, hm, rfl⟩ := Option.map_eq_some_iff.mp hd
    refine ⟨_, pb_nm, ?_⟩
    have hCm := hcm m (List.mem_of_getElem? hm)
    (simp! only [])
    refine last_ok hCm.1 (by omega) ?_
    cases hs : lastF m r k ss with
    | none =>
      have en : isNonD (optD none) = true := rfl
      (simp! only [wp_isnot_non, en])
      exact ⟨by rw [List.take_add_one, hm, List.filter_append]; simp [hs], rfl⟩
    | some x =>
      have en : isNonD (optD (some x)) = false := rfl
      (simp! only [wp_isnot_non, en])
      exact ⟨by rw [List.take_add_one, hm, List.filter_append]; simp [hs], rfl⟩
  · rintro acc S3 ⟨rfl, rfl⟩
    rw [List.length_map, List.take_length]
    have h4 : (S3 ++ [MO.lst (((w :: crW w).filter fun m => (lastF m r k ss).isSome).map wD)])[S3.length]? = some (.lst ((fitW w r k ss).map wD)) := sto_new
    rw [hM3 _ _ _ h4]
    have h5 : (S3 ++ [MO.lst (((w :: crW w).filter fun m => (lastF m r k ss).isSome).map wD)] ++ [MO.lst (M.map wD)])[(S3 ++ [MO.lst (((w :: crW w).filter fun m => (lastF m r k ss).isSome).map wD)]).length]? = some (.lst (M.map wD)) := sto_new
    have f5 : ∀ m, m < S3.length → (S3 ++ [MO.lst (((w :: crW w).filter fun m => (lastF m r k ss).isSome).map wD)] ++ [MO.lst (M.map wD)])[m]? = S3[m]? := fun m hm => by rw [sto_app (by simp <;> omega), sto_app hm]
    have l5 : S3.length ≤ (S3 ++ [MO.lst (((w :: crW w).filter fun m => (lastF m r k ss).isSome).map wD)] ++ [MO.lst (M.map wD)]).length := by simp <;> omega
    generalize (S3 ++ [MO.lst (((w :: crW w).filter fun m => (lastF m r k ss).isSome).map wD)]).length = d8 at h5 ⊢
    generalize S3 ++ [MO.lst (((w :: crW w).filter fun m => (lastF m r k ss).isSome).map wD)] ++ [MO.lst (M.map wD)] = S5 at h5 f5 l5 ⊢
    (simp! only [])
    refine ⟨by decide, ?_⟩
    have e2 : (2 : Int).toNat = 2 := rfl
    rw [e2]
    refine lo_rng 0 2 (T54I S3 b n r p d8 w o (stoD k ss) M o0) ⟨_, _, _, rfl, h5, l5, f5⟩ ?_ ?_
    · rintro i τ S6 hi ⟨o9, o10, o11, rfl, h6, l6, f6⟩
      refine ⟨_, pb_nm, ?_⟩
      subst hT
      unfold T54
      (simp! only [])
      refine put_right_ok C B E (by omega) (by omega) hl hM3 fun S7 p7 hp7 lp7 l7 f7 => ?_
      have h7 := (f7 _ (sto_lt h6)).trans h6
      have hpl : ∀ d ∈ M.map wD, pl 6 d = true := fun d hd => by
        obtain ⟨m, hm, rfl⟩ := List.mem_map.mp hd
        have := hcm m (List.mem_filter.mp (hM2 m hm)).1
        exact pl_web (n := 3) (by omega) this.1.six
      (simp! only [])
      refine sameL_ok (n := 6) hp7 h7 (by rw [List.length_map]; omega) hpl fun S8 l8 f8 => ⟨_, rfl, ?_⟩
      rw [if_neg (by decide)]
      have hp8 := (f8 _ (sto_lt hp7)).trans hp7
      have h8 := (f8 _ (sto_lt h7)).trans h7
      have h6l := sto_lt h6
      (simp! only [isLst_loc hp8, wq_append hp8])
      refine ⟨by rw [List.length_map]; omega, _, _, _, rfl, by rw [sto_ne (by omega)]; exact h8, by rw [List.length_set]; omega, fun m hm => by rw [sto_ne (by omega), f8 m (by omega), f7 m (by omega)]; exact f6 m hm⟩
    · rintro τ S6 ⟨o9, o10, o11, rfl, h6, l6, f6⟩
      exact q S6 _ _ _ _ l6 f6
theorem s54_ok {S : Sto} {b n p z : Nat} {w o : Wb} {o0 o6 o7 o8 o9 o10 o11 : Option D} {Q : Out → Sto → Prop} (C : Cw w n) (B : Back w) (E : EsOk w (endsN w w.length)) (Co : Cw o n) (n0 : 0 < n) (hn : n ≤ 7) (hfew : (crW w).length ≤ 72) (hb : Bx S b z) (hz : z < 600000) (hp : S[p]? = some (.lst ((w :: crW w).map wD))) (hpb : p ≠ b)
    (q : ∀ (S' : Sto) (o6 o7 o8 o9 o10 o11 : Option D), S.length ≤ S'.length → (∀ m, m < S.length → m ≠ b → S'[m]? = S[m]?) → Q (.nx [o0, some (.loc b), some (nD n), some (wD w), some (.loc p), some (wD o), o6, o7, o8, o9, o10, o11]) S') :
    Wp (S54 [o0, some (.loc b), some (nD n), some (wD w), some (.loc p), some (wD o), o6, o7, o8, o9, o10, o11] S) Q := by
  unfold S54
  generalize hD : D54 = DD
  have c9 : D.int 9 = D.int ((9 : Nat) : Int) := rfl
  have ek : ∀ y : Nat, D.int (y : Int) = nD y := fun _ => rfl
  have enn : nD n = D.int (n : Int) := rfl
  (simp! only [enn])
  refine take2_ok hb (by omega) n0 (by omega) fun r S1 hr hb1 l1 f1 => ?_
  (simp! only [])
  rw [c9]
  refine take2_ok hb1 (by omega) (by omega) (by omega) fun many S2 hm hb2 l2 f2 => ?_
  have hp2 : S2[p]? = some (.lst ((w :: crW w).map wD)) := by rw [f2 p hpb, f1 p hpb]; exact hp
  rw [ek many, ek r]
  refine way2_ok hb2 (by omega) Co hr (by omega) fun S3 ds es hs hdl hb3 fr3 => ?_
  refine story_ok Co (by rw [Co.len]; exact hr) hs (by omega) fun S4 l4 f4 => ?_
  have hp3 := fr3.get hpb hp2
  have hp4 := (f4 _ (sto_lt hp3)).trans hp3
  have l3 := fr3.len
  (simp! only [])
  subst hD
  rw [ek n]
  refine d54_ok C B E hn hr hfew (Nat.le_trans stps_len (by omega)) hp4 fun S' o8 o9 o10 o11 l' f' => ?_
  exact q S' _ _ _ _ _ _ (by omega) fun m hm hmb => by rw [f' m (by omega), f4 m (by omega), fr3.at_ m (by omega) hmb, f2 m hmb, f1 m hmb]
theorem x54_ok {S : Sto} {b : Nat} {o0 o2 o3 o4 o5 o6 o7 o8 o9 o10 o11 : Option D} {Q : Out → Sto → Prop} (hb : Bx S b 0)
    (q : ∀ (S' : Sto) (o2 o3 o4 o5 o6 o7 o8 o9 o10 o11 : Option D), Fr S S' b → Q (.nx [o0, some (.loc b), o2, o3, o4, o5, o6, o7, o8, o9, o10, o11]) S') :
    Wp (X54 [o0, some (.loc b), o2, o3, o4, o5, o6, o7, o8, o9, o10, o11] S) Q := by
  unfold X54
  generalize hSS : S54 = SS
  have c2 : D.int 2 = nD 2 := rfl
  have c3 : D.int 3 = D.int ((3 : Nat) : Int) := rfl
  have c4 : D.int 4 = D.int ((4 : Nat) : Int) := rfl
  have c8 : D.int 8 = D.int ((8 : Nat) : Int) := rfl
  have ek : ∀ y : Nat, D.int (y : Int) = nD y := fun _ => rfl
  have hbl := hb.lt
  (simp! only [])
  rw [c4]
  refine take2_ok hb (by omega) (by omega) (by omega) fun v S1 hv hb1 l1 f1 => ?_
  have ev : (1 : Int) + (v : Int) = ((1 + v : Nat) : Int) := by omega
  (simp! only [ev])
  rw [c8]
  have hn1 : (S1 ++ [MO.lst [D.int ((1 + v : Nat) : Int), D.int 7]])[S1.length]? = some (.lst [D.int ((1 + v : Nat) : Int), D.int 7]) := sto_new
  refine take2_ok (hb1.of (sto_app hb1.lt)) (by omega) (by omega) (by omega) fun u S2 hu hb2 l2 f2 => ?_
  have hn2 := (f2 S1.length (by omega)).trans hn1
  have F2 : Fr S S2 b := ⟨by simp at l2; omega, fun m hm hmb => by rw [f2 m hmb, sto_app (by omega), f1 m hmb]⟩
  obtain ⟨n, n0, n7, hat⟩ : ∃ n : Nat, 0 < n ∧ n ≤ 7 ∧ atI [D.int ((1 + v : Nat) : Int), D.int 7] (if ((u : Int) = 0) then 1 else 0) = some (.int (n : Int)) := by
    by_cases z : u = 0
    · exact ⟨7, by omega, by omega, by rw [if_pos (by simp [z])]; rfl⟩
    · exact ⟨1 + v, by omega, by omega, by rw [if_neg (by simp; omega)]; rfl⟩
  (simp! only [wp_eqI, wq_sbL hn2, hat])
  rw [c3]
  refine take2_ok hb2 (by omega) (by omega) (by omega) fun m S3 hm hb3 l3 f3 => ?_
  have em : (1 : Int) + (m : Int) = ((1 + m : Nat) : Int) := by omega
  have F3 : Fr S S3 b := F2.trans ⟨by omega, fun m _ h => f3 m h⟩
  (simp! only [em])
  rw [ek (1 + m), ek n]
  refine web2_ok3 hb3 (by omega) ⟨n0, by omega⟩ (by omega) fun S4 w C B _ hsrc hb4 fr4 => ?_
  have F4 := F3.trans fr4
  have hwl := C.len
  have hties := src2_ties B hsrc
  have E : EsOk w (endsN w w.length) := by
    obtain ⟨d, S', e, hq⟩ := ties_ok (S := ([] : Sto)) (w := w) (Q := fun _ _ => ∃ es, EsOk w es) (by omega) C.six fun S' es E _ _ _ => ⟨es, E⟩
    obtain ⟨es, E⟩ := hq
    rw [← E.is]; exact E
  have hfew : (crW w).length ≤ 72 := by
    have h1 := crA_len (w := w) (es := endsN w w.length) (endsN w w.length).length (Nat.le_refl _)
    have h2 : (endsN w w.length).length * ((endsN w w.length).length - 1) ≤ 9 * 8 := Nat.mul_le_mul (by omega) (by omega)
    have h3 := List.length_filterMap_le (id : Option Wb → Option Wb) (crA w (endsN w w.length) (endsN w w.length).length)
    unfold crW
    omega
  (simp! only [])
  refine all_crossed_ok B (by omega) (by omega) C.six fun S5 p hp lp l5 f5 => ?_
  have hbl4 := hb4.lt
  have hb5 := hb4.of (f5 b hbl4)
  have F5 : Fr S S5 b := F4.trans ⟨l5, fun m hm _ => f5 m hm⟩
  have hpb : p ≠ b := by omega
  (simp! only [len_loc hp, List.length_map])
  refine take2_ok hb5 (by omega) (by omega) (by omega) fun i S6 hi hb6 l6 f6 => ?_
  have hp6 := (f6 p hpb).trans hp
  obtain ⟨mi, hmi⟩ : ∃ mi, (w :: crW w)[i]? = some mi := ⟨_, List.getElem?_eq_getElem (by rw [List.length_cons]; omega)⟩
  have hmm := List.mem_of_getElem? hmi
  have Cm : Cw mi n := by
    rcases List.mem_cons.mp hmm with rfl | hm
    · exact C
    · exact (cr_cw C B E hm).1
  have hati : atI ((w :: crW w).map wD) (i : Int) = some (wD mi) := atI_of (by rw [List.getElem?_map, hmi]; rfl)
  rw [wq_sbL hp6]
  refine ⟨_, hati, ?_⟩
  (simp! only [])
  rw [c2]
  refine web2_ok hb6 (by omega) ⟨n0, by omega⟩ (by omega) fun S7 w2 C2 hb7 fr7 => ?_
  have hp7 := fr7.get hpb hp6
  have F7 : Fr S S7 b := (F5.trans ⟨by omega, fun m _ h => f6 m h⟩).trans fr7
  have hn7 : (S7 ++ [MO.lst [wD w, wD mi, wD w2]])[S7.length]? = some (.lst [wD w, wD mi, wD w2]) := sto_new
  have hp8 : (S7 ++ [MO.lst [wD w, wD mi, wD w2]])[p]? = some (.lst ((w :: crW w).map wD)) := (sto_app (sto_lt hp7)).trans hp7
  (simp! only [])
  refine take2_ok (hb7.of (sto_app hb7.lt)) (by omega) (by omega) (by omega) fun t S9 ht hb9 l9 f9 => ?_
  have hbl7 := hb7.lt
  have hn9 := (f9 S7.length (by omega)).trans hn7
  have hp9 := (f9 p hpb).trans hp8
  have F9 : Fr S S9 b := (F7.trans (Fr.app _ _ _)).trans ⟨by omega, fun m _ h => f9 m h⟩
  obtain ⟨o, Co, hato⟩ : ∃ o : Wb, Cw o n ∧ atI [wD w, wD mi, wD w2] (t : Int) = some (wD o) := by
    rcases (show t = 0 ∨ t = 1 ∨ t = 2 by omega) with rfl | rfl | rfl
    · exact ⟨w, C, rfl⟩
    · exact ⟨mi, Cm, rfl⟩
    · exact ⟨w2, C2, rfl⟩
  (simp! only [wq_sbL hn9, hato])
  subst hSS
  refine s54_ok C B E Co n0 n7 hfew hb9 (by omega) hp9 hpb fun S' o6 o7 o8 o9 o10 o11 l' f' => ?_
  exact q S' _ _ _ _ _ _ _ _ _ _ (F9.trans ⟨l', f'⟩)
def O54 (m : Nat) (bs : List Nat) (o0 : Option D) (i : Nat) (τ : Tau) (S : Sto) : Prop := ∃ o1 o2 o3 o4 o5 o6 o7 o8 o9 o10 o11 : Option D, τ = [o0, o1, o2, o3, o4, o5, o6, o7, o8, o9, o10, o11] ∧ S[m]? = some (.lst (bs.map D.loc)) ∧ ∀ (j b : Nat), i ≤ j → bs[j]? = some b → Bx S b 0
theorem law_true (ns : List Int) (hns : ns.length ≤ 63) : ∃ S', g_law_v79 [.fl (ns.map D.int)] [] = some (.bl true, S') := by
  have main : Wp (g_law_v79 [.fl (ns.map D.int)] []) fun d _ => d = .bl true := by
    unfold g_law_v79
    refine (wp_fnD (by rfl)).mpr ?_
    show Wp (seqS (forS (sqI (aE g_l_boxes (consA (vE 0) (consA (cE (.int 6)) nilA)))) (.nm 1) X54) (rtS (cE (.bl true))) _ _) _
    generalize hX : X54 = X
    (simp! only [])
    refine boxes6_ok hns fun S1 m bs hm hp hb hbl => ?_
    refine ⟨_, src_loc hm, ?_⟩
    refine lo_live _ _ (O54 m bs _) ⟨_, _, _, _, _, _, _, _, _, _, _, rfl, hm, fun j b _ hj => (hb b (List.mem_of_getElem? hj)).2⟩ (fun i τ S' ⟨_, _, _, _, _, _, _, _, _, _, _, _, h, _⟩ => h) ?_ ?_
    · rintro i d τ S2 hd ⟨o1, o2, o3, o4, o5, o6, o7, o8, o9, o10, o11, rfl, hm2, hb2⟩
      rw [List.getElem?_map] at hd
      obtain ⟨b, hbi, rfl⟩ := Option.map_eq_some_iff.mp hd
      have hbm := (hb b (List.mem_of_getElem? hbi)).1
      refine ⟨_, pb_nm, ?_⟩
      subst hX
      refine x54_ok (hb2 i b (Nat.le_refl _) hbi) fun S3 o2 o3 o4 o5 o6 o7 o8 o9 o10 o11 F => ?_
      refine ⟨_, _, _, _, _, _, _, _, _, _, _, rfl, F.get (by omega) hm2, fun j b' hj hb' => ?_⟩
      have h2 := hb2 j b' (by omega) hb'
      have hne : b' ≠ b := by
        obtain ⟨hi1, rfl⟩ := List.getElem?_eq_some_iff.mp hbi
        obtain ⟨hj1, rfl⟩ := List.getElem?_eq_some_iff.mp hb'
        have := List.pairwise_iff_getElem.mp hp i j hi1 hj1 (by omega)
        omega
      exact h2.of (F.at_ b' h2.lt hne)
    · rintro τ S2 ⟨o1, o2, o3, o4, o5, o6, o7, o8, o9, o10, o11, rfl, hm2, hb2⟩
      (simp! only [])
  obtain ⟨d, S', e, rfl⟩ := main
  exact ⟨S', e⟩
end SW
namespace SW
open PySem L2
section
variable {P : Program} {w : World} {K : PySem.W.Frag} {mg : Str → Option Value} {base : Heap}
def top (i : Nat) : Stmt := PySem.Challenge.pw_stonewalker_k54_webs_put_right.main.body.getD i (.Pass ⟨0, 0, 0, 0⟩)
/-! _law_box -/
abbrev s_l_box : Stmt := top 19
abbrev N_l_box : List Str := ["_law_script", "_law_k", "_law_cell", "_law_digits"]
theorem sc_l_box : FnScope N_l_box ["_law_script", "_law_k"] (defScope s_l_box) := ⟨rfl, rfl, rfl, by decide +kernel, rfl, by decide +kernel, by decide +kernel⟩
theorem ok_l_box {f : Addr} {fd : FuncData} (B : Bi mg) (F : Fun K "_law_box" "_law_box" s_l_box f fd)  : FnOk P w K mg base CX0 1 f fd ["_law_script", "_law_k"] (spE K g_l_box_v2) := by
  have h : ∃ b, FnOk P w K mg base CX0 1 f fd ["_law_script", "_law_k"] (spE K (fnD 2 4 b)) ∧ b = b_l_box_v2 := ⟨_, fn_mk F sc_l_box fun cdv A outer s H E hc =>
    (ess_cons (es_set (i := 2) sc_l_box.nd rfl (by first | exact Or.inl rfl | exact Or.inr rfl) ee_int)
  (ess_cons (es_if (et_cmp (opr_lt hc) op2_lt (ee_v 1 (pv 1)) (ee_cb opr_len opa_len rfl B.n_len (by decide +kernel) (ea_cons (ee_v 0 (pv 0)) ea_nil)) (nomark _)) (ess_one (es_set (i := 2) sc_l_box.nd rfl (by first | exact Or.inl rfl | exact Or.inr rfl) (ee_sub hc (ee_v 0 (pv 0)) (ee_v 1 (pv 1))))) ess_nil)
  (ess_cons (es_set (i := 3) sc_l_box.nd rfl (by first | exact Or.inl rfl | exact Or.inr rfl) ee_int)
  (ess_cons (es_if (et_cmp op_ge op2_ge (ee_cb call_abs opa_abs rfl B.n_abs (by decide +kernel) (ea_cons (ee_v 2 (pv 2)) ea_nil)) (ee_op op_pow op2_pow ee_int ee_int) (nomark _)) (ess_one (es_set (i := 3) sc_l_box.nd rfl (by first | exact Or.inl rfl | exact Or.inr rfl) (ee_cb call_abs opa_abs rfl B.n_abs (by decide +kernel) (ea_cons (ee_v 2 (pv 2)) ea_nil)))) ess_nil)
  (ess_one (es_ret (ee_lst (ea_cons (ee_v 3 (pv 3)) (ea_cons (ee_op op_modN op2_mod (ee_op opr_mul op2_mul (ee_op opr_add op2_add (ee_op opr_add op2_add (ee_op op_modN op2_mod (ee_v 2 (pv 2)) ee_int) (ee_op opr_mul op2_mul ee_int (ee_v 1 (pv 1)))) ee_int) ee_int) ee_int) (ea_cons ee_int ea_nil)))))))))), rfl⟩
  obtain ⟨_, h, rfl⟩ := h
  exact h
theorem cal_l_box (B : Bi mg) (D : DefAt K mg "_law_box" s_l_box ["_law_script", "_law_k"])  : Cal P w K mg base 1 "_law_box" g_l_box_v2 :=
  let ⟨f, fd, F, hm, hb⟩ := D.ex
  ⟨f, fd, ["_law_script", "_law_k"], ok_l_box B F , hm, F.kp, hb⟩
/-! _law_boxes -/
abbrev s_l_boxes : Stmt := top 21
abbrev N_l_boxes : List Str := ["_law_script", "_law_most", "_law_cells", "_law_k"]
theorem sc_l_boxes : FnScope N_l_boxes ["_law_script", "_law_most"] (defScope s_l_boxes) := ⟨rfl, rfl, rfl, by decide +kernel, rfl, by decide +kernel, by decide +kernel⟩
theorem ok_l_boxes {f : Addr} {fd : FuncData} (B : Bi mg) (F : Fun K "_law_boxes" "_law_boxes" s_l_boxes f fd) (c_l_box : Cal P w K mg base 1 "_law_box" g_l_box_v2) : FnOk P w K mg base CX0 2 f fd ["_law_script", "_law_most"] (spE K g_l_boxes) := by
  have h : ∃ b, FnOk P w K mg base CX0 2 f fd ["_law_script", "_law_most"] (spE K (fnD 2 4 b)) ∧ b = b_l_boxes := ⟨_, fn_mk F sc_l_boxes fun cdv A outer s H E hc =>
    (ess_cons (es_set (i := 2) sc_l_boxes.nd rfl (by first | exact Or.inl rfl | exact Or.inr rfl) (ee_lc (own := [("_law_k", 3)]) rfl sc_l_boxes.nd (ei_range1 rfl B.n_range (ee_cb (call_max2 rfl) opa_max2 rfl B.n_max (by decide +kernel) (ea_cons ee_int (ea_cons (ee_cb (call_min2 rfl) opa_min2 rfl B.n_min (by decide +kernel) (ea_cons (ee_v 1 (pv 1)) (ea_cons (ee_cb opr_len opa_len rfl B.n_len (by decide +kernel) (ea_cons (ee_v 0 (pv 0)) ea_nil)) ea_nil))) ea_nil)))) (blkOk_by (N := N_l_boxes) (sc := defScope s_l_boxes) (by decide +kernel)) (by decide) (fun _ _ _ _ _ => (eg_nm (pg_name (i := 3) sc_l_boxes.nd rfl (by first | exact Or.inl rfl | exact Or.inr rfl)))) (fun _ _ _ _ _ => et_yes) (fun _ _ _ _ _ => (ee_cb (cr_sum rfl) opa_sum rfl B.n_sum (by decide +kernel) (ea_cons (ee_slice3 (ee_v 0 (pv 0)) (eo_some (ee_v 3 (pv 3))) (eo_some ee_int) (eo_some (ee_v 1 (pv 1)))) ea_nil)))))
  (ess_one (es_ret (ee_lc (own := [("_law_k", 3)]) rfl sc_l_boxes.nd (ei_range1 rfl B.n_range (ee_cb opr_len opa_len rfl B.n_len (by decide +kernel) (ea_cons (ee_v 2 (pv 2)) ea_nil))) (blkOk_by (N := N_l_boxes) (sc := defScope s_l_boxes) (by decide +kernel)) (by decide) (fun _ _ _ _ _ => (eg_nm (pg_name (i := 3) sc_l_boxes.nd rfl (by first | exact Or.inl rfl | exact Or.inr rfl)))) (fun _ _ _ _ _ => et_yes) (fun _ _ _ _ _ => (ee_call c_l_box hc.blk (by omega) rfl (ea_cons (ee_v 2 (pv 2)) (ea_cons (ee_v 3 (pv 3)) ea_nil)))))))), rfl⟩
  obtain ⟨_, h, rfl⟩ := h
  exact h
theorem cal_l_boxes (B : Bi mg) (D : DefAt K mg "_law_boxes" s_l_boxes ["_law_script", "_law_most"]) (c_l_box : Cal P w K mg base 1 "_law_box" g_l_box_v2) : Cal P w K mg base 2 "_law_boxes" g_l_boxes :=
  let ⟨f, fd, F, hm, hb⟩ := D.ex
  ⟨f, fd, ["_law_script", "_law_most"], ok_l_boxes B F c_l_box, hm, F.kp, hb⟩
/-! _law_take -/
abbrev s_l_take : Stmt := top 20
abbrev N_l_take : List Str := ["_law_box_here", "_law_many", "_law_once", "_law_found"]
theorem sc_l_take : FnScope N_l_take ["_law_box_here", "_law_many"] (defScope s_l_take) := ⟨rfl, rfl, rfl, by decide +kernel, rfl, by decide +kernel, by decide +kernel⟩
theorem ok_l_take {f : Addr} {fd : FuncData} (B : Bi mg) (F : Fun K "_law_take" "_law_take" s_l_take f fd)  : FnOk P w K mg base CX0 1 f fd ["_law_box_here", "_law_many"] (spE K g_l_take_v2) := by
  have h : ∃ b, FnOk P w K mg base CX0 1 f fd ["_law_box_here", "_law_many"] (spE K (fnD 2 4 b)) ∧ b = b_l_take_v2 := ⟨_, fn_mk F sc_l_take fun cdv A outer s H E hc =>
    (ess_cons (es_if (et_cmp op_gt op2_gt (ee_sub hc (ee_v 0 (pv 0)) ee_int) ee_int (nomark _)) (ess_cons (es_set (i := 3) sc_l_take.nd rfl (by first | exact Or.inl rfl | exact Or.inr rfl) (ee_op op_modN op2_mod (ee_sub hc (ee_v 0 (pv 0)) ee_int) (ee_v 1 (pv 1))))
  (ess_cons (es_asg (ee_op op_fdiv op2_fdiv (ee_sub hc (ee_v 0 (pv 0)) ee_int) (ee_v 1 (pv 1))) (eG_sub hc (ee_v 0 (pv 0)) ee_int))
  (ess_one (es_ret (ee_v 3 (pv 3)))))) ess_nil)
  (ess_cons (es_asg (ee_op opr_add op2_add (ee_sub hc (ee_v 0 (pv 0)) ee_int) ee_int) (eG_sub hc (ee_v 0 (pv 0)) ee_int))
  (ess_cons (es_set (i := 2) sc_l_take.nd rfl (by first | exact Or.inl rfl | exact Or.inr rfl) (ee_op op_modN op2_mod (ee_op opr_mul op2_mul (ee_op opr_add op2_add (ee_sub hc (ee_v 0 (pv 0)) ee_int) (ee_op opr_mul op2_mul ee_int (ee_sub hc (ee_v 0 (pv 0)) ee_int))) (ee_op opr_add op2_add ee_int (ee_sub hc (ee_v 0 (pv 0)) ee_int))) ee_int))
  (ess_cons (es_asg (ee_op op_modN op2_mod (ee_op opr_add op2_add (ee_op opr_mul op2_mul (ee_v 2 (pv 2)) (ee_op opr_add op2_add (ee_op op_modN op2_mod (ee_v 2 (pv 2)) ee_int) ee_int)) (ee_sub hc (ee_v 0 (pv 0)) ee_int)) ee_int) (eG_sub hc (ee_v 0 (pv 0)) ee_int))
  (ess_one (es_ret (ee_op op_modN op2_mod (ee_op op_fdiv op2_fdiv (ee_op op_modN op2_mod (ee_op opr_mul op2_mul (ee_sub hc (ee_v 0 (pv 0)) ee_int) (ee_op opr_add op2_add (ee_op op_modN op2_mod (ee_sub hc (ee_v 0 (pv 0)) ee_int) ee_int) ee_int)) ee_int) ee_int) (ee_v 1 (pv 1))))))))), rfl⟩
  obtain ⟨_, h, rfl⟩ := h
  exact h
theorem cal_l_take (B : Bi mg) (D : DefAt K mg "_law_take" s_l_take ["_law_box_here", "_law_many"])  : Cal P w K mg base 1 "_law_take" g_l_take_v2 :=
  let ⟨f, fd, F, hm, hb⟩ := D.ex
  ⟨f, fd, ["_law_box_here", "_law_many"], ok_l_take B F , hm, F.kp, hb⟩
/-! _law_web -/
abbrev s_l_web : Stmt := top 22
abbrev N_l_web : List Str := ["_law_box_here", "_law_size", "_law_more", "_law_sides", "_law_leads", "_law_k", "_law_where", "_law_room", "_law_free", "_law_one", "_law_other", "_law_loop", "_law_ahead", "_law_door", "_law_side", "_law_ends"]
theorem sc_l_web : FnScope N_l_web ["_law_box_here", "_law_size", "_law_more"] (defScope s_l_web) := ⟨rfl, rfl, rfl, by decide +kernel, rfl, by decide +kernel, by decide +kernel⟩
theorem ok_l_web {f : Addr} {fd : FuncData} (B : Bi mg) (F : Fun K "_law_web" "_law_web" s_l_web f fd) (c_l_take : Cal P w K mg base 1 "_law_take" g_l_take_v2) : FnOk P w K mg base CX0 2 f fd ["_law_box_here", "_law_size", "_law_more"] (spE K g_l_web_v2) := by
  have h : ∃ b, FnOk P w K mg base CX0 2 f fd ["_law_box_here", "_law_size", "_law_more"] (spE K (fnD 3 16 b)) ∧ b = b_l_web_v2 := ⟨_, fn_mk F sc_l_web fun cdv A outer s H E hc =>
    (ess_cons (es_set (i := 3) sc_l_web.nd rfl (by first | exact Or.inl rfl | exact Or.inr rfl) (ee_lc (own := [("_law_room", 7)]) rfl sc_l_web.nd (ei_range1 rfl B.n_range (ee_v 1 (pv 1))) (blkOk_by (N := N_l_web) (sc := defScope s_l_web) (by decide +kernel)) (by decide) (fun _ _ _ _ _ => (eg_nm (pg_name (i := 7) sc_l_web.nd rfl (by first | exact Or.inl rfl | exact Or.inr rfl)))) (fun _ _ _ _ _ => et_yes) (fun _ _ _ _ _ => (ee_lst ea_nil))))
  (ess_cons (es_set (i := 4) sc_l_web.nd rfl (by first | exact Or.inl rfl | exact Or.inr rfl) ee_nK)
  (ess_cons (es_for PassesOwn.never rfl (ei_range1 rfl B.n_range (ee_op opr_add op2_add (ee_op op_sub op2_sub (ee_v 1 (pv 1)) ee_int) (ee_v 2 (pv 2)))) (eg_nm (pg_name (i := 5) sc_l_web.nd rfl (by first | exact Or.inl rfl | exact Or.inr rfl))) (ess_cons (es_setLc (i := 8) (own := [("_law_room", 7)]) rfl sc_l_web.nd rfl rfl (sw_true rfl rfl rfl (by decide +kernel)) (ei_range1 rfl B.n_range (ee_v 1 (pv 1))) (blkOk_by (N := N_l_web) (sc := defScope s_l_web) (by decide +kernel)) (by decide) (fun _ _ _ _ _ => (eg_nm (pg_name (i := 7) sc_l_web.nd rfl (by first | exact Or.inl rfl | exact Or.inr rfl)))) (fun _ _ _ _ _ => (et_one (et_cmp (opr_lt hc.blk) op2_lt (ee_cb opr_len opa_len rfl B.n_len (by decide +kernel) (ea_cons (ee_sub hc.blk (ee_v 3 (pv 3)) (ee_v 7 (pv 7))) ea_nil)) ee_int (nomark _)))) (fun _ _ _ _ _ => (ee_v 7 (pv 7))))
  (ess_cons (es_if (et_cmp (op_eqD hc.room.units) op2_eq (ee_v 8 (pv 8)) (ee_lst ea_nil) (nomark _)) (ess_one es_continue) ess_nil)
  (ess_cons (es_set (i := 9) sc_l_web.nd rfl (by first | exact Or.inl rfl | exact Or.inr rfl) (ee_sub hc (ee_v 8 (pv 8)) (ee_call c_l_take hc (by omega) rfl (ea_cons (ee_v 0 (pv 0)) (ea_cons (ee_cb opr_len opa_len rfl B.n_len (by decide +kernel) (ea_cons (ee_v 8 (pv 8)) ea_nil)) ea_nil)))))
  (ess_cons (es_set (i := 10) sc_l_web.nd rfl (by first | exact Or.inl rfl | exact Or.inr rfl) (ee_sub hc (ee_v 8 (pv 8)) (ee_call c_l_take hc (by omega) rfl (ea_cons (ee_v 0 (pv 0)) (ea_cons (ee_cb opr_len opa_len rfl B.n_len (by decide +kernel) (ea_cons (ee_v 8 (pv 8)) ea_nil)) ea_nil)))))
  (ess_cons (es_if (et_cmp (opr_lt hc) op2_lt (ee_v 5 (pv 5)) (ee_op op_sub op2_sub (ee_v 1 (pv 1)) ee_int) (nomark _)) (ess_cons (es_set (i := 10) sc_l_web.nd rfl (by first | exact Or.inl rfl | exact Or.inr rfl) (ee_op opr_add op2_add (ee_v 5 (pv 5)) ee_int))
  (ess_cons (es_setLc (i := 12) (own := [("_law_room", 7)]) rfl sc_l_web.nd rfl rfl (sw_true rfl rfl rfl (by decide +kernel)) (ei_seq (ee_v 8 (pv 8))) (blkOk_by (N := N_l_web) (sc := defScope s_l_web) (by decide +kernel)) (by decide) (fun _ _ _ _ _ => (eg_nm (pg_name (i := 7) sc_l_web.nd rfl (by first | exact Or.inl rfl | exact Or.inr rfl)))) (fun _ _ _ _ _ => (et_one (et_cmp (opr_le hc.blk) op2_le (ee_v 7 (pv 7)) (ee_v 5 (pv 5)) (nomark _)))) (fun _ _ _ _ _ => (ee_v 7 (pv 7))))
  (ess_one (es_set (i := 9) sc_l_web.nd rfl (by first | exact Or.inl rfl | exact Or.inr rfl) (ee_sub hc (ee_v 12 (pv 12)) (ee_call c_l_take hc (by omega) rfl (ea_cons (ee_v 0 (pv 0)) (ea_cons (ee_cb opr_len opa_len rfl B.n_len (by decide +kernel) (ea_cons (ee_v 12 (pv 12)) ea_nil)) ea_nil)))))))) ess_nil)
  (ess_cons (es_set (i := 11) sc_l_web.nd rfl (by first | exact Or.inl rfl | exact Or.inr rfl) (ee_and (ee_cmp op_ge op2_ge (ee_v 5 (pv 5)) (ee_op op_sub op2_sub (ee_v 1 (pv 1)) ee_int) (nomark _)) (ee_one (ee_cmp (op_eqD hc.room.units) op2_eq (ee_call c_l_take hc (by omega) rfl (ea_cons (ee_v 0 (pv 0)) (ea_cons ee_int ea_nil))) ee_int (nomark _)))))
  (ess_cons (es_asg (ee_v 11 (pv 11)) (eG_sub hc (ee_v 4 (pv 4)) (ee_v 5 (pv 5))))
  (ess_cons (es_expr (ee_m (pe_bm PySem.F.plainAttrs_list PySem.F.slot_list_insert PySem.F.type_list_insert mt_insert (ee_sub hc (ee_v 3 (pv 3)) (ee_v 9 (pv 9))) (ea_cons (ee_call c_l_take hc (by omega) rfl (ea_cons (ee_v 0 (pv 0)) (ea_cons (ee_op opr_add op2_add (ee_cb opr_len opa_len rfl B.n_len (by decide +kernel) (ea_cons (ee_sub hc (ee_v 3 (pv 3)) (ee_v 9 (pv 9))) ea_nil)) ee_int) ea_nil))) (ea_cons (ee_tup (ea_cons (ee_v 5 (pv 5)) (ea_cons ee_int ea_nil))) ea_nil))) opm_insert))
  (ess_one (es_if (et_not (et_val (ee_v 11 (pv 11)))) (ess_one (es_expr (ee_m (pe_bm PySem.F.plainAttrs_list PySem.F.slot_list_insert PySem.F.type_list_insert mt_insert (ee_sub hc (ee_v 3 (pv 3)) (ee_v 10 (pv 10))) (ea_cons (ee_call c_l_take hc (by omega) rfl (ea_cons (ee_v 0 (pv 0)) (ea_cons (ee_op opr_add op2_add (ee_cb opr_len opa_len rfl B.n_len (by decide +kernel) (ea_cons (ee_sub hc (ee_v 3 (pv 3)) (ee_v 10 (pv 10))) ea_nil)) ee_int) ea_nil))) (ea_cons (ee_tup (ea_cons (ee_v 5 (pv 5)) (ea_cons ee_int ea_nil))) ea_nil))) opm_insert))) ess_nil)))))))))))
  (ess_cons (es_set (i := 6) sc_l_web.nd rfl (by first | exact Or.inl rfl | exact Or.inr rfl) ee_nT)
  (ess_cons (es_for PassesOwn.never rfl (ei_range1 rfl B.n_range (ee_v 1 (pv 1))) (eg_nm (pg_name (i := 7) sc_l_web.nd rfl (by first | exact Or.inl rfl | exact Or.inr rfl))) (ess_one (es_for PassesOwn.never rfl (ei_enum rfl B.n_enumerate (ee_sub hc (ee_v 3 (pv 3)) (ee_v 7 (pv 7)))) (eg_tp rfl (egs_cons (eg_nm (pg_name (i := 13) sc_l_web.nd rfl (by first | exact Or.inl rfl | exact Or.inr rfl))) (egs_cons (eg_nm (pg_name (i := 14) sc_l_web.nd rfl (by first | exact Or.inl rfl | exact Or.inr rfl))) egs_nil))) (ess_one (es_asg (ee_tup (ea_cons (ee_v 7 (pv 7)) (ea_cons (ee_v 13 (pv 13)) ea_nil))) (eG_sub hc (ee_v 6 (pv 6)) (ee_v 14 (pv 14))))))))
  (ess_one (es_ret (ee_ct call_tuple_of opa_tuple rfl B.n_tuple (by decide +kernel) (ea_cons (ee_lc (own := [("_law_ends", 15)]) rfl sc_l_web.nd (ei_seq (ee_v 3 (pv 3))) (blkOk_by (N := N_l_web) (sc := defScope s_l_web) (by decide +kernel)) (by decide) (fun _ _ _ _ _ => (eg_nm (pg_name (i := 15) sc_l_web.nd rfl (by first | exact Or.inl rfl | exact Or.inr rfl)))) (fun _ _ _ _ _ => et_yes) (fun _ _ _ _ _ => (ee_ct call_tuple_of opa_tuple rfl B.n_tuple (by decide +kernel) (ea_cons (ee_lc (own := [("_law_k", 5), ("_law_side", 14)]) rfl sc_l_web.nd (ei_seq (ee_v 15 (pv 15))) (blkOk_by (by kernel_rfl)) (by decide) (fun _ _ _ _ _ => (eg_tp rfl (egs_cons (eg_nm (pg_name (i := 5) sc_l_web.nd rfl (by first | exact Or.inl rfl | exact Or.inr rfl))) (egs_cons (eg_nm (pg_name (i := 14) sc_l_web.nd rfl (by first | exact Or.inl rfl | exact Or.inr rfl))) egs_nil)))) (fun _ _ _ _ _ => et_yes) (fun _ _ _ _ _ => (ee_sub hc.blk.blk (ee_v 6 (pv 6)) (ee_tup (ea_cons (ee_v 5 (pv 5)) (ea_cons (ee_ite (et_val (ee_sub hc.blk.blk (ee_v 4 (pv 4)) (ee_v 5 (pv 5)))) (ee_v 14 (pv 14)) (ee_op op_sub op2_sub ee_int (ee_v 14 (pv 14)))) ea_nil)))))) ea_nil)))) ea_nil))))))))), rfl⟩
  obtain ⟨_, h, rfl⟩ := h
  exact h
theorem cal_l_web (B : Bi mg) (D : DefAt K mg "_law_web" s_l_web ["_law_box_here", "_law_size", "_law_more"]) (c_l_take : Cal P w K mg base 1 "_law_take" g_l_take_v2) : Cal P w K mg base 2 "_law_web" g_l_web_v2 :=
  let ⟨f, fd, F, hm, hb⟩ := D.ex
  ⟨f, fd, ["_law_box_here", "_law_size", "_law_more"], ok_l_web B F c_l_take, hm, F.kp, hb⟩
/-! _law_ties -/
abbrev s_l_ties : Stmt := top 27
abbrev N_l_ties : List Str := ["_law_web_here", "_law_found", "_law_room", "_law_doors", "_law_door", "_law_end"]
theorem sc_l_ties : FnScope N_l_ties ["_law_web_here"] (defScope s_l_ties) := ⟨rfl, rfl, rfl, by decide +kernel, rfl, by decide +kernel, by decide +kernel⟩
theorem ok_l_ties {f : Addr} {fd : FuncData} (B : Bi mg) (F : Fun K "_law_ties" "_law_ties" s_l_ties f fd)  : FnOk P w K mg base CX0 1 f fd ["_law_web_here"] (spE K g_l_ties) := by
  have h : ∃ b, FnOk P w K mg base CX0 1 f fd ["_law_web_here"] (spE K (fnD 1 6 b)) ∧ b = b_l_ties := ⟨_, fn_mk F sc_l_ties fun cdv A outer s H E hc =>
    (ess_cons (es_set (i := 1) sc_l_ties.nd rfl (by first | exact Or.inl rfl | exact Or.inr rfl) (ee_lst ea_nil))
  (ess_cons (es_for PassesOwn.never rfl (ei_enum rfl B.n_enumerate (ee_v 0 (pv 0))) (eg_tp rfl (egs_cons (eg_nm (pg_name (i := 2) sc_l_ties.nd rfl (by first | exact Or.inl rfl | exact Or.inr rfl))) (egs_cons (eg_nm (pg_name (i := 3) sc_l_ties.nd rfl (by first | exact Or.inl rfl | exact Or.inr rfl))) egs_nil))) (ess_one (es_for PassesOwn.never rfl (ei_enum rfl B.n_enumerate (ee_v 3 (pv 3))) (eg_tp rfl (egs_cons (eg_nm (pg_name (i := 4) sc_l_ties.nd rfl (by first | exact Or.inl rfl | exact Or.inr rfl))) (egs_cons (eg_nm (pg_name (i := 5) sc_l_ties.nd rfl (by first | exact Or.inl rfl | exact Or.inr rfl))) egs_nil))) (ess_one (es_if (et_cmp (opr_le hc) op2_le (ee_tup (ea_cons (ee_v 2 (pv 2)) (ea_cons (ee_v 4 (pv 4)) ea_nil))) (ee_v 5 (pv 5)) (nomark _)) (ess_one (es_expr (ee_m (pe_bm PySem.F.plainAttrs_list PySem.F.slot_list_append PySem.F.type_list_append mt_append (ee_v 1 (pv 1)) (ea_cons (ee_tup (ea_cons (ee_tup (ea_cons (ee_v 2 (pv 2)) (ea_cons (ee_v 4 (pv 4)) ea_nil))) (ea_cons (ee_v 5 (pv 5)) ea_nil))) ea_nil)) opm_append))) ess_nil)))))
  (ess_one (es_ret (ee_v 1 (pv 1)))))), rfl⟩
  obtain ⟨_, h, rfl⟩ := h
  exact h
theorem cal_l_ties (B : Bi mg) (D : DefAt K mg "_law_ties" s_l_ties ["_law_web_here"])  : Cal P w K mg base 1 "_law_ties" g_l_ties :=
  let ⟨f, fd, F, hm, hb⟩ := D.ex
  ⟨f, fd, ["_law_web_here"], ok_l_ties B F , hm, F.kp, hb⟩
/-! _law_crossed -/
abbrev s_l_crossed : Stmt := top 28
abbrev N_l_crossed : List Str := ["_law_web_here", "_law_first", "_law_second", "_law_about", "_law_ends", "_law_made", "_law_come_to", "_law_at", "_law_former", "_law_latter", "_law_room", "_law_doors", "_law_one", "_law_other", "_law_door", "_law_end"]
theorem sc_l_crossed : FnScope N_l_crossed ["_law_web_here", "_law_first", "_law_second", "_law_about"] (defScope s_l_crossed) := ⟨rfl, rfl, rfl, by decide +kernel, rfl, by decide +kernel, by decide +kernel⟩
theorem ok_l_crossed {f : Addr} {fd : FuncData} (B : Bi mg) (F : Fun K "_law_crossed" "_law_crossed" s_l_crossed f fd)  : FnOk P w K mg base CX0 1 f fd ["_law_web_here", "_law_first", "_law_second", "_law_about"] (spE K g_l_crossed) := by
  have h : ∃ b, FnOk P w K mg base CX0 1 f fd ["_law_web_here", "_law_first", "_law_second", "_law_about"] (spE K (fnD 4 16 b)) ∧ b = b_l_crossed := ⟨_, fn_mk F sc_l_crossed fun cdv A outer s H E hc =>
    (ess_cons (es_if (et_cmp (op_neD hc.room.units) op2_ne (ee_cmp (op_eqD hc.room.units) op2_eq (ee_sub hc (ee_v 1 (pv 1)) ee_int) (ee_sub hc (ee_v 1 (pv 1)) ee_int) (nomark _)) (ee_cmp (op_eqD hc.room.units) op2_eq (ee_sub hc (ee_v 2 (pv 2)) ee_int) (ee_sub hc (ee_v 2 (pv 2)) ee_int) (nomark _)) (nomark _)) (ess_one (es_ret ee_non)) ess_nil)
  (ess_cons (es_asg (ee_v 2 (pv 2)) (eG_pat (eg_tp rfl (egs_cons (eg_nm (pg_name (i := 8) sc_l_crossed.nd rfl (by first | exact Or.inl rfl | exact Or.inr rfl))) (egs_cons (eg_nm (pg_name (i := 9) sc_l_crossed.nd rfl (by first | exact Or.inl rfl | exact Or.inr rfl))) egs_nil)))))
  (ess_cons (es_if (et_cmp (op_eqD hc.room.units) op2_eq (ee_v 3 (pv 3)) ee_int (nomark _)) (ess_one (es_par (ps_par (i := 8) (j := 9) rfl sc_l_crossed.nd rfl rfl (by decide) rfl rfl (ea_cons (ee_v 9 (pv 9)) (ea_cons (ee_v 8 (pv 8)) ea_nil)) (by rfl)))) ess_nil)
  (ess_cons (es_set (i := 4) sc_l_crossed.nd rfl (by first | exact Or.inl rfl | exact Or.inr rfl) ee_nT)
  (ess_cons (es_for PassesOwn.never rfl (ei_enum rfl B.n_enumerate (ee_v 0 (pv 0))) (eg_tp rfl (egs_cons (eg_nm (pg_name (i := 10) sc_l_crossed.nd rfl (by first | exact Or.inl rfl | exact Or.inr rfl))) (egs_cons (eg_nm (pg_name (i := 11) sc_l_crossed.nd rfl (by first | exact Or.inl rfl | exact Or.inr rfl))) egs_nil))) (ess_one (es_for PassesOwn.never rfl (ei_enum rfl B.n_enumerate (ee_v 11 (pv 11))) (eg_tp rfl (egs_cons (eg_nm (pg_name (i := 14) sc_l_crossed.nd rfl (by first | exact Or.inl rfl | exact Or.inr rfl))) (egs_cons (eg_nm (pg_name (i := 15) sc_l_crossed.nd rfl (by first | exact Or.inl rfl | exact Or.inr rfl))) egs_nil))) (ess_one (es_asg (ee_v 15 (pv 15)) (eG_sub hc (ee_v 4 (pv 4)) (ee_tup (ea_cons (ee_v 10 (pv 10)) (ea_cons (ee_v 14 (pv 14)) ea_nil)))))))))
  (ess_cons (es_for PassesOwn.never rfl (ei_seq (ee_lst (ea_cons (ee_tup (ea_cons (ee_sub hc (ee_v 1 (pv 1)) ee_int) (ea_cons (ee_v 9 (pv 9)) ea_nil))) (ea_cons (ee_tup (ea_cons (ee_v 8 (pv 8)) (ea_cons (ee_sub hc (ee_v 1 (pv 1)) ee_int) ea_nil))) ea_nil)))) (eg_tp rfl (egs_cons (eg_nm (pg_name (i := 12) sc_l_crossed.nd rfl (by first | exact Or.inl rfl | exact Or.inr rfl))) (egs_cons (eg_nm (pg_name (i := 13) sc_l_crossed.nd rfl (by first | exact Or.inl rfl | exact Or.inr rfl))) egs_nil))) (ess_cons (es_asg (ee_v 13 (pv 13)) (eG_sub hc (ee_v 4 (pv 4)) (ee_v 12 (pv 12))))
  (ess_one (es_asg (ee_v 12 (pv 12)) (eG_sub hc (ee_v 4 (pv 4)) (ee_v 13 (pv 13)))))))
  (ess_cons (es_set (i := 5) sc_l_crossed.nd rfl (by first | exact Or.inl rfl | exact Or.inr rfl) (ee_ct call_tuple_of opa_tuple rfl B.n_tuple (by decide +kernel) (ea_cons (ee_lc (own := [("_law_room", 10)]) rfl sc_l_crossed.nd (ei_range1 rfl B.n_range (ee_cb opr_len opa_len rfl B.n_len (by decide +kernel) (ea_cons (ee_v 0 (pv 0)) ea_nil))) (blkOk_by (N := N_l_crossed) (sc := defScope s_l_crossed) (by decide +kernel)) (by decide) (fun _ _ _ _ _ => (eg_nm (pg_name (i := 10) sc_l_crossed.nd rfl (by first | exact Or.inl rfl | exact Or.inr rfl)))) (fun _ _ _ _ _ => et_yes) (fun _ _ _ _ _ => (ee_ct call_tuple_of opa_tuple rfl B.n_tuple (by decide +kernel) (ea_cons (ee_lc (own := [("_law_door", 14)]) rfl sc_l_crossed.nd (ei_range1 rfl B.n_range (ee_cb opr_len opa_len rfl B.n_len (by decide +kernel) (ea_cons (ee_sub hc.blk (ee_v 0 (pv 0)) (ee_v 10 (pv 10))) ea_nil))) (blkOk_by (by kernel_rfl)) (by decide) (fun _ _ _ _ _ => (eg_nm (pg_name (i := 14) sc_l_crossed.nd rfl (by first | exact Or.inl rfl | exact Or.inr rfl)))) (fun _ _ _ _ _ => et_yes) (fun _ _ _ _ _ => (ee_sub hc.blk.blk (ee_v 4 (pv 4)) (ee_tup (ea_cons (ee_v 10 (pv 10)) (ea_cons (ee_v 14 (pv 14)) ea_nil)))))) ea_nil)))) ea_nil)))
  (ess_cons (es_set (i := 6) sc_l_crossed.nd rfl (by first | exact Or.inl rfl | exact Or.inr rfl) (ee_lst (ea_cons ee_int ea_nil)))
  (ess_cons (es_set (i := 7) sc_l_crossed.nd rfl (by first | exact Or.inl rfl | exact Or.inr rfl) ee_int)
  (ess_cons (es_while PassesOwn.never (et_cmp (opr_lt hc) op2_lt (ee_v 7 (pv 7)) (ee_cb opr_len opa_len rfl B.n_len (by decide +kernel) (ea_cons (ee_v 6 (pv 6)) ea_nil)) (nomark _)) (ess_cons (es_for PassesOwn.never rfl (ei_seq (ee_sub hc (ee_v 5 (pv 5)) (ee_sub hc (ee_v 6 (pv 6)) (ee_v 7 (pv 7))))) (eg_tp rfl (egs_cons (eg_nm (pg_name (i := 10) sc_l_crossed.nd rfl (by first | exact Or.inl rfl | exact Or.inr rfl))) (egs_cons (eg_nm (pg_name (i := 14) sc_l_crossed.nd rfl (by first | exact Or.inl rfl | exact Or.inr rfl))) egs_nil))) (ess_one (es_if (et_notin hc (ee_v 10 (pv 10)) (ee_v 6 (pv 6))) (ess_one (es_expr (ee_m (pe_bm PySem.F.plainAttrs_list PySem.F.slot_list_append PySem.F.type_list_append mt_append (ee_v 6 (pv 6)) (ea_cons (ee_v 10 (pv 10)) ea_nil)) opm_append))) ess_nil)))
  (ess_one (es_set (i := 7) sc_l_crossed.nd rfl (by first | exact Or.inl rfl | exact Or.inr rfl) (ee_op opr_add op2_add (ee_v 7 (pv 7)) ee_int)))))
  (ess_one (es_ret (ee_ite (et_cmp (op_eqD hc.room.units) op2_eq (ee_cb opr_len opa_len rfl B.n_len (by decide +kernel) (ea_cons (ee_v 6 (pv 6)) ea_nil)) (ee_cb opr_len opa_len rfl B.n_len (by decide +kernel) (ea_cons (ee_v 0 (pv 0)) ea_nil)) (nomark _)) (ee_v 5 (pv 5)) ee_non))))))))))))), rfl⟩
  obtain ⟨_, h, rfl⟩ := h
  exact h
theorem cal_l_crossed (B : Bi mg) (D : DefAt K mg "_law_crossed" s_l_crossed ["_law_web_here", "_law_first", "_law_second", "_law_about"])  : Cal P w K mg base 1 "_law_crossed" g_l_crossed :=
  let ⟨f, fd, F, hm, hb⟩ := D.ex
  ⟨f, fd, ["_law_web_here", "_law_first", "_law_second", "_law_about"], ok_l_crossed B F , hm, F.kp, hb⟩
/-! _law_all_crossed -/
abbrev s_l_all_crossed : Stmt := top 29
abbrev N_l_all_crossed : List Str := ["_law_web_here", "_law_some", "_law_found", "_law_place", "_law_first", "_law_second", "_law_made", "_law_about"]
theorem sc_l_all_crossed : FnScope N_l_all_crossed ["_law_web_here"] (defScope s_l_all_crossed) := ⟨rfl, rfl, rfl, by decide +kernel, rfl, by decide +kernel, by decide +kernel⟩
theorem ok_l_all_crossed {f : Addr} {fd : FuncData} (B : Bi mg) (F : Fun K "_law_all_crossed" "_law_all_crossed" s_l_all_crossed f fd) (c_l_ties : Cal P w K mg base 1 "_law_ties" g_l_ties) (c_l_crossed : Cal P w K mg base 1 "_law_crossed" g_l_crossed) : FnOk P w K mg base CX0 2 f fd ["_law_web_here"] (spE K g_l_all_crossed) := by
  have h : ∃ b, FnOk P w K mg base CX0 2 f fd ["_law_web_here"] (spE K (fnD 1 8 b)) ∧ b = b_l_all_crossed := ⟨_, fn_mk F sc_l_all_crossed fun cdv A outer s H E hc =>
    (ess_cons (es_set (i := 1) sc_l_all_crossed.nd rfl (by first | exact Or.inl rfl | exact Or.inr rfl) (ee_call c_l_ties hc (by omega) rfl (ea_cons (ee_v 0 (pv 0)) ea_nil)))
  (ess_cons (es_set (i := 2) sc_l_all_crossed.nd rfl (by first | exact Or.inl rfl | exact Or.inr rfl) (ee_lst (ea_cons (ee_v 0 (pv 0)) ea_nil)))
  (ess_cons (es_for PassesOwn.never rfl (ei_enum rfl B.n_enumerate (ee_v 1 (pv 1))) (eg_tp rfl (egs_cons (eg_nm (pg_name (i := 3) sc_l_all_crossed.nd rfl (by first | exact Or.inl rfl | exact Or.inr rfl))) (egs_cons (eg_nm (pg_name (i := 4) sc_l_all_crossed.nd rfl (by first | exact Or.inl rfl | exact Or.inr rfl))) egs_nil))) (ess_one (es_for PassesOwn.never rfl (ei_seq (ee_slice (ee_v 1 (pv 1)) (eo_some (ee_op opr_add op2_add (ee_v 3 (pv 3)) ee_int)) eo_none)) (eg_nm (pg_name (i := 5) sc_l_all_crossed.nd rfl (by first | exact Or.inl rfl | exact Or.inr rfl))) (ess_one (es_expr (ee_m (pe_bm PySem.F.plainAttrs_list PySem.F.slot_list_extend PySem.F.type_list_extend mt_extend (ee_v 2 (pv 2)) (ea_cons (ee_lc (own := [("_law_about", 7)]) rfl sc_l_all_crossed.nd (ei_seq (ee_tup (ea_cons ee_int (ea_cons ee_int ea_nil)))) (blkOk_by (N := N_l_all_crossed) (sc := defScope s_l_all_crossed) (by decide +kernel)) (by decide) (fun _ _ _ _ _ => (eg_nm (pg_name (i := 7) sc_l_all_crossed.nd rfl (by first | exact Or.inl rfl | exact Or.inr rfl)))) (fun _ _ _ _ _ => et_yes) (fun _ _ _ _ _ => (ee_call c_l_crossed hc.blk (by omega) rfl (ea_cons (ee_v 0 (pv 0)) (ea_cons (ee_v 4 (pv 4)) (ea_cons (ee_v 5 (pv 5)) (ea_cons (ee_v 7 (pv 7)) ea_nil))))))) ea_nil)) opm_extend))))))
  (ess_one (es_ret (ee_lc (own := [("_law_made", 6)]) rfl sc_l_all_crossed.nd (ei_seq (ee_v 2 (pv 2))) (blkOk_by (N := N_l_all_crossed) (sc := defScope s_l_all_crossed) (by decide +kernel)) (by decide) (fun _ _ _ _ _ => (eg_nm (pg_name (i := 6) sc_l_all_crossed.nd rfl (by first | exact Or.inl rfl | exact Or.inr rfl)))) (fun _ _ _ _ _ => (et_one (et_cmp opr_isnot op2_isnot (ee_v 6 (pv 6)) ee_non (nomark _)))) (fun _ _ _ _ _ => (ee_v 6 (pv 6))))))))), rfl⟩
  obtain ⟨_, h, rfl⟩ := h
  exact h
theorem cal_l_all_crossed (B : Bi mg) (D : DefAt K mg "_law_all_crossed" s_l_all_crossed ["_law_web_here"]) (c_l_ties : Cal P w K mg base 1 "_law_ties" g_l_ties) (c_l_crossed : Cal P w K mg base 1 "_law_crossed" g_l_crossed) : Cal P w K mg base 2 "_law_all_crossed" g_l_all_crossed :=
  let ⟨f, fd, F, hm, hb⟩ := D.ex
  ⟨f, fd, ["_law_web_here"], ok_l_all_crossed B F c_l_ties c_l_crossed, hm, F.kp, hb⟩
/-! _law_story -/
abbrev s_l_story : Stmt := top 25
abbrev N_l_story : List Str := ["_law_web_here", "_law_room", "_law_way_here", "_law_path", "_law_doors", "_law_door", "_law_came"]
theorem sc_l_story : FnScope N_l_story ["_law_web_here", "_law_room", "_law_way_here"] (defScope s_l_story) := ⟨rfl, rfl, rfl, by decide +kernel, rfl, by decide +kernel, by decide +kernel⟩
theorem ok_l_story {f : Addr} {fd : FuncData} (B : Bi mg) (F : Fun K "_law_story" "_law_story" s_l_story f fd)  : FnOk P w K mg base CX0 1 f fd ["_law_web_here", "_law_room", "_law_way_here"] (spE K g_l_story) := by
  have h : ∃ b, FnOk P w K mg base CX0 1 f fd ["_law_web_here", "_law_room", "_law_way_here"] (spE K (fnD 3 7 b)) ∧ b = b_l_story := ⟨_, fn_mk F sc_l_story fun cdv A outer s H E hc =>
    (ess_cons (es_set (i := 3) sc_l_story.nd rfl (by first | exact Or.inl rfl | exact Or.inr rfl) (ee_lst ea_nil))
  (ess_cons (es_set (i := 4) sc_l_story.nd rfl (by first | exact Or.inl rfl | exact Or.inr rfl) (ee_cb opr_len opa_len rfl B.n_len (by decide +kernel) (ea_cons (ee_sub hc (ee_v 0 (pv 0)) (ee_v 1 (pv 1))) ea_nil)))
  (ess_cons (es_for PassesOwn.never rfl (ei_seq (ee_v 2 (pv 2))) (eg_nm (pg_name (i := 5) sc_l_story.nd rfl (by first | exact Or.inl rfl | exact Or.inr rfl))) (ess_cons (es_asg (ee_sub hc (ee_sub hc (ee_v 0 (pv 0)) (ee_v 1 (pv 1))) (ee_v 5 (pv 5))) (eG_pat (eg_tp rfl (egs_cons (eg_nm (pg_name (i := 1) sc_l_story.nd rfl (by first | exact Or.inl rfl | exact Or.inr rfl))) (egs_cons (eg_nm (pg_name (i := 6) sc_l_story.nd rfl (by first | exact Or.inl rfl | exact Or.inr rfl))) egs_nil)))))
  (ess_one (es_expr (ee_m (pe_bm PySem.F.plainAttrs_list PySem.F.slot_list_append PySem.F.type_list_append mt_append (ee_v 3 (pv 3)) (ea_cons (ee_tup (ea_cons (ee_v 5 (pv 5)) (ea_cons (ee_v 6 (pv 6)) (ea_cons (ee_cb opr_len opa_len rfl B.n_len (by decide +kernel) (ea_cons (ee_sub hc (ee_v 0 (pv 0)) (ee_v 1 (pv 1))) ea_nil)) ea_nil)))) ea_nil)) opm_append)))))
  (ess_one (es_ret (ee_tup (ea_cons (ee_v 4 (pv 4)) (ea_cons (ee_ct call_tuple_of opa_tuple rfl B.n_tuple (by decide +kernel) (ea_cons (ee_v 3 (pv 3)) ea_nil)) ea_nil)))))))), rfl⟩
  obtain ⟨_, h, rfl⟩ := h
  exact h
theorem cal_l_story (B : Bi mg) (D : DefAt K mg "_law_story" s_l_story ["_law_web_here", "_law_room", "_law_way_here"])  : Cal P w K mg base 1 "_law_story" g_l_story :=
  let ⟨f, fd, F, hm, hb⟩ := D.ex
  ⟨f, fd, ["_law_web_here", "_law_room", "_law_way_here"], ok_l_story B F , hm, F.kp, hb⟩
/-! _law_way -/
abbrev s_l_way : Stmt := top 23
abbrev N_l_way : List Str := ["_law_box_here", "_law_web_here", "_law_room", "_law_many", "_law_way_here", "_law_gone_by", "_law_k", "_law_doors", "_law_fresh", "_law_door"]
theorem sc_l_way : FnScope N_l_way ["_law_box_here", "_law_web_here", "_law_room", "_law_many"] (defScope s_l_way) := ⟨rfl, rfl, rfl, by decide +kernel, rfl, by decide +kernel, by decide +kernel⟩
theorem ok_l_way {f : Addr} {fd : FuncData} (B : Bi mg) (F : Fun K "_law_way" "_law_way" s_l_way f fd) (c_l_take : Cal P w K mg base 1 "_law_take" g_l_take_v2) : FnOk P w K mg base CX0 2 f fd ["_law_box_here", "_law_web_here", "_law_room", "_law_many"] (spE K g_l_way_v2) := by
  have h : ∃ b, FnOk P w K mg base CX0 2 f fd ["_law_box_here", "_law_web_here", "_law_room", "_law_many"] (spE K (fnD 4 10 b)) ∧ b = b_l_way_v2 := ⟨_, fn_mk F sc_l_way fun cdv A outer s H E hc =>
    (ess_cons (es_set (i := 4) sc_l_way.nd rfl (by first | exact Or.inl rfl | exact Or.inr rfl) (ee_lst ea_nil))
  (ess_cons (es_set (i := 5) sc_l_way.nd rfl (by first | exact Or.inl rfl | exact Or.inr rfl) (ee_lst ea_nil))
  (ess_cons (es_for PassesOwn.never rfl (ei_range1 rfl B.n_range (ee_v 3 (pv 3))) (eg_nm (pg_name (i := 6) sc_l_way.nd rfl (by first | exact Or.inl rfl | exact Or.inr rfl))) (ess_cons (es_set (i := 7) sc_l_way.nd rfl (by first | exact Or.inl rfl | exact Or.inr rfl) (ee_cb opr_len opa_len rfl B.n_len (by decide +kernel) (ea_cons (ee_sub hc (ee_v 1 (pv 1)) (ee_v 2 (pv 2))) ea_nil)))
  (ess_cons (es_if (et_cmp (op_eqD hc.room.units) op2_eq (ee_v 7 (pv 7)) ee_int (nomark _)) (ess_one (es_ret (ee_ct call_tuple_of opa_tuple rfl B.n_tuple (by decide +kernel) (ea_cons (ee_v 4 (pv 4)) ea_nil)))) ess_nil)
  (ess_cons (es_setLc (i := 8) (own := [("_law_door", 9)]) rfl sc_l_way.nd rfl rfl (sw_true rfl rfl rfl (by decide +kernel)) (ei_range1 rfl B.n_range (ee_v 7 (pv 7))) (blkOk_by (N := N_l_way) (sc := defScope s_l_way) (by decide +kernel)) (by decide) (fun _ _ _ _ _ => (eg_nm (pg_name (i := 9) sc_l_way.nd rfl (by first | exact Or.inl rfl | exact Or.inr rfl)))) (fun _ _ _ _ _ => (et_one (et_notin hc.blk (ee_tup (ea_cons (ee_v 2 (pv 2)) (ea_cons (ee_v 9 (pv 9)) ea_nil))) (ee_v 5 (pv 5))))) (fun _ _ _ _ _ => (ee_v 9 (pv 9))))
  (ess_cons (es_if (et_w (ew_or (et_cmp (op_eqD hc.room.units) op2_eq (ee_v 8 (pv 8)) (ee_lst ea_nil) (nomark _)) (ew_or1 (et_cmp (op_eqD hc.room.units) op2_eq (ee_call c_l_take hc (by omega) rfl (ea_cons (ee_v 0 (pv 0)) (ea_cons ee_int ea_nil))) ee_int (nomark _))))) (ess_one (es_set (i := 8) sc_l_way.nd rfl (by first | exact Or.inl rfl | exact Or.inr rfl) (ee_listRg rfl rfl B.n_list (er_range1 rfl B.n_range (ee_v 7 (pv 7)))))) ess_nil)
  (ess_cons (es_set (i := 9) sc_l_way.nd rfl (by first | exact Or.inl rfl | exact Or.inr rfl) (ee_sub hc (ee_v 8 (pv 8)) (ee_call c_l_take hc (by omega) rfl (ea_cons (ee_v 0 (pv 0)) (ea_cons (ee_cb opr_len opa_len rfl B.n_len (by decide +kernel) (ea_cons (ee_v 8 (pv 8)) ea_nil)) ea_nil)))))
  (ess_cons (es_expr (ee_m (pe_bm PySem.F.plainAttrs_list PySem.F.slot_list_append PySem.F.type_list_append mt_append (ee_v 4 (pv 4)) (ea_cons (ee_v 9 (pv 9)) ea_nil)) opm_append))
  (ess_cons (es_expr (ee_m (pe_bm PySem.F.plainAttrs_list PySem.F.slot_list_append PySem.F.type_list_append mt_append (ee_v 5 (pv 5)) (ea_cons (ee_tup (ea_cons (ee_v 2 (pv 2)) (ea_cons (ee_v 9 (pv 9)) ea_nil))) ea_nil)) opm_append))
  (ess_cons (es_expr (ee_m (pe_bm PySem.F.plainAttrs_list PySem.F.slot_list_append PySem.F.type_list_append mt_append (ee_v 5 (pv 5)) (ea_cons (ee_sub hc (ee_sub hc (ee_v 1 (pv 1)) (ee_v 2 (pv 2))) (ee_v 9 (pv 9))) ea_nil)) opm_append))
  (ess_one (es_set (i := 2) sc_l_way.nd rfl (by first | exact Or.inl rfl | exact Or.inr rfl) (ee_sub hc (ee_sub hc (ee_sub hc (ee_v 1 (pv 1)) (ee_v 2 (pv 2))) (ee_v 9 (pv 9))) ee_int))))))))))))
  (ess_one (es_ret (ee_ct call_tuple_of opa_tuple rfl B.n_tuple (by decide +kernel) (ea_cons (ee_v 4 (pv 4)) ea_nil))))))), rfl⟩
  obtain ⟨_, h, rfl⟩ := h
  exact h
theorem cal_l_way (B : Bi mg) (D : DefAt K mg "_law_way" s_l_way ["_law_box_here", "_law_web_here", "_law_room", "_law_many"]) (c_l_take : Cal P w K mg base 1 "_law_take" g_l_take_v2) : Cal P w K mg base 2 "_law_way" g_l_way_v2 :=
  let ⟨f, fd, F, hm, hb⟩ := D.ex
  ⟨f, fd, ["_law_box_here", "_law_web_here", "_law_room", "_law_many"], ok_l_way B F c_l_take, hm, F.kp, hb⟩
/-! _law_last -/
abbrev s_l_last : Stmt := top 26
abbrev N_l_last : List Str := ["_law_web_here", "_law_room", "_law_story_here", "_law_door", "_law_came", "_law_doors", "_law_back"]
theorem sc_l_last : FnScope N_l_last ["_law_web_here", "_law_room", "_law_story_here"] (defScope s_l_last) := ⟨rfl, rfl, rfl, by decide +kernel, rfl, by decide +kernel, by decide +kernel⟩
theorem ok_l_last {f : Addr} {fd : FuncData} (B : Bi mg) (F : Fun K "_law_last" "_law_last" s_l_last f fd)  : FnOk P w K mg base CX0 1 f fd ["_law_web_here", "_law_room", "_law_story_here"] (spE K g_l_last) := by
  have h : ∃ b, FnOk P w K mg base CX0 1 f fd ["_law_web_here", "_law_room", "_law_story_here"] (spE K (fnD 3 7 b)) ∧ b = b_l_last := ⟨_, fn_mk F sc_l_last fun cdv A outer s H E hc =>
    (ess_cons (es_if (et_cmp (op_neD hc.room.units) op2_ne (ee_cb opr_len opa_len rfl B.n_len (by decide +kernel) (ea_cons (ee_sub hc (ee_v 0 (pv 0)) (ee_v 1 (pv 1))) ea_nil)) (ee_sub hc (ee_v 2 (pv 2)) ee_int) (nomark _)) (ess_one (es_ret ee_non)) ess_nil)
  (ess_cons (es_for PassesOwn.never rfl (ei_seq (ee_sub hc (ee_v 2 (pv 2)) ee_int)) (eg_tp rfl (egs_cons (eg_nm (pg_name (i := 3) sc_l_last.nd rfl (by first | exact Or.inl rfl | exact Or.inr rfl))) (egs_cons (eg_nm (pg_name (i := 4) sc_l_last.nd rfl (by first | exact Or.inl rfl | exact Or.inr rfl))) (egs_cons (eg_nm (pg_name (i := 5) sc_l_last.nd rfl (by first | exact Or.inl rfl | exact Or.inr rfl))) egs_nil)))) (ess_cons (es_if (et_cmp op_ge op2_ge (ee_v 3 (pv 3)) (ee_cb opr_len opa_len rfl B.n_len (by decide +kernel) (ea_cons (ee_sub hc (ee_v 0 (pv 0)) (ee_v 1 (pv 1))) ea_nil)) (nomark _)) (ess_one (es_ret ee_non)) ess_nil)
  (ess_cons (es_asg (ee_sub hc (ee_sub hc (ee_v 0 (pv 0)) (ee_v 1 (pv 1))) (ee_v 3 (pv 3))) (eG_pat (eg_tp rfl (egs_cons (eg_nm (pg_name (i := 1) sc_l_last.nd rfl (by first | exact Or.inl rfl | exact Or.inr rfl))) (egs_cons (eg_nm (pg_name (i := 6) sc_l_last.nd rfl (by first | exact Or.inl rfl | exact Or.inr rfl))) egs_nil)))))
  (ess_one (es_if (et_w (ew_or (et_cmp (op_neD hc.room.units) op2_ne (ee_v 6 (pv 6)) (ee_v 4 (pv 4)) (nomark _)) (ew_or1 (et_cmp (op_neD hc.room.units) op2_ne (ee_cb opr_len opa_len rfl B.n_len (by decide +kernel) (ea_cons (ee_sub hc (ee_v 0 (pv 0)) (ee_v 1 (pv 1))) ea_nil)) (ee_v 5 (pv 5)) (nomark _))))) (ess_one (es_ret ee_non)) ess_nil)))))
  (ess_one (es_ret (ee_v 1 (pv 1)))))), rfl⟩
  obtain ⟨_, h, rfl⟩ := h
  exact h
theorem cal_l_last (B : Bi mg) (D : DefAt K mg "_law_last" s_l_last ["_law_web_here", "_law_room", "_law_story_here"])  : Cal P w K mg base 1 "_law_last" g_l_last :=
  let ⟨f, fd, F, hm, hb⟩ := D.ex
  ⟨f, fd, ["_law_web_here", "_law_room", "_law_story_here"], ok_l_last B F , hm, F.kp, hb⟩
/-! ties -/
abbrev s_ties : Stmt := top 6
abbrev N_ties : List Str := ["web", "found", "number", "doors", "door", "end"]
theorem sc_ties : FnScope N_ties ["web"] (defScope s_ties) := ⟨rfl, rfl, rfl, by decide +kernel, rfl, by decide +kernel, by decide +kernel⟩
theorem ok_ties {f : Addr} {fd : FuncData} (B : Bi mg) (F : Fun K "ties" "ties" s_ties f fd)  : FnOk P w K mg base CX0 1 f fd ["web"] (spE K g_ties) := by
  have h : ∃ b, FnOk P w K mg base CX0 1 f fd ["web"] (spE K (fnD 1 6 b)) ∧ b = b_ties := ⟨_, fn_mk F sc_ties fun cdv A outer s H E hc =>
    (ess_cons (es_set (i := 1) sc_ties.nd rfl (by first | exact Or.inl rfl | exact Or.inr rfl) (ee_lst ea_nil))
  (ess_cons (es_for PassesOwn.never rfl (ei_enum rfl B.n_enumerate (ee_v 0 (pv 0))) (eg_tp rfl (egs_cons (eg_nm (pg_name (i := 2) sc_ties.nd rfl (by first | exact Or.inl rfl | exact Or.inr rfl))) (egs_cons (eg_nm (pg_name (i := 3) sc_ties.nd rfl (by first | exact Or.inl rfl | exact Or.inr rfl))) egs_nil))) (ess_one (es_for PassesOwn.never rfl (ei_enum rfl B.n_enumerate (ee_v 3 (pv 3))) (eg_tp rfl (egs_cons (eg_nm (pg_name (i := 4) sc_ties.nd rfl (by first | exact Or.inl rfl | exact Or.inr rfl))) (egs_cons (eg_nm (pg_name (i := 5) sc_ties.nd rfl (by first | exact Or.inl rfl | exact Or.inr rfl))) egs_nil))) (ess_one (es_if (et_cmp (opr_le hc) op2_le (ee_tup (ea_cons (ee_v 2 (pv 2)) (ea_cons (ee_v 4 (pv 4)) ea_nil))) (ee_v 5 (pv 5)) (nomark _)) (ess_one (es_expr (ee_m (pe_bm PySem.F.plainAttrs_list PySem.F.slot_list_append PySem.F.type_list_append mt_append (ee_v 1 (pv 1)) (ea_cons (ee_tup (ea_cons (ee_tup (ea_cons (ee_v 2 (pv 2)) (ea_cons (ee_v 4 (pv 4)) ea_nil))) (ea_cons (ee_v 5 (pv 5)) ea_nil))) ea_nil)) opm_append))) ess_nil)))))
  (ess_one (es_ret (ee_v 1 (pv 1)))))), rfl⟩
  obtain ⟨_, h, rfl⟩ := h
  exact h
theorem cal_ties (B : Bi mg) (D : DefAt K mg "ties" s_ties ["web"])  : Cal P w K mg base 1 "ties" g_ties :=
  let ⟨f, fd, F, hm, hb⟩ := D.ex
  ⟨f, fd, ["web"], ok_ties B F , hm, F.kp, hb⟩
/-! leads_back -/
abbrev s_leads_back : Stmt := top 13
abbrev N_leads_back : List Str := ["tie"]
theorem sc_leads_back : FnScope N_leads_back ["tie"] (defScope s_leads_back) := ⟨rfl, rfl, rfl, by decide +kernel, rfl, by decide +kernel, by decide +kernel⟩
theorem ok_leads_back {f : Addr} {fd : FuncData} (B : Bi mg) (F : Fun K "leads_back" "leads_back" s_leads_back f fd)  : FnOk P w K mg base CX0 1 f fd ["tie"] (spE K g_leads_back) := by
  have h : ∃ b, FnOk P w K mg base CX0 1 f fd ["tie"] (spE K (fnD 1 1 b)) ∧ b = b_leads_back := ⟨_, fn_mk F sc_leads_back fun cdv A outer s H E hc =>
    (ess_one (es_ret (ee_cmp (op_eqD hc.room.units) op2_eq (ee_sub hc (ee_v 0 (pv 0)) ee_int) (ee_sub hc (ee_v 0 (pv 0)) ee_int) (nomark _)))), rfl⟩
  obtain ⟨_, h, rfl⟩ := h
  exact h
theorem cal_leads_back (B : Bi mg) (D : DefAt K mg "leads_back" s_leads_back ["tie"])  : Cal P w K mg base 1 "leads_back" g_leads_back :=
  let ⟨f, fd, F, hm, hb⟩ := D.ex
  ⟨f, fd, ["tie"], ok_leads_back B F , hm, F.kp, hb⟩
/-! with_ties -/
abbrev s_with_ties : Stmt := top 14
abbrev N_with_ties : List Str := ["web", "pairs", "made", "one", "other", "ends"]
theorem sc_with_ties : FnScope N_with_ties ["web", "pairs"] (defScope s_with_ties) := ⟨rfl, rfl, rfl, by decide +kernel, rfl, by decide +kernel, by decide +kernel⟩
theorem ok_with_ties {f : Addr} {fd : FuncData} (B : Bi mg) (F : Fun K "with_ties" "with_ties" s_with_ties f fd)  : FnOk P w K mg base CX0 1 f fd ["web", "pairs"] (spE K g_with_ties) := by
  have h : ∃ b, FnOk P w K mg base CX0 1 f fd ["web", "pairs"] (spE K (fnD 2 6 b)) ∧ b = b_with_ties := ⟨_, fn_mk F sc_with_ties fun cdv A outer s H E hc =>
    (ess_cons (es_setLc (i := 2) (own := [("ends", 5)]) rfl sc_with_ties.nd rfl rfl (sw_true rfl rfl rfl (by decide +kernel)) (ei_seq (ee_v 0 (pv 0))) (blkOk_by (N := N_with_ties) (sc := defScope s_with_ties) (by decide +kernel)) (by decide) (fun _ _ _ _ _ => (eg_nm (pg_name (i := 5) sc_with_ties.nd rfl (by first | exact Or.inl rfl | exact Or.inr rfl)))) (fun _ _ _ _ _ => et_yes) (fun _ _ _ _ _ => (ee_ct call_list_of opa_list rfl B.n_list (by decide +kernel) (ea_cons (ee_v 5 (pv 5)) ea_nil))))
  (ess_cons (es_for PassesOwn.never rfl (ei_seq (ee_v 1 (pv 1))) (eg_tp rfl (egs_cons (eg_nm (pg_name (i := 3) sc_with_ties.nd rfl (by first | exact Or.inl rfl | exact Or.inr rfl))) (egs_cons (eg_nm (pg_name (i := 4) sc_with_ties.nd rfl (by first | exact Or.inl rfl | exact Or.inr rfl))) egs_nil))) (ess_cons (es_asg (ee_v 4 (pv 4)) (eG_sub hc (ee_sub hc (ee_v 2 (pv 2)) (ee_sub hc (ee_v 3 (pv 3)) ee_int)) (ee_sub hc (ee_v 3 (pv 3)) ee_int)))
  (ess_one (es_asg (ee_v 3 (pv 3)) (eG_sub hc (ee_sub hc (ee_v 2 (pv 2)) (ee_sub hc (ee_v 4 (pv 4)) ee_int)) (ee_sub hc (ee_v 4 (pv 4)) ee_int))))))
  (ess_one (es_ret (ee_ct call_tuple_of opa_tuple rfl B.n_tuple (by decide +kernel) (ea_cons (ee_lc (own := [("ends", 5)]) rfl sc_with_ties.nd (ei_seq (ee_v 2 (pv 2))) (blkOk_by (N := N_with_ties) (sc := defScope s_with_ties) (by decide +kernel)) (by decide) (fun _ _ _ _ _ => (eg_nm (pg_name (i := 5) sc_with_ties.nd rfl (by first | exact Or.inl rfl | exact Or.inr rfl)))) (fun _ _ _ _ _ => et_yes) (fun _ _ _ _ _ => (ee_ct call_tuple_of opa_tuple rfl B.n_tuple (by decide +kernel) (ea_cons (ee_v 5 (pv 5)) ea_nil)))) ea_nil)))))), rfl⟩
  obtain ⟨_, h, rfl⟩ := h
  exact h
theorem cal_with_ties (B : Bi mg) (D : DefAt K mg "with_ties" s_with_ties ["web", "pairs"])  : Cal P w K mg base 1 "with_ties" g_with_ties :=
  let ⟨f, fd, F, hm, hb⟩ := D.ex
  ⟨f, fd, ["web", "pairs"], ok_with_ties B F , hm, F.kp, hb⟩
/-! is_count -/
abbrev s_is_count : Stmt := top 1
abbrev N_is_count : List Str := ["thing", "many"]
theorem sc_is_count : FnScope N_is_count ["thing", "many"] (defScope s_is_count) := ⟨rfl, rfl, rfl, by decide +kernel, rfl, by decide +kernel, by decide +kernel⟩
theorem ok_is_count {f : Addr} {fd : FuncData} (B : Bi mg) (F : Fun K "is_count" "is_count" s_is_count f fd)  : FnOk P w K mg base CX0 1 f fd ["thing", "many"] (spE K g_is_count) := by
  have h : ∃ b, FnOk P w K mg base CX0 1 f fd ["thing", "many"] (spE K (fnD 2 2 b)) ∧ b = b_is_count := ⟨_, fn_mk F sc_is_count fun cdv A outer s H E hc =>
    (ess_one (es_ret (ee_and (ee_cb opr_isi opa_isi rfl B.n_isinstance (by decide +kernel) (ea_cons (ee_v 0 (pv 0)) (ea_cons (ee_ty rfl B.n_int (n := "int") (by decide +kernel)) ea_nil))) (ee_and (ee_not (ee_cb opr_isi opa_isi rfl B.n_isinstance (by decide +kernel) (ea_cons (ee_v 0 (pv 0)) (ea_cons (ee_ty rfl B.n_bool (n := "bool") (by decide +kernel)) ea_nil)))) (ee_one (ee_chain (opr_le hc) (opr_lt hc) op2_le op2_lt ee_int (ee_v 0 (pv 0)) (ee_v 1 (pv 1)))))))), rfl⟩
  obtain ⟨_, h, rfl⟩ := h
  exact h
theorem cal_is_count (B : Bi mg) (D : DefAt K mg "is_count" s_is_count ["thing", "many"])  : Cal P w K mg base 1 "is_count" g_is_count :=
  let ⟨f, fd, F, hm, hb⟩ := D.ex
  ⟨f, fd, ["thing", "many"], ok_is_count B F , hm, F.kp, hb⟩
/-! is_end_in -/
abbrev s_is_end_in : Stmt := top 2
abbrev N_is_end_in : List Str := ["web", "thing"]
theorem sc_is_end_in : FnScope N_is_end_in ["web", "thing"] (defScope s_is_end_in) := ⟨rfl, rfl, rfl, by decide +kernel, rfl, by decide +kernel, by decide +kernel⟩
theorem ok_is_end_in {f : Addr} {fd : FuncData} (B : Bi mg) (F : Fun K "is_end_in" "is_end_in" s_is_end_in f fd) (c_is_count : Cal P w K mg base 1 "is_count" g_is_count) : FnOk P w K mg base CX0 2 f fd ["web", "thing"] (spE K g_is_end_in) := by
  have h : ∃ b, FnOk P w K mg base CX0 2 f fd ["web", "thing"] (spE K (fnD 2 2 b)) ∧ b = b_is_end_in := ⟨_, fn_mk F sc_is_end_in fun cdv A outer s H E hc =>
    (ess_cons (es_if (et_w (ew_or (et_not (et_val (ee_cb opr_isi opa_isi rfl B.n_isinstance (by decide +kernel) (ea_cons (ee_v 1 (pv 1)) (ea_cons (ee_ty rfl B.n_tuple (n := "tuple") (by decide +kernel)) ea_nil))))) (ew_or (et_cmp (op_neD hc.room.units) op2_ne (ee_cb opr_len opa_len rfl B.n_len (by decide +kernel) (ea_cons (ee_v 1 (pv 1)) ea_nil)) ee_int (nomark _)) (ew_or1 (et_not (et_val (ee_call c_is_count hc (by omega) rfl (ea_cons (ee_sub hc (ee_v 1 (pv 1)) ee_int) (ea_cons (ee_cb opr_len opa_len rfl B.n_len (by decide +kernel) (ea_cons (ee_v 0 (pv 0)) ea_nil)) ea_nil))))))))) (ess_one (es_ret ee_bl)) ess_nil)
  (ess_one (es_ret (ee_call c_is_count hc (by omega) rfl (ea_cons (ee_sub hc (ee_v 1 (pv 1)) ee_int) (ea_cons (ee_cb opr_len opa_len rfl B.n_len (by decide +kernel) (ea_cons (ee_sub hc (ee_v 0 (pv 0)) (ee_sub hc (ee_v 1 (pv 1)) ee_int)) ea_nil)) ea_nil)))))), rfl⟩
  obtain ⟨_, h, rfl⟩ := h
  exact h
theorem cal_is_end_in (B : Bi mg) (D : DefAt K mg "is_end_in" s_is_end_in ["web", "thing"]) (c_is_count : Cal P w K mg base 1 "is_count" g_is_count) : Cal P w K mg base 2 "is_end_in" g_is_end_in :=
  let ⟨f, fd, F, hm, hb⟩ := D.ex
  ⟨f, fd, ["web", "thing"], ok_is_end_in B F c_is_count, hm, F.kp, hb⟩
/-! are_told_ends -/
abbrev s_are_told_ends : Stmt := top 3
abbrev N_are_told_ends : List Str := ["web", "number", "door", "end"]
theorem sc_are_told_ends : FnScope N_are_told_ends ["web", "number"] (defScope s_are_told_ends) := ⟨rfl, rfl, rfl, by decide +kernel, rfl, by decide +kernel, by decide +kernel⟩
theorem ok_are_told_ends {f : Addr} {fd : FuncData} (B : Bi mg) (F : Fun K "are_told_ends" "are_told_ends" s_are_told_ends f fd) (c_is_end_in : Cal P w K mg base 2 "is_end_in" g_is_end_in) : FnOk P w K mg base CX0 3 f fd ["web", "number"] (spE K g_are_told_ends) := by
  have h : ∃ b, FnOk P w K mg base CX0 3 f fd ["web", "number"] (spE K (fnD 2 4 b)) ∧ b = b_are_told_ends := ⟨_, fn_mk F sc_are_told_ends fun cdv A outer s H E hc =>
    (ess_cons (es_for PassesOwn.never rfl (ei_enum rfl B.n_enumerate (ee_sub hc (ee_v 0 (pv 0)) (ee_v 1 (pv 1)))) (eg_tp rfl (egs_cons (eg_nm (pg_name (i := 2) sc_are_told_ends.nd rfl (by first | exact Or.inl rfl | exact Or.inr rfl))) (egs_cons (eg_nm (pg_name (i := 3) sc_are_told_ends.nd rfl (by first | exact Or.inl rfl | exact Or.inr rfl))) egs_nil))) (ess_one (es_if (et_w (ew_or (et_not (et_val (ee_call c_is_end_in hc (by omega) rfl (ea_cons (ee_v 0 (pv 0)) (ea_cons (ee_v 3 (pv 3)) ea_nil))))) (ew_or1 (et_cmp (op_neD hc.room.units) op2_ne (ee_sub hc (ee_sub hc (ee_v 0 (pv 0)) (ee_sub hc (ee_v 3 (pv 3)) ee_int)) (ee_sub hc (ee_v 3 (pv 3)) ee_int)) (ee_tup (ea_cons (ee_v 1 (pv 1)) (ea_cons (ee_v 2 (pv 2)) ea_nil))) (nomark _))))) (ess_one (es_ret ee_bl)) ess_nil)))
  (ess_one (es_ret ee_bl))), rfl⟩
  obtain ⟨_, h, rfl⟩ := h
  exact h
theorem cal_are_told_ends (B : Bi mg) (D : DefAt K mg "are_told_ends" s_are_told_ends ["web", "number"]) (c_is_end_in : Cal P w K mg base 2 "is_end_in" g_is_end_in) : Cal P w K mg base 3 "are_told_ends" g_are_told_ends :=
  let ⟨f, fd, F, hm, hb⟩ := D.ex
  ⟨f, fd, ["web", "number"], ok_are_told_ends B F c_is_end_in, hm, F.kp, hb⟩
/-! rooms_met -/
abbrev s_rooms_met : Stmt := top 4
abbrev N_rooms_met : List Str := ["web", "first", "met", "place", "other", "door"]
theorem sc_rooms_met : FnScope N_rooms_met ["web", "first"] (defScope s_rooms_met) := ⟨rfl, rfl, rfl, by decide +kernel, rfl, by decide +kernel, by decide +kernel⟩
theorem ok_rooms_met {f : Addr} {fd : FuncData} (B : Bi mg) (F : Fun K "rooms_met" "rooms_met" s_rooms_met f fd)  : FnOk P w K mg base CX0 1 f fd ["web", "first"] (spE K g_rooms_met) := by
  have h : ∃ b, FnOk P w K mg base CX0 1 f fd ["web", "first"] (spE K (fnD 2 6 b)) ∧ b = b_rooms_met := ⟨_, fn_mk F sc_rooms_met fun cdv A outer s H E hc =>
    (ess_cons (es_set (i := 2) sc_rooms_met.nd rfl (by first | exact Or.inl rfl | exact Or.inr rfl) (ee_lst (ea_cons (ee_v 1 (pv 1)) ea_nil)))
  (ess_cons (es_set (i := 3) sc_rooms_met.nd rfl (by first | exact Or.inl rfl | exact Or.inr rfl) ee_int)
  (ess_cons (es_while PassesOwn.never (et_cmp (opr_lt hc) op2_lt (ee_v 3 (pv 3)) (ee_cb opr_len opa_len rfl B.n_len (by decide +kernel) (ea_cons (ee_v 2 (pv 2)) ea_nil)) (nomark _)) (ess_cons (es_for PassesOwn.never rfl (ei_seq (ee_sub hc (ee_v 0 (pv 0)) (ee_sub hc (ee_v 2 (pv 2)) (ee_v 3 (pv 3))))) (eg_tp rfl (egs_cons (eg_nm (pg_name (i := 4) sc_rooms_met.nd rfl (by first | exact Or.inl rfl | exact Or.inr rfl))) (egs_cons (eg_nm (pg_name (i := 5) sc_rooms_met.nd rfl (by first | exact Or.inl rfl | exact Or.inr rfl))) egs_nil))) (ess_one (es_if (et_notin hc (ee_v 4 (pv 4)) (ee_v 2 (pv 2))) (ess_one (es_expr (ee_m (pe_bm PySem.F.plainAttrs_list PySem.F.slot_list_append PySem.F.type_list_append mt_append (ee_v 2 (pv 2)) (ea_cons (ee_v 4 (pv 4)) ea_nil)) opm_append))) ess_nil)))
  (ess_one (es_aug (ps_aug (i := 3) sc_rooms_met.nd rfl (by first | exact Or.inl rfl | exact Or.inr rfl) ee_int ip_add) op2_iadd))))
  (ess_one (es_ret (ee_v 2 (pv 2))))))), rfl⟩
  obtain ⟨_, h, rfl⟩ := h
  exact h
theorem cal_rooms_met (B : Bi mg) (D : DefAt K mg "rooms_met" s_rooms_met ["web", "first"])  : Cal P w K mg base 1 "rooms_met" g_rooms_met :=
  let ⟨f, fd, F, hm, hb⟩ := D.ex
  ⟨f, fd, ["web", "first"], ok_rooms_met B F , hm, F.kp, hb⟩
/-! is_web -/
abbrev s_is_web : Stmt := top 5
abbrev N_is_web : List Str := ["thing", "number", "one"]
theorem sc_is_web : FnScope N_is_web ["thing"] (defScope s_is_web) := ⟨rfl, rfl, rfl, by decide +kernel, rfl, by decide +kernel, by decide +kernel⟩
theorem ok_is_web {f : Addr} {fd : FuncData} (B : Bi mg) (F : Fun K "is_web" "is_web" s_is_web f fd) (c_are_told_ends : Cal P w K mg base 3 "are_told_ends" g_are_told_ends) (c_rooms_met : Cal P w K mg base 1 "rooms_met" g_rooms_met) : FnOk P w K mg base CX0 4 f fd ["thing"] (spE K g_is_web) := by
  have h : ∃ b, FnOk P w K mg base CX0 4 f fd ["thing"] (spE K (fnD 1 3 b)) ∧ b = b_is_web := ⟨_, fn_mk F sc_is_web fun cdv A outer s H E hc =>
    (ess_cons (es_if (et_w (ew_or (et_not (et_val (ee_cb opr_isi opa_isi rfl B.n_isinstance (by decide +kernel) (ea_cons (ee_v 0 (pv 0)) (ea_cons (ee_ty rfl B.n_tuple (n := "tuple") (by decide +kernel)) ea_nil))))) (ew_or (et_cmp (op_eqD hc.room.units) op2_eq (ee_cb opr_len opa_len rfl B.n_len (by decide +kernel) (ea_cons (ee_v 0 (pv 0)) ea_nil)) ee_int (nomark _)) (ew_or1 (et_not (et_val (ee_cb (cr_all rfl) opa_all rfl B.n_all (by decide +kernel) (ea_cons (ee_lc (own := [("one", 2)]) rfl sc_is_web.nd (ei_seq (ee_v 0 (pv 0))) (blkOk_by (N := N_is_web) (sc := defScope s_is_web) (by decide +kernel)) (by decide) (fun _ _ _ _ _ => (eg_nm (pg_name (i := 2) sc_is_web.nd rfl (by first | exact Or.inl rfl | exact Or.inr rfl)))) (fun _ _ _ _ _ => et_yes) (fun _ _ _ _ _ => (ee_cb opr_isi opa_isi rfl B.n_isinstance (by decide +kernel) (ea_cons (ee_v 2 (pv 2)) (ea_cons (ee_ty rfl B.n_tuple (n := "tuple") (by decide +kernel)) ea_nil))))) ea_nil)))))))) (ess_one (es_ret ee_bl)) ess_nil)
  (ess_cons (es_if (et_not (et_val (ee_cb (cr_all rfl) opa_all rfl B.n_all (by decide +kernel) (ea_cons (ee_lc (own := [("number", 1)]) rfl sc_is_web.nd (ei_range1 rfl B.n_range (ee_cb opr_len opa_len rfl B.n_len (by decide +kernel) (ea_cons (ee_v 0 (pv 0)) ea_nil))) (blkOk_by (N := N_is_web) (sc := defScope s_is_web) (by decide +kernel)) (by decide) (fun _ _ _ _ _ => (eg_nm (pg_name (i := 1) sc_is_web.nd rfl (by first | exact Or.inl rfl | exact Or.inr rfl)))) (fun _ _ _ _ _ => et_yes) (fun _ _ _ _ _ => (ee_call c_are_told_ends hc.blk (by omega) rfl (ea_cons (ee_v 0 (pv 0)) (ea_cons (ee_v 1 (pv 1)) ea_nil))))) ea_nil)))) (ess_one (es_ret ee_bl)) ess_nil)
  (ess_one (es_ret (ee_cmp (op_eqD hc.room.units) op2_eq (ee_cb opr_len opa_len rfl B.n_len (by decide +kernel) (ea_cons (ee_call c_rooms_met hc (by omega) rfl (ea_cons (ee_v 0 (pv 0)) (ea_cons ee_int ea_nil))) ea_nil)) (ee_cb opr_len opa_len rfl B.n_len (by decide +kernel) (ea_cons (ee_v 0 (pv 0)) ea_nil)) (nomark _)))))), rfl⟩
  obtain ⟨_, h, rfl⟩ := h
  exact h
theorem cal_is_web (B : Bi mg) (D : DefAt K mg "is_web" s_is_web ["thing"]) (c_are_told_ends : Cal P w K mg base 3 "are_told_ends" g_are_told_ends) (c_rooms_met : Cal P w K mg base 1 "rooms_met" g_rooms_met) : Cal P w K mg base 4 "is_web" g_is_web :=
  let ⟨f, fd, F, hm, hb⟩ := D.ex
  ⟨f, fd, ["thing"], ok_is_web B F c_are_told_ends c_rooms_met, hm, F.kp, hb⟩
/-! web_crossed -/
abbrev s_web_crossed : Stmt := top 15
abbrev N_web_crossed : List Str := ["web", "first", "second", "about", "made"]
theorem sc_web_crossed : FnScope N_web_crossed ["web", "first", "second", "about"] (defScope s_web_crossed) := ⟨rfl, rfl, rfl, by decide +kernel, rfl, by decide +kernel, by decide +kernel⟩
theorem ok_web_crossed {f : Addr} {fd : FuncData} (B : Bi mg) (F : Fun K "web_crossed" "web_crossed" s_web_crossed f fd) (c_leads_back : Cal P w K mg base 1 "leads_back" g_leads_back) (c_with_ties : Cal P w K mg base 1 "with_ties" g_with_ties) (c_is_web : Cal P w K mg base 4 "is_web" g_is_web) : FnOk P w K mg base CX0 5 f fd ["web", "first", "second", "about"] (spE K g_web_crossed) := by
  have h : ∃ b, FnOk P w K mg base CX0 5 f fd ["web", "first", "second", "about"] (spE K (fnD 4 5 b)) ∧ b = b_web_crossed := ⟨_, fn_mk F sc_web_crossed fun cdv A outer s H E hc =>
    (ess_cons (es_if (et_cmp (op_neD hc.room.units) op2_ne (ee_call c_leads_back hc (by omega) rfl (ea_cons (ee_v 1 (pv 1)) ea_nil)) (ee_call c_leads_back hc (by omega) rfl (ea_cons (ee_v 2 (pv 2)) ea_nil)) (nomark _)) (ess_one (es_ret ee_non)) ess_nil)
  (ess_cons (es_set (i := 4) sc_web_crossed.nd rfl (by first | exact Or.inl rfl | exact Or.inr rfl) (ee_call c_with_ties hc (by omega) rfl (ea_cons (ee_v 0 (pv 0)) (ea_cons (ee_lst (ea_cons (ee_tup (ea_cons (ee_sub hc (ee_v 1 (pv 1)) ee_int) (ea_cons (ee_sub hc (ee_v 2 (pv 2)) (ee_op op_sub op2_sub ee_int (ee_v 3 (pv 3)))) ea_nil))) (ea_cons (ee_tup (ea_cons (ee_sub hc (ee_v 2 (pv 2)) (ee_v 3 (pv 3))) (ea_cons (ee_sub hc (ee_v 1 (pv 1)) ee_int) ea_nil))) ea_nil))) ea_nil))))
  (ess_cons (es_if (et_val (ee_call c_is_web hc (by omega) rfl (ea_cons (ee_v 4 (pv 4)) ea_nil))) (ess_one (es_ret (ee_v 4 (pv 4)))) ess_nil)
  (ess_one (es_ret ee_non))))), rfl⟩
  obtain ⟨_, h, rfl⟩ := h
  exact h
theorem cal_web_crossed (B : Bi mg) (D : DefAt K mg "web_crossed" s_web_crossed ["web", "first", "second", "about"]) (c_leads_back : Cal P w K mg base 1 "leads_back" g_leads_back) (c_with_ties : Cal P w K mg base 1 "with_ties" g_with_ties) (c_is_web : Cal P w K mg base 4 "is_web" g_is_web) : Cal P w K mg base 5 "web_crossed" g_web_crossed :=
  let ⟨f, fd, F, hm, hb⟩ := D.ex
  ⟨f, fd, ["web", "first", "second", "about"], ok_web_crossed B F c_leads_back c_with_ties c_is_web, hm, F.kp, hb⟩
/-! crossings -/
abbrev s_crossings : Stmt := top 16
abbrev N_crossings : List Str := ["web", "all_ties", "found", "place", "first", "second", "made", "about"]
theorem sc_crossings : FnScope N_crossings ["web"] (defScope s_crossings) := ⟨rfl, rfl, rfl, by decide +kernel, rfl, by decide +kernel, by decide +kernel⟩
theorem ok_crossings {f : Addr} {fd : FuncData} (B : Bi mg) (F : Fun K "crossings" "crossings" s_crossings f fd) (c_ties : Cal P w K mg base 1 "ties" g_ties) (c_web_crossed : Cal P w K mg base 5 "web_crossed" g_web_crossed) : FnOk P w K mg base CX0 6 f fd ["web"] (spE K g_crossings) := by
  have h : ∃ b, FnOk P w K mg base CX0 6 f fd ["web"] (spE K (fnD 1 8 b)) ∧ b = b_crossings := ⟨_, fn_mk F sc_crossings fun cdv A outer s H E hc =>
    (ess_cons (es_set (i := 1) sc_crossings.nd rfl (by first | exact Or.inl rfl | exact Or.inr rfl) (ee_call c_ties hc (by omega) rfl (ea_cons (ee_v 0 (pv 0)) ea_nil)))
  (ess_cons (es_set (i := 2) sc_crossings.nd rfl (by first | exact Or.inl rfl | exact Or.inr rfl) (ee_lst ea_nil))
  (ess_cons (es_for PassesOwn.never rfl (ei_enum rfl B.n_enumerate (ee_v 1 (pv 1))) (eg_tp rfl (egs_cons (eg_nm (pg_name (i := 3) sc_crossings.nd rfl (by first | exact Or.inl rfl | exact Or.inr rfl))) (egs_cons (eg_nm (pg_name (i := 4) sc_crossings.nd rfl (by first | exact Or.inl rfl | exact Or.inr rfl))) egs_nil))) (ess_one (es_for PassesOwn.never rfl (ei_seq (ee_slice (ee_v 1 (pv 1)) (eo_some (ee_op opr_add op2_add (ee_v 3 (pv 3)) ee_int)) eo_none)) (eg_nm (pg_name (i := 5) sc_crossings.nd rfl (by first | exact Or.inl rfl | exact Or.inr rfl))) (ess_one (es_expr (ee_m (pe_bm PySem.F.plainAttrs_list PySem.F.slot_list_extend PySem.F.type_list_extend mt_extend (ee_v 2 (pv 2)) (ea_cons (ee_lc (own := [("about", 7)]) rfl sc_crossings.nd (ei_seq (ee_tup (ea_cons ee_int (ea_cons ee_int ea_nil)))) (blkOk_by (N := N_crossings) (sc := defScope s_crossings) (by decide +kernel)) (by decide) (fun _ _ _ _ _ => (eg_nm (pg_name (i := 7) sc_crossings.nd rfl (by first | exact Or.inl rfl | exact Or.inr rfl)))) (fun _ _ _ _ _ => et_yes) (fun _ _ _ _ _ => (ee_call c_web_crossed hc.blk (by omega) rfl (ea_cons (ee_v 0 (pv 0)) (ea_cons (ee_v 4 (pv 4)) (ea_cons (ee_v 5 (pv 5)) (ea_cons (ee_v 7 (pv 7)) ea_nil))))))) ea_nil)) opm_extend))))))
  (ess_one (es_ret (ee_lc (own := [("made", 6)]) rfl sc_crossings.nd (ei_seq (ee_v 2 (pv 2))) (blkOk_by (N := N_crossings) (sc := defScope s_crossings) (by decide +kernel)) (by decide) (fun _ _ _ _ _ => (eg_nm (pg_name (i := 6) sc_crossings.nd rfl (by first | exact Or.inl rfl | exact Or.inr rfl)))) (fun _ _ _ _ _ => (et_one (et_cmp opr_isnot op2_isnot (ee_v 6 (pv 6)) ee_non (nomark _)))) (fun _ _ _ _ _ => (ee_v 6 (pv 6))))))))), rfl⟩
  obtain ⟨_, h, rfl⟩ := h
  exact h
theorem cal_crossings (B : Bi mg) (D : DefAt K mg "crossings" s_crossings ["web"]) (c_ties : Cal P w K mg base 1 "ties" g_ties) (c_web_crossed : Cal P w K mg base 5 "web_crossed" g_web_crossed) : Cal P w K mg base 6 "crossings" g_crossings :=
  let ⟨f, fd, F, hm, hb⟩ := D.ex
  ⟨f, fd, ["web"], ok_crossings B F c_ties c_web_crossed, hm, F.kp, hb⟩
/-! seen -/
abbrev s_seen : Stmt := top 7
abbrev N_seen : List Str := ["web", "room", "way", "told", "door", "came"]
theorem sc_seen : FnScope N_seen ["web", "room", "way"] (defScope s_seen) := ⟨rfl, rfl, rfl, by decide +kernel, rfl, by decide +kernel, by decide +kernel⟩
theorem ok_seen {f : Addr} {fd : FuncData} (B : Bi mg) (F : Fun K "seen" "seen" s_seen f fd)  : FnOk P w K mg base CX0 1 f fd ["web", "room", "way"] (spE K g_seen) := by
  have h : ∃ b, FnOk P w K mg base CX0 1 f fd ["web", "room", "way"] (spE K (fnD 3 6 b)) ∧ b = b_seen := ⟨_, fn_mk F sc_seen fun cdv A outer s H E hc =>
    (ess_cons (es_set (i := 3) sc_seen.nd rfl (by first | exact Or.inl rfl | exact Or.inr rfl) (ee_lst (ea_cons (ee_cb opr_len opa_len rfl B.n_len (by decide +kernel) (ea_cons (ee_sub hc (ee_v 0 (pv 0)) (ee_v 1 (pv 1))) ea_nil)) ea_nil)))
  (ess_cons (es_for PassesOwn.never rfl (ei_seq (ee_v 2 (pv 2))) (eg_nm (pg_name (i := 4) sc_seen.nd rfl (by first | exact Or.inl rfl | exact Or.inr rfl))) (ess_cons (es_if (et_cmp op_ge op2_ge (ee_v 4 (pv 4)) (ee_cb opr_len opa_len rfl B.n_len (by decide +kernel) (ea_cons (ee_sub hc (ee_v 0 (pv 0)) (ee_v 1 (pv 1))) ea_nil)) (nomark _)) (ess_one (es_ret ee_non)) ess_nil)
  (ess_cons (es_asg (ee_sub hc (ee_sub hc (ee_v 0 (pv 0)) (ee_v 1 (pv 1))) (ee_v 4 (pv 4))) (eG_pat (eg_tp rfl (egs_cons (eg_nm (pg_name (i := 1) sc_seen.nd rfl (by first | exact Or.inl rfl | exact Or.inr rfl))) (egs_cons (eg_nm (pg_name (i := 5) sc_seen.nd rfl (by first | exact Or.inl rfl | exact Or.inr rfl))) egs_nil)))))
  (ess_one (es_expr (ee_m (pe_bm PySem.F.plainAttrs_list PySem.F.slot_list_append PySem.F.type_list_append mt_append (ee_v 3 (pv 3)) (ea_cons (ee_tup (ea_cons (ee_v 5 (pv 5)) (ea_cons (ee_cb opr_len opa_len rfl B.n_len (by decide +kernel) (ea_cons (ee_sub hc (ee_v 0 (pv 0)) (ee_v 1 (pv 1))) ea_nil)) ea_nil))) ea_nil)) opm_append))))))
  (ess_one (es_ret (ee_ct call_tuple_of opa_tuple rfl B.n_tuple (by decide +kernel) (ea_cons (ee_v 3 (pv 3)) ea_nil)))))), rfl⟩
  obtain ⟨_, h, rfl⟩ := h
  exact h
theorem cal_seen (B : Bi mg) (D : DefAt K mg "seen" s_seen ["web", "room", "way"])  : Cal P w K mg base 1 "seen" g_seen :=
  let ⟨f, fd, F, hm, hb⟩ := D.ex
  ⟨f, fd, ["web", "room", "way"], ok_seen B F , hm, F.kp, hb⟩
/-! story_way -/
abbrev s_story_way : Stmt := top 9
abbrev N_story_way : List Str := ["story", "step"]
theorem sc_story_way : FnScope N_story_way ["story"] (defScope s_story_way) := ⟨rfl, rfl, rfl, by decide +kernel, rfl, by decide +kernel, by decide +kernel⟩
theorem ok_story_way {f : Addr} {fd : FuncData} (B : Bi mg) (F : Fun K "story_way" "story_way" s_story_way f fd)  : FnOk P w K mg base CX0 1 f fd ["story"] (spE K g_story_way) := by
  have h : ∃ b, FnOk P w K mg base CX0 1 f fd ["story"] (spE K (fnD 1 2 b)) ∧ b = b_story_way := ⟨_, fn_mk F sc_story_way fun cdv A outer s H E hc =>
    (ess_one (es_ret (ee_ct call_tuple_of opa_tuple rfl B.n_tuple (by decide +kernel) (ea_cons (ee_lc (own := [("step", 1)]) rfl sc_story_way.nd (ei_seq (ee_sub hc (ee_v 0 (pv 0)) ee_int)) (blkOk_by (N := N_story_way) (sc := defScope s_story_way) (by decide +kernel)) (by decide) (fun _ _ _ _ _ => (eg_nm (pg_name (i := 1) sc_story_way.nd rfl (by first | exact Or.inl rfl | exact Or.inr rfl)))) (fun _ _ _ _ _ => et_yes) (fun _ _ _ _ _ => (ee_sub hc.blk (ee_v 1 (pv 1)) ee_int))) ea_nil)))), rfl⟩
  obtain ⟨_, h, rfl⟩ := h
  exact h
theorem cal_story_way (B : Bi mg) (D : DefAt K mg "story_way" s_story_way ["story"])  : Cal P w K mg base 1 "story_way" g_story_way :=
  let ⟨f, fd, F, hm, hb⟩ := D.ex
  ⟨f, fd, ["story"], ok_story_way B F , hm, F.kp, hb⟩
/-! story_sight -/
abbrev s_story_sight : Stmt := top 10
abbrev N_story_sight : List Str := ["story", "step"]
theorem sc_story_sight : FnScope N_story_sight ["story"] (defScope s_story_sight) := ⟨rfl, rfl, rfl, by decide +kernel, rfl, by decide +kernel, by decide +kernel⟩
theorem ok_story_sight {f : Addr} {fd : FuncData} (B : Bi mg) (F : Fun K "story_sight" "story_sight" s_story_sight f fd)  : FnOk P w K mg base CX0 1 f fd ["story"] (spE K g_story_sight) := by
  have h : ∃ b, FnOk P w K mg base CX0 1 f fd ["story"] (spE K (fnD 1 2 b)) ∧ b = b_story_sight := ⟨_, fn_mk F sc_story_sight fun cdv A outer s H E hc =>
    (ess_one (es_ret (ee_op opr_add op2_add (ee_tup (ea_cons (ee_sub hc (ee_v 0 (pv 0)) ee_int) ea_nil)) (ee_ct call_tuple_of opa_tuple rfl B.n_tuple (by decide +kernel) (ea_cons (ee_lc (own := [("step", 1)]) rfl sc_story_sight.nd (ei_seq (ee_sub hc (ee_v 0 (pv 0)) ee_int)) (blkOk_by (N := N_story_sight) (sc := defScope s_story_sight) (by decide +kernel)) (by decide) (fun _ _ _ _ _ => (eg_nm (pg_name (i := 1) sc_story_sight.nd rfl (by first | exact Or.inl rfl | exact Or.inr rfl)))) (fun _ _ _ _ _ => et_yes) (fun _ _ _ _ _ => (ee_ct call_tuple_of opa_tuple rfl B.n_tuple (by decide +kernel) (ea_cons (ee_slice (ee_v 1 (pv 1)) (eo_some ee_int) eo_none) ea_nil)))) ea_nil))))), rfl⟩
  obtain ⟨_, h, rfl⟩ := h
  exact h
theorem cal_story_sight (B : Bi mg) (D : DefAt K mg "story_sight" s_story_sight ["story"])  : Cal P w K mg base 1 "story_sight" g_story_sight :=
  let ⟨f, fd, F, hm, hb⟩ := D.ex
  ⟨f, fd, ["story"], ok_story_sight B F , hm, F.kp, hb⟩
/-! fits -/
abbrev s_fits : Stmt := top 11
abbrev N_fits : List Str := ["web", "room", "story"]
theorem sc_fits : FnScope N_fits ["web", "room", "story"] (defScope s_fits) := ⟨rfl, rfl, rfl, by decide +kernel, rfl, by decide +kernel, by decide +kernel⟩
theorem ok_fits {f : Addr} {fd : FuncData} (B : Bi mg) (F : Fun K "fits" "fits" s_fits f fd) (c_seen : Cal P w K mg base 1 "seen" g_seen) (c_story_way : Cal P w K mg base 1 "story_way" g_story_way) (c_story_sight : Cal P w K mg base 1 "story_sight" g_story_sight) : FnOk P w K mg base CX0 2 f fd ["web", "room", "story"] (spE K g_fits) := by
  have h : ∃ b, FnOk P w K mg base CX0 2 f fd ["web", "room", "story"] (spE K (fnD 3 3 b)) ∧ b = b_fits := ⟨_, fn_mk F sc_fits fun cdv A outer s H E hc =>
    (ess_one (es_ret (ee_cmp (op_eqD hc.room.units) op2_eq (ee_call c_seen hc (by omega) rfl (ea_cons (ee_v 0 (pv 0)) (ea_cons (ee_v 1 (pv 1)) (ea_cons (ee_call c_story_way hc (by omega) rfl (ea_cons (ee_v 2 (pv 2)) ea_nil)) ea_nil)))) (ee_call c_story_sight hc (by omega) rfl (ea_cons (ee_v 2 (pv 2)) ea_nil)) (nomark _)))), rfl⟩
  obtain ⟨_, h, rfl⟩ := h
  exact h
theorem cal_fits (B : Bi mg) (D : DefAt K mg "fits" s_fits ["web", "room", "story"]) (c_seen : Cal P w K mg base 1 "seen" g_seen) (c_story_way : Cal P w K mg base 1 "story_way" g_story_way) (c_story_sight : Cal P w K mg base 1 "story_sight" g_story_sight) : Cal P w K mg base 2 "fits" g_fits :=
  let ⟨f, fd, F, hm, hb⟩ := D.ex
  ⟨f, fd, ["web", "room", "story"], ok_fits B F c_seen c_story_way c_story_sight, hm, F.kp, hb⟩
/-! put_right -/
abbrev s_put_right : Stmt := top 17
abbrev N_put_right : List Str := ["web", "room", "story", "made"]
theorem sc_put_right : FnScope N_put_right ["web", "room", "story"] (defScope s_put_right) := ⟨rfl, rfl, rfl, by decide +kernel, rfl, by decide +kernel, by decide +kernel⟩
theorem ok_put_right {f : Addr} {fd : FuncData} (B : Bi mg) (F : Fun K "put_right" "put_right" s_put_right f fd) (c_crossings : Cal P w K mg base 6 "crossings" g_crossings) (c_fits : Cal P w K mg base 2 "fits" g_fits) : FnOk P w K mg base CX0 7 f fd ["web", "room", "story"] (spE K g_put_right) := by
  have h : ∃ b, FnOk P w K mg base CX0 7 f fd ["web", "room", "story"] (spE K (fnD 3 4 b)) ∧ b = b_put_right := ⟨_, fn_mk F sc_put_right fun cdv A outer s H E hc =>
    (ess_one (es_ret (ee_sortSetB hc hc.calm rfl B.n_sorted rfl B.n_set (ee_lc (own := [("made", 3)]) rfl sc_put_right.nd (ei_seq (ee_op opr_add op2_add (ee_lst (ea_cons (ee_v 0 (pv 0)) ea_nil)) (ee_call c_crossings hc (by omega) rfl (ea_cons (ee_v 0 (pv 0)) ea_nil)))) (blkOk_by (N := N_put_right) (sc := defScope s_put_right) (by decide +kernel)) (by decide) (fun _ _ _ _ _ => (eg_nm (pg_name (i := 3) sc_put_right.nd rfl (by first | exact Or.inl rfl | exact Or.inr rfl)))) (fun _ _ _ _ _ => (et_one (et_val (ee_call c_fits hc.blk (by omega) rfl (ea_cons (ee_v 3 (pv 3)) (ea_cons (ee_v 1 (pv 1)) (ea_cons (ee_v 2 (pv 2)) ea_nil))))))) (fun _ _ _ _ _ => (ee_v 3 (pv 3))))))), rfl⟩
  obtain ⟨_, h, rfl⟩ := h
  exact h
theorem cal_put_right (B : Bi mg) (D : DefAt K mg "put_right" s_put_right ["web", "room", "story"]) (c_crossings : Cal P w K mg base 6 "crossings" g_crossings) (c_fits : Cal P w K mg base 2 "fits" g_fits) : Cal P w K mg base 7 "put_right" g_put_right :=
  let ⟨f, fd, F, hm, hb⟩ := D.ex
  ⟨f, fd, ["web", "room", "story"], ok_put_right B F c_crossings c_fits, hm, F.kp, hb⟩
/-! _law_same -/
abbrev s_l_same : Stmt := top 24
abbrev N_l_same : List Str := ["_law_found", "_law_due", "_law_one", "_law_other"]
theorem sc_l_same : FnScope N_l_same ["_law_found", "_law_due"] (defScope s_l_same) := ⟨rfl, rfl, rfl, by decide +kernel, rfl, by decide +kernel, by decide +kernel⟩
theorem ok_l_same {f : Addr} {fd : FuncData} (B : Bi mg) (hm : mg "_law_same" = some (.ref f)) (hk : PySem.W.keepIn K (.ref f) = true) (hb : Binds K fd ["_law_found", "_law_due"] []) (F : Fun K "_law_same" "_law_same" s_l_same f fd)  : ∀ n : Nat, FnOk P w K mg base CX0 (0 + n) f fd ["_law_found", "_law_due"] (spE K (g_l_same_v2 n))
  | 0 => fn_zero
  | n + 1 => by
    have c_l_same : Cal P w K mg base (0 + n) "_law_same" (g_l_same_v2 n) := ⟨f, fd, ["_law_found", "_law_due"], ok_l_same B hm hk hb F  n, hm, hk, hb⟩
    have h : ∃ b, FnOk P w K mg base CX0 (0 + n + 1) f fd ["_law_found", "_law_due"] (spE K (fnD 2 4 b)) ∧ b = b_l_same_v2 (g_l_same_v2 n) := ⟨_, fn_mk F sc_l_same fun cdv A outer s H E hc =>
    (ess_cons (es_if (et_val (ee_cb opr_isi opa_isi rfl B.n_isinstance (by decide +kernel) (ea_cons (ee_v 1 (pv 1)) (ea_cons (ee_tup (ea_cons (ee_ty rfl B.n_list (n := "list") (by decide +kernel)) (ea_cons (ee_ty rfl B.n_tuple (n := "tuple") (by decide +kernel)) ea_nil))) ea_nil)))) (ess_cons (es_if (et_w (ew_or (et_not (et_val (ee_cb opr_isi opa_isi rfl B.n_isinstance (by decide +kernel) (ea_cons (ee_v 0 (pv 0)) (ea_cons (ee_tup (ea_cons (ee_ty rfl B.n_list (n := "list") (by decide +kernel)) (ea_cons (ee_ty rfl B.n_tuple (n := "tuple") (by decide +kernel)) ea_nil))) ea_nil))))) (ew_or1 (et_cmp (op_neD hc.room.units) op2_ne (ee_cb opr_isi opa_isi rfl B.n_isinstance (by decide +kernel) (ea_cons (ee_v 0 (pv 0)) (ea_cons (ee_ty rfl B.n_list (n := "list") (by decide +kernel)) ea_nil))) (ee_cb opr_isi opa_isi rfl B.n_isinstance (by decide +kernel) (ea_cons (ee_v 1 (pv 1)) (ea_cons (ee_ty rfl B.n_list (n := "list") (by decide +kernel)) ea_nil))) (nomark _))))) (ess_one (es_ret ee_bl)) ess_nil)
  (ess_one (es_ret (ee_and (ee_cmp (op_eqD hc.room.units) op2_eq (ee_cb opr_len opa_len rfl B.n_len (by decide +kernel) (ea_cons (ee_v 0 (pv 0)) ea_nil)) (ee_cb opr_len opa_len rfl B.n_len (by decide +kernel) (ea_cons (ee_v 1 (pv 1)) ea_nil)) (nomark _)) (ee_one (ee_cb (cr_all rfl) opa_all rfl B.n_all (by decide +kernel) (ea_cons (ee_lc (own := [("_law_one", 2), ("_law_other", 3)]) rfl sc_l_same.nd (ei_zip (ee_v 0 (pv 0)) (ee_v 1 (pv 1)) (fun h => RZ.pi_zipA rfl B.n_zip h)) (blkOk_by (N := N_l_same) (sc := defScope s_l_same) (by decide +kernel)) (by decide) (fun _ _ _ _ _ => (eg_tp rfl (egs_cons (eg_nm (pg_name (i := 2) sc_l_same.nd rfl (by first | exact Or.inl rfl | exact Or.inr rfl))) (egs_cons (eg_nm (pg_name (i := 3) sc_l_same.nd rfl (by first | exact Or.inl rfl | exact Or.inr rfl))) egs_nil)))) (fun _ _ _ _ _ => et_yes) (fun _ _ _ _ _ => (ee_call c_l_same hc.blk (by omega) rfl (ea_cons (ee_v 2 (pv 2)) (ea_cons (ee_v 3 (pv 3)) ea_nil))))) ea_nil))))))) ess_nil)
  (ess_cons (es_if (et_cmp opr_is op2_is (ee_v 1 (pv 1)) ee_non (nomark _)) (ess_one (es_ret (ee_cmp opr_is op2_is (ee_v 0 (pv 0)) ee_non (nomark _)))) ess_nil)
  (ess_one (es_ret (ee_and (ee_cb opr_isi opa_isi rfl B.n_isinstance (by decide +kernel) (ea_cons (ee_v 0 (pv 0)) (ea_cons (ee_ty rfl B.n_int (n := "int") (by decide +kernel)) ea_nil))) (ee_and (ee_cmp (op_eqD hc.room.units) op2_eq (ee_cb opr_isi opa_isi rfl B.n_isinstance (by decide +kernel) (ea_cons (ee_v 0 (pv 0)) (ea_cons (ee_ty rfl B.n_bool (n := "bool") (by decide +kernel)) ea_nil))) (ee_cb opr_isi opa_isi rfl B.n_isinstance (by decide +kernel) (ea_cons (ee_v 1 (pv 1)) (ea_cons (ee_ty rfl B.n_bool (n := "bool") (by decide +kernel)) ea_nil))) (nomark _)) (ee_one (ee_cmp (op_eqD hc.room.units) op2_eq (ee_v 0 (pv 0)) (ee_v 1 (pv 1)) (nomark _))))))))), rfl⟩
    obtain ⟨_, h, rfl⟩ := h
    exact h
theorem cal_l_same (B : Bi mg) (D : DefAt K mg "_law_same" s_l_same ["_law_found", "_law_due"])  : Cal P w K mg base 8 "_law_same" (g_l_same_v2 8) :=
  let ⟨f, fd, F, hm, hb⟩ := D.ex
  ⟨f, fd, ["_law_found", "_law_due"], ok_l_same B hm F.kp hb F  8, hm, F.kp, hb⟩
/-! law -/
abbrev s_law : Stmt := top 30
abbrev N_law : List Str := ["_law_script", "_law_box_here", "_law_size", "_law_web_here", "_law_made", "_law_other", "_law_room", "_law_story_here", "_law_due", "_law_turn", "_law_found", "_law_one"]
theorem sc_law : FnScope N_law ["_law_script"] (defScope s_law) := ⟨rfl, rfl, rfl, by decide +kernel, rfl, by decide +kernel, by decide +kernel⟩
theorem ok_law {f : Addr} {fd : FuncData} (B : Bi mg) (F : Fun K "law" "law" s_law f fd) (c_l_boxes : Cal P w K mg base 2 "_law_boxes" g_l_boxes) (c_l_take : Cal P w K mg base 1 "_law_take" g_l_take_v2) (c_l_web : Cal P w K mg base 2 "_law_web" g_l_web_v2) (c_l_all_crossed : Cal P w K mg base 2 "_law_all_crossed" g_l_all_crossed) (c_l_story : Cal P w K mg base 1 "_law_story" g_l_story) (c_l_way : Cal P w K mg base 2 "_law_way" g_l_way_v2) (c_l_last : Cal P w K mg base 1 "_law_last" g_l_last) (c_put_right : Cal P w K mg base 7 "put_right" g_put_right) (c_l_same : Cal P w K mg base 8 "_law_same" (g_l_same_v2 8)) : FnOk P w K mg base CX0 9 f fd ["_law_script"] (spE K g_law_v79) := by
  have h : ∃ b, FnOk P w K mg base CX0 9 f fd ["_law_script"] (spE K (fnD 1 12 b)) ∧ b = b_law_v79 := ⟨_, fn_mk F sc_law fun cdv A outer s H E hc =>
    (ess_cons (es_for PassesOwn.never rfl (ei_seq (ee_call c_l_boxes hc (by omega) rfl (ea_cons (ee_v 0 (pv 0)) (ea_cons ee_int ea_nil)))) (eg_nm (pg_name (i := 1) sc_law.nd rfl (by first | exact Or.inl rfl | exact Or.inr rfl))) (ess_cons (es_set (i := 2) sc_law.nd rfl (by first | exact Or.inl rfl | exact Or.inr rfl) (ee_sub hc (ee_lst (ea_cons (ee_op opr_add op2_add ee_int (ee_call c_l_take hc (by omega) rfl (ea_cons (ee_v 1 (pv 1)) (ea_cons ee_int ea_nil)))) (ea_cons ee_int ea_nil))) (ee_ct call_int1 opa_int rfl B.n_int (by decide +kernel) (ea_cons (ee_cmp (op_eqD hc.room.units) op2_eq (ee_call c_l_take hc (by omega) rfl (ea_cons (ee_v 1 (pv 1)) (ea_cons ee_int ea_nil))) ee_int (nomark _)) ea_nil))))
  (ess_cons (es_set (i := 3) sc_law.nd rfl (by first | exact Or.inl rfl | exact Or.inr rfl) (ee_call c_l_web hc (by omega) rfl (ea_cons (ee_v 1 (pv 1)) (ea_cons (ee_v 2 (pv 2)) (ea_cons (ee_op opr_add op2_add ee_int (ee_call c_l_take hc (by omega) rfl (ea_cons (ee_v 1 (pv 1)) (ea_cons ee_int ea_nil)))) ea_nil)))))
  (ess_cons (es_set (i := 4) sc_law.nd rfl (by first | exact Or.inl rfl | exact Or.inr rfl) (ee_call c_l_all_crossed hc (by omega) rfl (ea_cons (ee_v 3 (pv 3)) ea_nil)))
  (ess_cons (es_set (i := 5) sc_law.nd rfl (by first | exact Or.inl rfl | exact Or.inr rfl) (ee_sub hc (ee_lst (ea_cons (ee_v 3 (pv 3)) (ea_cons (ee_sub hc (ee_v 4 (pv 4)) (ee_call c_l_take hc (by omega) rfl (ea_cons (ee_v 1 (pv 1)) (ea_cons (ee_cb opr_len opa_len rfl B.n_len (by decide +kernel) (ea_cons (ee_v 4 (pv 4)) ea_nil)) ea_nil)))) (ea_cons (ee_call c_l_web hc (by omega) rfl (ea_cons (ee_v 1 (pv 1)) (ea_cons (ee_v 2 (pv 2)) (ea_cons ee_int ea_nil)))) ea_nil)))) (ee_call c_l_take hc (by omega) rfl (ea_cons (ee_v 1 (pv 1)) (ea_cons ee_int ea_nil)))))
  (ess_cons (es_set (i := 6) sc_law.nd rfl (by first | exact Or.inl rfl | exact Or.inr rfl) (ee_call c_l_take hc (by omega) rfl (ea_cons (ee_v 1 (pv 1)) (ea_cons (ee_v 2 (pv 2)) ea_nil))))
  (ess_cons (es_set (i := 7) sc_law.nd rfl (by first | exact Or.inl rfl | exact Or.inr rfl) (ee_call c_l_story hc (by omega) rfl (ea_cons (ee_v 5 (pv 5)) (ea_cons (ee_v 6 (pv 6)) (ea_cons (ee_call c_l_way hc (by omega) rfl (ea_cons (ee_v 1 (pv 1)) (ea_cons (ee_v 5 (pv 5)) (ea_cons (ee_v 6 (pv 6)) (ea_cons (ee_call c_l_take hc (by omega) rfl (ea_cons (ee_v 1 (pv 1)) (ea_cons ee_int ea_nil))) ea_nil))))) ea_nil)))))
  (ess_cons (es_set (i := 8) sc_law.nd rfl (by first | exact Or.inl rfl | exact Or.inr rfl) (ee_sortSetB hc hc.calm rfl B.n_sorted rfl B.n_set (ee_lc (own := [("_law_one", 11)]) rfl sc_law.nd (ei_seq (ee_v 4 (pv 4))) (blkOk_by (N := N_law) (sc := defScope s_law) (by decide +kernel)) (by decide) (fun _ _ _ _ _ => (eg_nm (pg_name (i := 11) sc_law.nd rfl (by first | exact Or.inl rfl | exact Or.inr rfl)))) (fun _ _ _ _ _ => (et_one (et_cmp opr_isnot op2_isnot (ee_call c_l_last hc.blk (by omega) rfl (ea_cons (ee_v 11 (pv 11)) (ea_cons (ee_v 6 (pv 6)) (ea_cons (ee_v 7 (pv 7)) ea_nil)))) ee_non (nomark _)))) (fun _ _ _ _ _ => (ee_v 11 (pv 11))))))
  (ess_one (es_for PassesOwn.never rfl (ei_range1 rfl B.n_range ee_int) (eg_nm (pg_name (i := 9) sc_law.nd rfl (by first | exact Or.inl rfl | exact Or.inr rfl))) (ess_cons (es_set (i := 10) sc_law.nd rfl (by first | exact Or.inl rfl | exact Or.inr rfl) (ee_call c_put_right hc (by omega) rfl (ea_cons (ee_v 3 (pv 3)) (ea_cons (ee_v 6 (pv 6)) (ea_cons (ee_v 7 (pv 7)) ea_nil)))))
  (ess_cons (es_if (et_not (et_val (ee_call c_l_same hc (by omega) rfl (ea_cons (ee_v 10 (pv 10)) (ea_cons (ee_v 8 (pv 8)) ea_nil))))) (ess_one (es_ret ee_bl)) ess_nil)
  (ess_one (es_expr (ee_m (pe_bm PySem.F.plainAttrs_list PySem.F.slot_list_append PySem.F.type_list_append mt_append (ee_v 10 (pv 10)) (ea_cons (ee_v 3 (pv 3)) ea_nil)) opm_append)))))))))))))))
  (ess_one (es_ret ee_bl))), rfl⟩
  obtain ⟨_, h, rfl⟩ := h
  exact h
theorem cal_law (B : Bi mg) (D : DefAt K mg "law" s_law ["_law_script"]) (c_l_boxes : Cal P w K mg base 2 "_law_boxes" g_l_boxes) (c_l_take : Cal P w K mg base 1 "_law_take" g_l_take_v2) (c_l_web : Cal P w K mg base 2 "_law_web" g_l_web_v2) (c_l_all_crossed : Cal P w K mg base 2 "_law_all_crossed" g_l_all_crossed) (c_l_story : Cal P w K mg base 1 "_law_story" g_l_story) (c_l_way : Cal P w K mg base 2 "_law_way" g_l_way_v2) (c_l_last : Cal P w K mg base 1 "_law_last" g_l_last) (c_put_right : Cal P w K mg base 7 "put_right" g_put_right) (c_l_same : Cal P w K mg base 8 "_law_same" (g_l_same_v2 8)) : Cal P w K mg base 9 "law" g_law_v79 :=
  let ⟨f, fd, F, hm, hb⟩ := D.ex
  ⟨f, fd, ["_law_script"], ok_law B F c_l_boxes c_l_take c_l_web c_l_all_crossed c_l_story c_l_way c_l_last c_put_right c_l_same, hm, F.kp, hb⟩
end
theorem bd_l_box : ∀ (kV doc pm : Value) (an : Option Addr) (cdv ct : Value) (us : List Value), us.length = 2 → bindArgs (PySem.W.fnOf "_law_box" "_law_box" (defArgs s_l_box) (defBody s_l_box) (defScope s_l_box) .none kV doc pm an cdv ct) ⟨us, []⟩ = pure ((["_law_script", "_law_k"] : List Str).zip us) := fun _ _ _ _ _ _ us hl => match us, hl with | [_, _], _ => rfl
theorem bd_l_boxes : ∀ (kV doc pm : Value) (an : Option Addr) (cdv ct : Value) (us : List Value), us.length = 2 → bindArgs (PySem.W.fnOf "_law_boxes" "_law_boxes" (defArgs s_l_boxes) (defBody s_l_boxes) (defScope s_l_boxes) .none kV doc pm an cdv ct) ⟨us, []⟩ = pure ((["_law_script", "_law_most"] : List Str).zip us) := fun _ _ _ _ _ _ us hl => match us, hl with | [_, _], _ => rfl
theorem bd_l_take : ∀ (kV doc pm : Value) (an : Option Addr) (cdv ct : Value) (us : List Value), us.length = 2 → bindArgs (PySem.W.fnOf "_law_take" "_law_take" (defArgs s_l_take) (defBody s_l_take) (defScope s_l_take) .none kV doc pm an cdv ct) ⟨us, []⟩ = pure ((["_law_box_here", "_law_many"] : List Str).zip us) := fun _ _ _ _ _ _ us hl => match us, hl with | [_, _], _ => rfl
theorem bd_l_web : ∀ (kV doc pm : Value) (an : Option Addr) (cdv ct : Value) (us : List Value), us.length = 3 → bindArgs (PySem.W.fnOf "_law_web" "_law_web" (defArgs s_l_web) (defBody s_l_web) (defScope s_l_web) .none kV doc pm an cdv ct) ⟨us, []⟩ = pure ((["_law_box_here", "_law_size", "_law_more"] : List Str).zip us) := fun _ _ _ _ _ _ us hl => match us, hl with | [_, _, _], _ => rfl
theorem bd_l_ties : ∀ (kV doc pm : Value) (an : Option Addr) (cdv ct : Value) (us : List Value), us.length = 1 → bindArgs (PySem.W.fnOf "_law_ties" "_law_ties" (defArgs s_l_ties) (defBody s_l_ties) (defScope s_l_ties) .none kV doc pm an cdv ct) ⟨us, []⟩ = pure ((["_law_web_here"] : List Str).zip us) := fun _ _ _ _ _ _ us hl => match us, hl with | [_], _ => rfl
theorem bd_l_crossed : ∀ (kV doc pm : Value) (an : Option Addr) (cdv ct : Value) (us : List Value), us.length = 4 → bindArgs (PySem.W.fnOf "_law_crossed" "_law_crossed" (defArgs s_l_crossed) (defBody s_l_crossed) (defScope s_l_crossed) .none kV doc pm an cdv ct) ⟨us, []⟩ = pure ((["_law_web_here", "_law_first", "_law_second", "_law_about"] : List Str).zip us) := fun _ _ _ _ _ _ us hl => match us, hl with | [_, _, _, _], _ => rfl
theorem bd_l_all_crossed : ∀ (kV doc pm : Value) (an : Option Addr) (cdv ct : Value) (us : List Value), us.length = 1 → bindArgs (PySem.W.fnOf "_law_all_crossed" "_law_all_crossed" (defArgs s_l_all_crossed) (defBody s_l_all_crossed) (defScope s_l_all_crossed) .none kV doc pm an cdv ct) ⟨us, []⟩ = pure ((["_law_web_here"] : List Str).zip us) := fun _ _ _ _ _ _ us hl => match us, hl with | [_], _ => rfl
theorem bd_l_story : ∀ (kV doc pm : Value) (an : Option Addr) (cdv ct : Value) (us : List Value), us.length = 3 → bindArgs (PySem.W.fnOf "_law_story" "_law_story" (defArgs s_l_story) (defBody s_l_story) (defScope s_l_story) .none kV doc pm an cdv ct) ⟨us, []⟩ = pure ((["_law_web_here", "_law_room", "_law_way_here"] : List Str).zip us) := fun _ _ _ _ _ _ us hl => match us, hl with | [_, _, _], _ => rfl
theorem bd_l_way : ∀ (kV doc pm : Value) (an : Option Addr) (cdv ct : Value) (us : List Value), us.length = 4 → bindArgs (PySem.W.fnOf "_law_way" "_law_way" (defArgs s_l_way) (defBody s_l_way) (defScope s_l_way) .none kV doc pm an cdv ct) ⟨us, []⟩ = pure ((["_law_box_here", "_law_web_here", "_law_room", "_law_many"] : List Str).zip us) := fun _ _ _ _ _ _ us hl => match us, hl with | [_, _, _, _], _ => rfl
theorem bd_l_last : ∀ (kV doc pm : Value) (an : Option Addr) (cdv ct : Value) (us : List Value), us.length = 3 → bindArgs (PySem.W.fnOf "_law_last" "_law_last" (defArgs s_l_last) (defBody s_l_last) (defScope s_l_last) .none kV doc pm an cdv ct) ⟨us, []⟩ = pure ((["_law_web_here", "_law_room", "_law_story_here"] : List Str).zip us) := fun _ _ _ _ _ _ us hl => match us, hl with | [_, _, _], _ => rfl
theorem bd_ties : ∀ (kV doc pm : Value) (an : Option Addr) (cdv ct : Value) (us : List Value), us.length = 1 → bindArgs (PySem.W.fnOf "ties" "ties" (defArgs s_ties) (defBody s_ties) (defScope s_ties) .none kV doc pm an cdv ct) ⟨us, []⟩ = pure ((["web"] : List Str).zip us) := fun _ _ _ _ _ _ us hl => match us, hl with | [_], _ => rfl
theorem bd_leads_back : ∀ (kV doc pm : Value) (an : Option Addr) (cdv ct : Value) (us : List Value), us.length = 1 → bindArgs (PySem.W.fnOf "leads_back" "leads_back" (defArgs s_leads_back) (defBody s_leads_back) (defScope s_leads_back) .none kV doc pm an cdv ct) ⟨us, []⟩ = pure ((["tie"] : List Str).zip us) := fun _ _ _ _ _ _ us hl => match us, hl with | [_], _ => rfl
theorem bd_with_ties : ∀ (kV doc pm : Value) (an : Option Addr) (cdv ct : Value) (us : List Value), us.length = 2 → bindArgs (PySem.W.fnOf "with_ties" "with_ties" (defArgs s_with_ties) (defBody s_with_ties) (defScope s_with_ties) .none kV doc pm an cdv ct) ⟨us, []⟩ = pure ((["web", "pairs"] : List Str).zip us) := fun _ _ _ _ _ _ us hl => match us, hl with | [_, _], _ => rfl
theorem bd_is_count : ∀ (kV doc pm : Value) (an : Option Addr) (cdv ct : Value) (us : List Value), us.length = 2 → bindArgs (PySem.W.fnOf "is_count" "is_count" (defArgs s_is_count) (defBody s_is_count) (defScope s_is_count) .none kV doc pm an cdv ct) ⟨us, []⟩ = pure ((["thing", "many"] : List Str).zip us) := fun _ _ _ _ _ _ us hl => match us, hl with | [_, _], _ => rfl
theorem bd_is_end_in : ∀ (kV doc pm : Value) (an : Option Addr) (cdv ct : Value) (us : List Value), us.length = 2 → bindArgs (PySem.W.fnOf "is_end_in" "is_end_in" (defArgs s_is_end_in) (defBody s_is_end_in) (defScope s_is_end_in) .none kV doc pm an cdv ct) ⟨us, []⟩ = pure ((["web", "thing"] : List Str).zip us) := fun _ _ _ _ _ _ us hl => match us, hl with | [_, _], _ => rfl
theorem bd_are_told_ends : ∀ (kV doc pm : Value) (an : Option Addr) (cdv ct : Value) (us : List Value), us.length = 2 → bindArgs (PySem.W.fnOf "are_told_ends" "are_told_ends" (defArgs s_are_told_ends) (defBody s_are_told_ends) (defScope s_are_told_ends) .none kV doc pm an cdv ct) ⟨us, []⟩ = pure ((["web", "number"] : List Str).zip us) := fun _ _ _ _ _ _ us hl => match us, hl with | [_, _], _ => rfl
theorem bd_rooms_met : ∀ (kV doc pm : Value) (an : Option Addr) (cdv ct : Value) (us : List Value), us.length = 2 → bindArgs (PySem.W.fnOf "rooms_met" "rooms_met" (defArgs s_rooms_met) (defBody s_rooms_met) (defScope s_rooms_met) .none kV doc pm an cdv ct) ⟨us, []⟩ = pure ((["web", "first"] : List Str).zip us) := fun _ _ _ _ _ _ us hl => match us, hl with | [_, _], _ => rfl
theorem bd_is_web : ∀ (kV doc pm : Value) (an : Option Addr) (cdv ct : Value) (us : List Value), us.length = 1 → bindArgs (PySem.W.fnOf "is_web" "is_web" (defArgs s_is_web) (defBody s_is_web) (defScope s_is_web) .none kV doc pm an cdv ct) ⟨us, []⟩ = pure ((["thing"] : List Str).zip us) := fun _ _ _ _ _ _ us hl => match us, hl with | [_], _ => rfl
theorem bd_web_crossed : ∀ (kV doc pm : Value) (an : Option Addr) (cdv ct : Value) (us : List Value), us.length = 4 → bindArgs (PySem.W.fnOf "web_crossed" "web_crossed" (defArgs s_web_crossed) (defBody s_web_crossed) (defScope s_web_crossed) .none kV doc pm an cdv ct) ⟨us, []⟩ = pure ((["web", "first", "second", "about"] : List Str).zip us) := fun _ _ _ _ _ _ us hl => match us, hl with | [_, _, _, _], _ => rfl
theorem bd_crossings : ∀ (kV doc pm : Value) (an : Option Addr) (cdv ct : Value) (us : List Value), us.length = 1 → bindArgs (PySem.W.fnOf "crossings" "crossings" (defArgs s_crossings) (defBody s_crossings) (defScope s_crossings) .none kV doc pm an cdv ct) ⟨us, []⟩ = pure ((["web"] : List Str).zip us) := fun _ _ _ _ _ _ us hl => match us, hl with | [_], _ => rfl
theorem bd_seen : ∀ (kV doc pm : Value) (an : Option Addr) (cdv ct : Value) (us : List Value), us.length = 3 → bindArgs (PySem.W.fnOf "seen" "seen" (defArgs s_seen) (defBody s_seen) (defScope s_seen) .none kV doc pm an cdv ct) ⟨us, []⟩ = pure ((["web", "room", "way"] : List Str).zip us) := fun _ _ _ _ _ _ us hl => match us, hl with | [_, _, _], _ => rfl
theorem bd_story_way : ∀ (kV doc pm : Value) (an : Option Addr) (cdv ct : Value) (us : List Value), us.length = 1 → bindArgs (PySem.W.fnOf "story_way" "story_way" (defArgs s_story_way) (defBody s_story_way) (defScope s_story_way) .none kV doc pm an cdv ct) ⟨us, []⟩ = pure ((["story"] : List Str).zip us) := fun _ _ _ _ _ _ us hl => match us, hl with | [_], _ => rfl
theorem bd_story_sight : ∀ (kV doc pm : Value) (an : Option Addr) (cdv ct : Value) (us : List Value), us.length = 1 → bindArgs (PySem.W.fnOf "story_sight" "story_sight" (defArgs s_story_sight) (defBody s_story_sight) (defScope s_story_sight) .none kV doc pm an cdv ct) ⟨us, []⟩ = pure ((["story"] : List Str).zip us) := fun _ _ _ _ _ _ us hl => match us, hl with | [_], _ => rfl
theorem bd_fits : ∀ (kV doc pm : Value) (an : Option Addr) (cdv ct : Value) (us : List Value), us.length = 3 → bindArgs (PySem.W.fnOf "fits" "fits" (defArgs s_fits) (defBody s_fits) (defScope s_fits) .none kV doc pm an cdv ct) ⟨us, []⟩ = pure ((["web", "room", "story"] : List Str).zip us) := fun _ _ _ _ _ _ us hl => match us, hl with | [_, _, _], _ => rfl
theorem bd_put_right : ∀ (kV doc pm : Value) (an : Option Addr) (cdv ct : Value) (us : List Value), us.length = 3 → bindArgs (PySem.W.fnOf "put_right" "put_right" (defArgs s_put_right) (defBody s_put_right) (defScope s_put_right) .none kV doc pm an cdv ct) ⟨us, []⟩ = pure ((["web", "room", "story"] : List Str).zip us) := fun _ _ _ _ _ _ us hl => match us, hl with | [_, _, _], _ => rfl
theorem bd_l_same : ∀ (kV doc pm : Value) (an : Option Addr) (cdv ct : Value) (us : List Value), us.length = 2 → bindArgs (PySem.W.fnOf "_law_same" "_law_same" (defArgs s_l_same) (defBody s_l_same) (defScope s_l_same) .none kV doc pm an cdv ct) ⟨us, []⟩ = pure ((["_law_found", "_law_due"] : List Str).zip us) := fun _ _ _ _ _ _ us hl => match us, hl with | [_, _], _ => rfl
theorem bd_law : ∀ (kV doc pm : Value) (an : Option Addr) (cdv ct : Value) (us : List Value), us.length = 1 → bindArgs (PySem.W.fnOf "law" "law" (defArgs s_law) (defBody s_law) (defScope s_law) .none kV doc pm an cdv ct) ⟨us, []⟩ = pure ((["_law_script"] : List Str).zip us) := fun _ _ _ _ _ _ us hl => match us, hl with | [_], _ => rfl
end SW
namespace SW
open PySem L2
theorem all_mk {l : PySem.W.OpenLaw} {w : World} {K : PySem.W.Frag} {h : Heap} {mg : Str → Option Value} {fa : Addr} (X : K.In h) (G : h.Ns mainGlobals mg) (hfa : mg "law" = some (.ref fa))
    {f0 : Addr} {oc0 : Value} {od0 an0 : Option Addr} {sl0 : Array (Option Value)} {kV0 dc0 pm0 cd0 ct0 : Value} (a0 : PySem.W.nsIn K mainGlobals "_law_box" = some (some (.ref f0))) (l0 : K.lookup f0 = some ⟨oc0, od0, .func (PySem.W.fnOf "_law_box" "_law_box" (defArgs s_l_box) (defBody s_l_box) (defScope s_l_box) .none kV0 dc0 pm0 an0 cd0 ct0), sl0⟩) (c0 : PySem.W.codeIn K cd0 "_law_box" = true) (k0 : PySem.W.keepIn K (.ref f0) = true)
    {f1 : Addr} {oc1 : Value} {od1 an1 : Option Addr} {sl1 : Array (Option Value)} {kV1 dc1 pm1 cd1 ct1 : Value} (a1 : PySem.W.nsIn K mainGlobals "_law_boxes" = some (some (.ref f1))) (l1 : K.lookup f1 = some ⟨oc1, od1, .func (PySem.W.fnOf "_law_boxes" "_law_boxes" (defArgs s_l_boxes) (defBody s_l_boxes) (defScope s_l_boxes) .none kV1 dc1 pm1 an1 cd1 ct1), sl1⟩) (c1 : PySem.W.codeIn K cd1 "_law_boxes" = true) (k1 : PySem.W.keepIn K (.ref f1) = true)
    {f2 : Addr} {oc2 : Value} {od2 an2 : Option Addr} {sl2 : Array (Option Value)} {kV2 dc2 pm2 cd2 ct2 : Value} (a2 : PySem.W.nsIn K mainGlobals "_law_take" = some (some (.ref f2))) (l2 : K.lookup f2 = some ⟨oc2, od2, .func (PySem.W.fnOf "_law_take" "_law_take" (defArgs s_l_take) (defBody s_l_take) (defScope s_l_take) .none kV2 dc2 pm2 an2 cd2 ct2), sl2⟩) (c2 : PySem.W.codeIn K cd2 "_law_take" = true) (k2 : PySem.W.keepIn K (.ref f2) = true)
    {f3 : Addr} {oc3 : Value} {od3 an3 : Option Addr} {sl3 : Array (Option Value)} {kV3 dc3 pm3 cd3 ct3 : Value} (a3 : PySem.W.nsIn K mainGlobals "_law_web" = some (some (.ref f3))) (l3 : K.lookup f3 = some ⟨oc3, od3, .func (PySem.W.fnOf "_law_web" "_law_web" (defArgs s_l_web) (defBody s_l_web) (defScope s_l_web) .none kV3 dc3 pm3 an3 cd3 ct3), sl3⟩) (c3 : PySem.W.codeIn K cd3 "_law_web" = true) (k3 : PySem.W.keepIn K (.ref f3) = true)
    {f4 : Addr} {oc4 : Value} {od4 an4 : Option Addr} {sl4 : Array (Option Value)} {kV4 dc4 pm4 cd4 ct4 : Value} (a4 : PySem.W.nsIn K mainGlobals "_law_ties" = some (some (.ref f4))) (l4 : K.lookup f4 = some ⟨oc4, od4, .func (PySem.W.fnOf "_law_ties" "_law_ties" (defArgs s_l_ties) (defBody s_l_ties) (defScope s_l_ties) .none kV4 dc4 pm4 an4 cd4 ct4), sl4⟩) (c4 : PySem.W.codeIn K cd4 "_law_ties" = true) (k4 : PySem.W.keepIn K (.ref f4) = true)
    {f5 : Addr} {oc5 : Value} {od5 an5 : Option Addr} {sl5 : Array (Option Value)} {kV5 dc5 pm5 cd5 ct5 : Value} (a5 : PySem.W.nsIn K mainGlobals "_law_crossed" = some (some (.ref f5))) (l5 : K.lookup f5 = some ⟨oc5, od5, .func (PySem.W.fnOf "_law_crossed" "_law_crossed" (defArgs s_l_crossed) (defBody s_l_crossed) (defScope s_l_crossed) .none kV5 dc5 pm5 an5 cd5 ct5), sl5⟩) (c5 : PySem.W.codeIn K cd5 "_law_crossed" = true) (k5 : PySem.W.keepIn K (.ref f5) = true)
    {f6 : Addr} {oc6 : Value} {od6 an6 : Option Addr} {sl6 : Array (Option Value)} {kV6 dc6 pm6 cd6 ct6 : Value} (a6 : PySem.W.nsIn K mainGlobals "_law_all_crossed" = some (some (.ref f6))) (l6 : K.lookup f6 = some ⟨oc6, od6, .func (PySem.W.fnOf "_law_all_crossed" "_law_all_crossed" (defArgs s_l_all_crossed) (defBody s_l_all_crossed) (defScope s_l_all_crossed) .none kV6 dc6 pm6 an6 cd6 ct6), sl6⟩) (c6 : PySem.W.codeIn K cd6 "_law_all_crossed" = true) (k6 : PySem.W.keepIn K (.ref f6) = true)
    {f7 : Addr} {oc7 : Value} {od7 an7 : Option Addr} {sl7 : Array (Option Value)} {kV7 dc7 pm7 cd7 ct7 : Value} (a7 : PySem.W.nsIn K mainGlobals "_law_story" = some (some (.ref f7))) (l7 : K.lookup f7 = some ⟨oc7, od7, .func (PySem.W.fnOf "_law_story" "_law_story" (defArgs s_l_story) (defBody s_l_story) (defScope s_l_story) .none kV7 dc7 pm7 an7 cd7 ct7), sl7⟩) (c7 : PySem.W.codeIn K cd7 "_law_story" = true) (k7 : PySem.W.keepIn K (.ref f7) = true)
    {f8 : Addr} {oc8 : Value} {od8 an8 : Option Addr} {sl8 : Array (Option Value)} {kV8 dc8 pm8 cd8 ct8 : Value} (a8 : PySem.W.nsIn K mainGlobals "_law_way" = some (some (.ref f8))) (l8 : K.lookup f8 = some ⟨oc8, od8, .func (PySem.W.fnOf "_law_way" "_law_way" (defArgs s_l_way) (defBody s_l_way) (defScope s_l_way) .none kV8 dc8 pm8 an8 cd8 ct8), sl8⟩) (c8 : PySem.W.codeIn K cd8 "_law_way" = true) (k8 : PySem.W.keepIn K (.ref f8) = true)
    {f9 : Addr} {oc9 : Value} {od9 an9 : Option Addr} {sl9 : Array (Option Value)} {kV9 dc9 pm9 cd9 ct9 : Value} (a9 : PySem.W.nsIn K mainGlobals "_law_last" = some (some (.ref f9))) (l9 : K.lookup f9 = some ⟨oc9, od9, .func (PySem.W.fnOf "_law_last" "_law_last" (defArgs s_l_last) (defBody s_l_last) (defScope s_l_last) .none kV9 dc9 pm9 an9 cd9 ct9), sl9⟩) (c9 : PySem.W.codeIn K cd9 "_law_last" = true) (k9 : PySem.W.keepIn K (.ref f9) = true)
    {f10 : Addr} {oc10 : Value} {od10 an10 : Option Addr} {sl10 : Array (Option Value)} {kV10 dc10 pm10 cd10 ct10 : Value} (a10 : PySem.W.nsIn K mainGlobals "ties" = some (some (.ref f10))) (l10 : K.lookup f10 = some ⟨oc10, od10, .func (PySem.W.fnOf "ties" "ties" (defArgs s_ties) (defBody s_ties) (defScope s_ties) .none kV10 dc10 pm10 an10 cd10 ct10), sl10⟩) (c10 : PySem.W.codeIn K cd10 "ties" = true) (k10 : PySem.W.keepIn K (.ref f10) = true)
    {f11 : Addr} {oc11 : Value} {od11 an11 : Option Addr} {sl11 : Array (Option Value)} {kV11 dc11 pm11 cd11 ct11 : Value} (a11 : PySem.W.nsIn K mainGlobals "leads_back" = some (some (.ref f11))) (l11 : K.lookup f11 = some ⟨oc11, od11, .func (PySem.W.fnOf "leads_back" "leads_back" (defArgs s_leads_back) (defBody s_leads_back) (defScope s_leads_back) .none kV11 dc11 pm11 an11 cd11 ct11), sl11⟩) (c11 : PySem.W.codeIn K cd11 "leads_back" = true) (k11 : PySem.W.keepIn K (.ref f11) = true)
    {f12 : Addr} {oc12 : Value} {od12 an12 : Option Addr} {sl12 : Array (Option Value)} {kV12 dc12 pm12 cd12 ct12 : Value} (a12 : PySem.W.nsIn K mainGlobals "with_ties" = some (some (.ref f12))) (l12 : K.lookup f12 = some ⟨oc12, od12, .func (PySem.W.fnOf "with_ties" "with_ties" (defArgs s_with_ties) (defBody s_with_ties) (defScope s_with_ties) .none kV12 dc12 pm12 an12 cd12 ct12), sl12⟩) (c12 : PySem.W.codeIn K cd12 "with_ties" = true) (k12 : PySem.W.keepIn K (.ref f12) = true)
    {f13 : Addr} {oc13 : Value} {od13 an13 : Option Addr} {sl13 : Array (Option Value)} {kV13 dc13 pm13 cd13 ct13 : Value} (a13 : PySem.W.nsIn K mainGlobals "is_count" = some (some (.ref f13))) (l13 : K.lookup f13 = some ⟨oc13, od13, .func (PySem.W.fnOf "is_count" "is_count" (defArgs s_is_count) (defBody s_is_count) (defScope s_is_count) .none kV13 dc13 pm13 an13 cd13 ct13), sl13⟩) (c13 : PySem.W.codeIn K cd13 "is_count" = true) (k13 : PySem.W.keepIn K (.ref f13) = true)
    {f14 : Addr} {oc14 : Value} {od14 an14 : Option Addr} {sl14 : Array (Option Value)} {kV14 dc14 pm14 cd14 ct14 : Value} (a14 : PySem.W.nsIn K mainGlobals "is_end_in" = some (some (.ref f14))) (l14 : K.lookup f14 = some ⟨oc14, od14, .func (PySem.W.fnOf "is_end_in" "is_end_in" (defArgs s_is_end_in) (defBody s_is_end_in) (defScope s_is_end_in) .none kV14 dc14 pm14 an14 cd14 ct14), sl14⟩) (c14 : PySem.W.codeIn K cd14 "is_end_in" = true) (k14 : PySem.W.keepIn K (.ref f14) = true)
    {f15 : Addr} {oc15 : Value} {od15 an15 : Option Addr} {sl15 : Array (Option Value)} {kV15 dc15 pm15 cd15 ct15 : Value} (a15 : PySem.W.nsIn K mainGlobals "are_told_ends" = some (some (.ref f15))) (l15 : K.lookup f15 = some ⟨oc15, od15, .func (PySem.W.fnOf "are_told_ends" "are_told_ends" (defArgs s_are_told_ends) (defBody s_are_told_ends) (defScope s_are_told_ends) .none kV15 dc15 pm15 an15 cd15 ct15), sl15⟩) (c15 : PySem.W.codeIn K cd15 "are_told_ends" = true) (k15 : PySem.W.keepIn K (.ref f15) = true)
    {f16 : Addr} {oc16 : Value} {od16 an16 : Option Addr} {sl16 : Array (Option Value)} {kV16 dc16 pm16 cd16 ct16 : Value} (a16 : PySem.W.nsIn K mainGlobals "rooms_met" = some (some (.ref f16))) (l16 : K.lookup f16 = some ⟨oc16, od16, .func (PySem.W.fnOf "rooms_met" "rooms_met" (defArgs s_rooms_met) (defBody s_rooms_met) (defScope s_rooms_met) .none kV16 dc16 pm16 an16 cd16 ct16), sl16⟩) (c16 : PySem.W.codeIn K cd16 "rooms_met" = true) (k16 : PySem.W.keepIn K (.ref f16) = true)
    {f17 : Addr} {oc17 : Value} {od17 an17 : Option Addr} {sl17 : Array (Option Value)} {kV17 dc17 pm17 cd17 ct17 : Value} (a17 : PySem.W.nsIn K mainGlobals "is_web" = some (some (.ref f17))) (l17 : K.lookup f17 = some ⟨oc17, od17, .func (PySem.W.fnOf "is_web" "is_web" (defArgs s_is_web) (defBody s_is_web) (defScope s_is_web) .none kV17 dc17 pm17 an17 cd17 ct17), sl17⟩) (c17 : PySem.W.codeIn K cd17 "is_web" = true) (k17 : PySem.W.keepIn K (.ref f17) = true)
    {f18 : Addr} {oc18 : Value} {od18 an18 : Option Addr} {sl18 : Array (Option Value)} {kV18 dc18 pm18 cd18 ct18 : Value} (a18 : PySem.W.nsIn K mainGlobals "web_crossed" = some (some (.ref f18))) (l18 : K.lookup f18 = some ⟨oc18, od18, .func (PySem.W.fnOf "web_crossed" "web_crossed" (defArgs s_web_crossed) (defBody s_web_crossed) (defScope s_web_crossed) .none kV18 dc18 pm18 an18 cd18 ct18), sl18⟩) (c18 : PySem.W.codeIn K cd18 "web_crossed" = true) (k18 : PySem.W.keepIn K (.ref f18) = true)
    {f19 : Addr} {oc19 : Value} {od19 an19 : Option Addr} {sl19 : Array (Option Value)} {kV19 dc19 pm19 cd19 ct19 : Value} (a19 : PySem.W.nsIn K mainGlobals "crossings" = some (some (.ref f19))) (l19 : K.lookup f19 = some ⟨oc19, od19, .func (PySem.W.fnOf "crossings" "crossings" (defArgs s_crossings) (defBody s_crossings) (defScope s_crossings) .none kV19 dc19 pm19 an19 cd19 ct19), sl19⟩) (c19 : PySem.W.codeIn K cd19 "crossings" = true) (k19 : PySem.W.keepIn K (.ref f19) = true)
    {f20 : Addr} {oc20 : Value} {od20 an20 : Option Addr} {sl20 : Array (Option Value)} {kV20 dc20 pm20 cd20 ct20 : Value} (a20 : PySem.W.nsIn K mainGlobals "seen" = some (some (.ref f20))) (l20 : K.lookup f20 = some ⟨oc20, od20, .func (PySem.W.fnOf "seen" "seen" (defArgs s_seen) (defBody s_seen) (defScope s_seen) .none kV20 dc20 pm20 an20 cd20 ct20), sl20⟩) (c20 : PySem.W.codeIn K cd20 "seen" = true) (k20 : PySem.W.keepIn K (.ref f20) = true)
    {f21 : Addr} {oc21 : Value} {od21 an21 : Option Addr} {sl21 : Array (Option Value)} {kV21 dc21 pm21 cd21 ct21 : Value} (a21 : PySem.W.nsIn K mainGlobals "story_way" = some (some (.ref f21))) (l21 : K.lookup f21 = some ⟨oc21, od21, .func (PySem.W.fnOf "story_way" "story_way" (defArgs s_story_way) (defBody s_story_way) (defScope s_story_way) .none kV21 dc21 pm21 an21 cd21 ct21), sl21⟩) (c21 : PySem.W.codeIn K cd21 "story_way" = true) (k21 : PySem.W.keepIn K (.ref f21) = true)
    {f22 : Addr} {oc22 : Value} {od22 an22 : Option Addr} {sl22 : Array (Option Value)} {kV22 dc22 pm22 cd22 ct22 : Value} (a22 : PySem.W.nsIn K mainGlobals "story_sight" = some (some (.ref f22))) (l22 : K.lookup f22 = some ⟨oc22, od22, .func (PySem.W.fnOf "story_sight" "story_sight" (defArgs s_story_sight) (defBody s_story_sight) (defScope s_story_sight) .none kV22 dc22 pm22 an22 cd22 ct22), sl22⟩) (c22 : PySem.W.codeIn K cd22 "story_sight" = true) (k22 : PySem.W.keepIn K (.ref f22) = true)
    {f23 : Addr} {oc23 : Value} {od23 an23 : Option Addr} {sl23 : Array (Option Value)} {kV23 dc23 pm23 cd23 ct23 : Value} (a23 : PySem.W.nsIn K mainGlobals "fits" = some (some (.ref f23))) (l23 : K.lookup f23 = some ⟨oc23, od23, .func (PySem.W.fnOf "fits" "fits" (defArgs s_fits) (defBody s_fits) (defScope s_fits) .none kV23 dc23 pm23 an23 cd23 ct23), sl23⟩) (c23 : PySem.W.codeIn K cd23 "fits" = true) (k23 : PySem.W.keepIn K (.ref f23) = true)
    {f24 : Addr} {oc24 : Value} {od24 an24 : Option Addr} {sl24 : Array (Option Value)} {kV24 dc24 pm24 cd24 ct24 : Value} (a24 : PySem.W.nsIn K mainGlobals "put_right" = some (some (.ref f24))) (l24 : K.lookup f24 = some ⟨oc24, od24, .func (PySem.W.fnOf "put_right" "put_right" (defArgs s_put_right) (defBody s_put_right) (defScope s_put_right) .none kV24 dc24 pm24 an24 cd24 ct24), sl24⟩) (c24 : PySem.W.codeIn K cd24 "put_right" = true) (k24 : PySem.W.keepIn K (.ref f24) = true)
    {f25 : Addr} {oc25 : Value} {od25 an25 : Option Addr} {sl25 : Array (Option Value)} {kV25 dc25 pm25 cd25 ct25 : Value} (a25 : PySem.W.nsIn K mainGlobals "_law_same" = some (some (.ref f25))) (l25 : K.lookup f25 = some ⟨oc25, od25, .func (PySem.W.fnOf "_law_same" "_law_same" (defArgs s_l_same) (defBody s_l_same) (defScope s_l_same) .none kV25 dc25 pm25 an25 cd25 ct25), sl25⟩) (c25 : PySem.W.codeIn K cd25 "_law_same" = true) (k25 : PySem.W.keepIn K (.ref f25) = true)
    {f26 : Addr} {oc26 : Value} {od26 an26 : Option Addr} {sl26 : Array (Option Value)} {kV26 dc26 pm26 cd26 ct26 : Value} (a26 : PySem.W.nsIn K mainGlobals "law" = some (some (.ref f26))) (l26 : K.lookup f26 = some ⟨oc26, od26, .func (PySem.W.fnOf "law" "law" (defArgs s_law) (defBody s_law) (defScope s_law) .none kV26 dc26 pm26 an26 cd26 ct26), sl26⟩) (c26 : PySem.W.codeIn K cd26 "law" = true) (k26 : PySem.W.keepIn K (.ref f26) = true)
    (z_len : PySem.W.nsIn K mainGlobals "len" = some none)
    (z_abs : PySem.W.nsIn K mainGlobals "abs" = some none)
    (z_max : PySem.W.nsIn K mainGlobals "max" = some none)
    (z_min : PySem.W.nsIn K mainGlobals "min" = some none)
    (z_divmod : PySem.W.nsIn K mainGlobals "divmod" = some none)
    (z_sum : PySem.W.nsIn K mainGlobals "sum" = some none)
    (z_all : PySem.W.nsIn K mainGlobals "all" = some none)
    (z_any : PySem.W.nsIn K mainGlobals "any" = some none)
    (z_isinstance : PySem.W.nsIn K mainGlobals "isinstance" = some none)
    (z_sorted : PySem.W.nsIn K mainGlobals "sorted" = some none)
    (z_int : PySem.W.nsIn K mainGlobals "int" = some none)
    (z_bool : PySem.W.nsIn K mainGlobals "bool" = some none)
    (z_str : PySem.W.nsIn K mainGlobals "str" = some none)
    (z_list : PySem.W.nsIn K mainGlobals "list" = some none)
    (z_tuple : PySem.W.nsIn K mainGlobals "tuple" = some none)
    (z_dict : PySem.W.nsIn K mainGlobals "dict" = some none)
    (z_set : PySem.W.nsIn K mainGlobals "set" = some none)
    (z_range : PySem.W.nsIn K mainGlobals "range" = some none)
    (z_enumerate : PySem.W.nsIn K mainGlobals "enumerate" = some none)
    (z_zip : PySem.W.nsIn K mainGlobals "zip" = some none)
    (z_reversed : PySem.W.nsIn K mainGlobals "reversed" = some none)
    : ∃ fd : FuncData, (∀ (s : Shared) (v : Value), BindsTo s fd ⟨[v], []⟩ [("_law_script", v)]) ∧ ∀ base : Heap, K.In base → base.Ns mainGlobals mg → FnOk l.prog w K mg base CX0 9 fa fd ["_law_script"] (spE K g_law_v79) := by
  have B : Bi mg := ⟨PySem.W.mg_none_of X G z_len, PySem.W.mg_none_of X G z_abs, PySem.W.mg_none_of X G z_max, PySem.W.mg_none_of X G z_min, PySem.W.mg_none_of X G z_divmod, PySem.W.mg_none_of X G z_sum, PySem.W.mg_none_of X G z_all, PySem.W.mg_none_of X G z_any, PySem.W.mg_none_of X G z_isinstance, PySem.W.mg_none_of X G z_sorted, PySem.W.mg_none_of X G z_int, PySem.W.mg_none_of X G z_bool, PySem.W.mg_none_of X G z_str, PySem.W.mg_none_of X G z_list, PySem.W.mg_none_of X G z_tuple, PySem.W.mg_none_of X G z_dict, PySem.W.mg_none_of X G z_set, PySem.W.mg_none_of X G z_range, PySem.W.mg_none_of X G z_enumerate, PySem.W.mg_none_of X G z_zip, PySem.W.mg_none_of X G z_reversed⟩
  have e := hfa.symm.trans (PySem.W.mg_of X G a26)
  cases e
  have FL := fun_mk (st := s_law) l26 c26 k26
  refine ⟨PySem.W.fnOf "law" "law" (defArgs s_law) (defBody s_law) (defScope s_law) .none kV26 dc26 pm26 an26 cd26 ct26, fun s v => .of_eq (bd_law kV26 dc26 pm26 an26 cd26 ct26 [v] rfl), fun base _ _ => ?_⟩
  have c_l_box := cal_l_box (P := l.prog) (w := w) (base := base) B (defAt X G bd_l_box a0 l0 c0 k0) 
  have c_l_boxes := cal_l_boxes (P := l.prog) (w := w) (base := base) B (defAt X G bd_l_boxes a1 l1 c1 k1) c_l_box
  have c_l_take := cal_l_take (P := l.prog) (w := w) (base := base) B (defAt X G bd_l_take a2 l2 c2 k2) 
  have c_l_web := cal_l_web (P := l.prog) (w := w) (base := base) B (defAt X G bd_l_web a3 l3 c3 k3) c_l_take
  have c_l_ties := cal_l_ties (P := l.prog) (w := w) (base := base) B (defAt X G bd_l_ties a4 l4 c4 k4) 
  have c_l_crossed := cal_l_crossed (P := l.prog) (w := w) (base := base) B (defAt X G bd_l_crossed a5 l5 c5 k5) 
  have c_l_all_crossed := cal_l_all_crossed (P := l.prog) (w := w) (base := base) B (defAt X G bd_l_all_crossed a6 l6 c6 k6) c_l_ties c_l_crossed
  have c_l_story := cal_l_story (P := l.prog) (w := w) (base := base) B (defAt X G bd_l_story a7 l7 c7 k7) 
  have c_l_way := cal_l_way (P := l.prog) (w := w) (base := base) B (defAt X G bd_l_way a8 l8 c8 k8) c_l_take
  have c_l_last := cal_l_last (P := l.prog) (w := w) (base := base) B (defAt X G bd_l_last a9 l9 c9 k9) 
  have c_ties := cal_ties (P := l.prog) (w := w) (base := base) B (defAt X G bd_ties a10 l10 c10 k10) 
  have c_leads_back := cal_leads_back (P := l.prog) (w := w) (base := base) B (defAt X G bd_leads_back a11 l11 c11 k11) 
  have c_with_ties := cal_with_ties (P := l.prog) (w := w) (base := base) B (defAt X G bd_with_ties a12 l12 c12 k12) 
  have c_is_count := cal_is_count (P := l.prog) (w := w) (base := base) B (defAt X G bd_is_count a13 l13 c13 k13) 
  have c_is_end_in := cal_is_end_in (P := l.prog) (w := w) (base := base) B (defAt X G bd_is_end_in a14 l14 c14 k14) c_is_count
  have c_are_told_ends := cal_are_told_ends (P := l.prog) (w := w) (base := base) B (defAt X G bd_are_told_ends a15 l15 c15 k15) c_is_end_in
  have c_rooms_met := cal_rooms_met (P := l.prog) (w := w) (base := base) B (defAt X G bd_rooms_met a16 l16 c16 k16) 
  have c_is_web := cal_is_web (P := l.prog) (w := w) (base := base) B (defAt X G bd_is_web a17 l17 c17 k17) c_are_told_ends c_rooms_met
  have c_web_crossed := cal_web_crossed (P := l.prog) (w := w) (base := base) B (defAt X G bd_web_crossed a18 l18 c18 k18) c_leads_back c_with_ties c_is_web
  have c_crossings := cal_crossings (P := l.prog) (w := w) (base := base) B (defAt X G bd_crossings a19 l19 c19 k19) c_ties c_web_crossed
  have c_seen := cal_seen (P := l.prog) (w := w) (base := base) B (defAt X G bd_seen a20 l20 c20 k20) 
  have c_story_way := cal_story_way (P := l.prog) (w := w) (base := base) B (defAt X G bd_story_way a21 l21 c21 k21) 
  have c_story_sight := cal_story_sight (P := l.prog) (w := w) (base := base) B (defAt X G bd_story_sight a22 l22 c22 k22) 
  have c_fits := cal_fits (P := l.prog) (w := w) (base := base) B (defAt X G bd_fits a23 l23 c23 k23) c_seen c_story_way c_story_sight
  have c_put_right := cal_put_right (P := l.prog) (w := w) (base := base) B (defAt X G bd_put_right a24 l24 c24 k24) c_crossings c_fits
  have c_l_same := cal_l_same (P := l.prog) (w := w) (base := base) B (defAt X G bd_l_same a25 l25 c25 k25) 
  exact ok_law B FL c_l_boxes c_l_take c_l_web c_l_all_crossed c_l_story c_l_way c_l_last c_put_right c_l_same
end SW
open PySem PySem.W PyProof.Rows
set_option maxRecDepth 100000 in
set_option maxHeartbeats 0 in
theorem PySem.Challenge.cw_stonewalker_k54_webs_put_right_holds : PySem.Challenge.rw_stonewalker_k54_webs_put_right.Holds := by
  w_on; o_law; k_head; (case hw => w_witness2)
  k_fill
  refine SW.walk (l := PySem.Challenge.rw_stonewalker_k54_webs_put_right) (k := 9) (g := SW.g_law_v79) (x := "_law_script") rfl rfl ⟨rfl, by decide, by decide⟩ (fun w h Y => PySem.W.kIn_of Y) SW.law_true ?F
  case F =>
    intro w mg fa h KX G hmg
    refine' SW.all_mk KX G hmg ?a0 ?l0 ?c0 ?k0 ?a1 ?l1 ?c1 ?k1 ?a2 ?l2 ?c2 ?k2 ?a3 ?l3 ?c3 ?k3 ?a4 ?l4 ?c4 ?k4 ?a5 ?l5 ?c5 ?k5 ?a6 ?l6 ?c6 ?k6 ?a7 ?l7 ?c7 ?k7 ?a8 ?l8 ?c8 ?k8 ?a9 ?l9 ?c9 ?k9 ?a10 ?l10 ?c10 ?k10 ?a11 ?l11 ?c11 ?k11 ?a12 ?l12 ?c12 ?k12 ?a13 ?l13 ?c13 ?k13 ?a14 ?l14 ?c14 ?k14 ?a15 ?l15 ?c15 ?k15 ?a16 ?l16 ?c16 ?k16 ?a17 ?l17 ?c17 ?k17 ?a18 ?l18 ?c18 ?k18 ?a19 ?l19 ?c19 ?k19 ?a20 ?l20 ?c20 ?k20 ?a21 ?l21 ?c21 ?k21 ?a22 ?l22 ?c22 ?k22 ?a23 ?l23 ?c23 ?k23 ?a24 ?l24 ?c24 ?k24 ?a25 ?l25 ?c25 ?k25 ?a26 ?l26 ?c26 ?k26 ?z_len ?z_abs ?z_max ?z_min ?z_divmod ?z_sum ?z_all ?z_any ?z_isinstance ?z_sorted ?z_int ?z_bool ?z_str ?z_list ?z_tuple ?z_dict ?z_set ?z_range ?z_enumerate ?z_zip ?z_reversed
    (case a0 => k_is)
    (case l0 => k_is)
    (case c0 => k_is)
    (case k0 => k_is)
    (case a1 => k_is)
    (case l1 => k_is)
    (case c1 => k_is)
    (case k1 => k_is)
    (case a2 => k_is)
    (case l2 => k_is)
    (case c2 => k_is)
    (case k2 => k_is)
    (case a3 => k_is)
    (case l3 => k_is)
    (case c3 => k_is)
    (case k3 => k_is)
    (case a4 => k_is)
    (case l4 => k_is)
    (case c4 => k_is)
    (case k4 => k_is)
    (case a5 => k_is)
    (case l5 => k_is)
    (case c5 => k_is)
    (case k5 => k_is)
    (case a6 => k_is)
    (case l6 => k_is)
    (case c6 => k_is)
    (case k6 => k_is)
    (case a7 => k_is)
    (case l7 => k_is)
    (case c7 => k_is)
    (case k7 => k_is)
    (case a8 => k_is)
    (case l8 => k_is)
    (case c8 => k_is)
    (case k8 => k_is)
    (case a9 => k_is)
    (case l9 => k_is)
    (case c9 => k_is)
    (case k9 => k_is)
    (case a10 => k_is)
    (case l10 => k_is)
    (case c10 => k_is)
    (case k10 => k_is)
    (case a11 => k_is)
    (case l11 => k_is)
    (case c11 => k_is)
    (case k11 => k_is)
    (case a12 => k_is)
    (case l12 => k_is)
    (case c12 => k_is)
    (case k12 => k_is)
    (case a13 => k_is)
    (case l13 => k_is)
    (case c13 => k_is)
    (case k13 => k_is)
    (case a14 => k_is)
    (case l14 => k_is)
    (case c14 => k_is)
    (case k14 => k_is)
    (case a15 => k_is)
    (case l15 => k_is)
    (case c15 => k_is)
    (case k15 => k_is)
    (case a16 => k_is)
    (case l16 => k_is)
    (case c16 => k_is)
    (case k16 => k_is)
    (case a17 => k_is)
    (case l17 => k_is)
    (case c17 => k_is)
    (case k17 => k_is)
    (case a18 => k_is)
    (case l18 => k_is)
    (case c18 => k_is)
    (case k18 => k_is)
    (case a19 => k_is)
    (case l19 => k_is)
    (case c19 => k_is)
    (case k19 => k_is)
    (case a20 => k_is)
    (case l20 => k_is)
    (case c20 => k_is)
    (case k20 => k_is)
    (case a21 => k_is)
    (case l21 => k_is)
    (case c21 => k_is)
    (case k21 => k_is)
    (case a22 => k_is)
    (case l22 => k_is)
    (case c22 => k_is)
    (case k22 => k_is)
    (case a23 => k_is)
    (case l23 => k_is)
    (case c23 => k_is)
    (case k23 => k_is)
    (case a24 => k_is)
    (case l24 => k_is)
    (case c24 => k_is)
    (case k24 => k_is)
    (case a25 => k_is)
    (case l25 => k_is)
    (case c25 => k_is)
    (case k25 => k_is)
    (case a26 => k_is)
    (case l26 => k_is)
    (case c26 => k_is)
    (case k26 => k_is)
    (case z_len => k_is)
    (case z_abs => k_is)
    (case z_max => k_is)
    (case z_min => k_is)
    (case z_divmod => k_is)
    (case z_sum => k_is)
    (case z_all => k_is)
    (case z_any => k_is)
    (case z_isinstance => k_is)
    (case z_sorted => k_is)
    (case z_int => k_is)
    (case z_bool => k_is)
    (case z_str => k_is)
    (case z_list => k_is)
    (case z_tuple => k_is)
    (case z_dict => k_is)
    (case z_set => k_is)
    (case z_range => k_is)
    (case z_enumerate => k_is)
    (case z_zip => k_is)
    (case z_reversed => k_is)
