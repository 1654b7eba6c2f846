import PyProof.Rows.All
import HandS.Zip
import KE.GoesZip
import KE.GoesMore
import HandS.TupSets
import KE.KeyNested
import KE.SortData
import Wide.All
import OpenK.AllK
import Wide.FinOn
import HandS.ForMost
import HandS.Conv
import HandS.IsInst
import HandS.TupLe
import HandS.TupAny
import HandS.Deep
import HandS.Rev
import HandS.Iter
import KE.KDictKeyed
import HandS.Exc
import HandS.TryOnly
import HandS.ExcOwn
import HandS.ExcIs
import HandS.SetKeys
import HandS.TupLen
import PyProof.Rows.TupDisplay
import HandS.TupMul
import KE.GoesEnum
import HandS.SetFor
import HandS.SortInts
import HandS.Style
import HandS.SortRule
import KE.KDictSum
import KE.KDictCopyH
import KE.KDictPairs
import HandS.Strs
import KE.KIndexOf
import HandS.RevRange
import HandS.More
import PyProof.ReprRoads
import HandS.Dict
import HandS.WordsExc
import KE.KIsAll
import HandS.DictTup
import PyProof.DictMoreH
import KE.DataMinMax
import PyProof.Rows.IntBool
import KE.KItemsList
import HandS.RevTup
import PyProof.SumAny
import PyProof.Rows.SeqMore
import PyProof.NeKinds
import HandS.ExcInit
import HandS.ExcField
import OpenK.KCls
import PyProof.ReprBulk
import PyProof.Rows.ReprShort
import PySem.Challenge.RW_stonewalker_k57_steps_refused
set_option Elab.async false
set_option linter.all false
set_option maxRecDepth 100000
/-! zip of a tuple and a list -/
namespace SW
open PySem PySem.Spec PyProof.Rows L2

end SW
/-! Sets whose members are tuples of any depth (numbers and None at the leaves): set(xs), sorted(set(xs)). Turned from flat tuples to nested ones. -/
namespace SW
open PySem PySem.Spec PyProof.Rows L2

abbrev KA := Addr × NestedKey
abbrev nkh (w : World) (k : NestedKey) : Int := NestedKey.hash w k
mutual
/-- no text anywhere -/
def bareK : NestedKey → Bool
  | .none => true
  | .num _ => true
  | .text _ => false
  | .tup ks => bareKs ks
def bareKs : List NestedKey → Bool
  | [] => true
  | k :: ks => bareK k && bareKs ks
end
mutual
/-- the value v is the key k: numbers are numbers, no truths -/
def NkR (h : Heap) : NestedKey → Value → Prop
  | .none, v => v = .none
  | .num i, v => ∃ t, v = .int i t
  | .text x, v => ∃ t, v = .str x t
  | .tup ks, v => ∃ (a : Addr) (o : Obj) (us : Array Value) (n : Nat), v = .ref a ∧ h.get? a = some o ∧ o.cls = .type "tuple" ∧ o.data = .seq us n ∧ NkRs h ks us.toList
def NkRs (h : Heap) : List NestedKey → List Value → Prop
  | [], us => us = []
  | k :: ks, us => ∃ v vs, us = v :: vs ∧ NkR h k v ∧ NkRs h ks vs
end
mutual
theorem NkR.nest {h : Heap} : ∀ {k : NestedKey} {v : Value}, NkR h k v → NestedIs h k v
  | .none, _, x => by simp only [NkR] at x; subst x; exact .none
  | .num i, _, x => by simp only [NkR] at x; obtain ⟨t, rfl⟩ := x; exact .int i t
  | .text y, _, x => by simp only [NkR] at x; obtain ⟨t, rfl⟩ := x; exact .text y t
  | .tup ks, _, x => by
    simp only [NkR] at x
    obtain ⟨a, o, us, n, rfl, h1, h2, h3, h4⟩ := x
    exact .tup h1 h2 h3 (NkRs.nest h4)
theorem NkRs.nest {h : Heap} : ∀ {ks : List NestedKey} {vs : List Value}, NkRs h ks vs → NestedAll h ks vs
  | [], _, x => by simp only [NkRs] at x; subst x; exact .nil
  | k :: ks, _, x => by
    simp only [NkRs] at x
    obtain ⟨v, vs, rfl, h1, h2⟩ := x
    exact .cons h1.nest h2.nest
end
mutual
theorem NkR.reads {h : Heap} : ∀ {k : NestedKey} {v : Value}, NkR h k v → Reads h v k.data []
  | .none, _, x => by simp only [NkR] at x; subst x; exact .none
  | .num i, _, x => by simp only [NkR] at x; obtain ⟨t, rfl⟩ := x; exact .int i t
  | .text y, _, x => by simp only [NkR] at x; obtain ⟨t, rfl⟩ := x; exact .str y t
  | .tup ks, _, x => by
    simp only [NkR] at x
    obtain ⟨a, o, us, n, rfl, h1, h2, h3, h4⟩ := x
    exact .tuple h1 h2 h3 (NkRs.reads h4)
theorem NkRs.reads {h : Heap} : ∀ {ks : List NestedKey} {vs : List Value}, NkRs h ks vs → ReadsAll h vs (NestedKey.datas ks) []
  | [], _, x => by simp only [NkRs] at x; subst x; exact .nil
  | k :: ks, _, x => by
    simp only [NkRs] at x
    obtain ⟨v, vs, rfl, h1, h2⟩ := x
    have := ReadsAll.cons h1.reads h2.reads
    exact this
end
mutual
theorem NkR.at_ {h h' : Heap} (hk : ∀ a o us n, h.get? a = some o → o.data = .seq us n → h'.get? a = some o) : ∀ {k : NestedKey} {v : Value}, NkR h k v → NkR h' k v
  | .none, _, x => by simpa only [NkR] using x
  | .num i, _, x => by simpa only [NkR] using x
  | .text y, _, x => by simpa only [NkR] using x
  | .tup ks, _, x => by
    simp only [NkR] at x ⊢
    obtain ⟨a, o, us, n, rfl, h1, h2, h3, h4⟩ := x
    exact ⟨a, o, us, n, rfl, hk _ _ _ _ h1 h3, h2, h3, NkRs.at_ hk h4⟩
theorem NkRs.at_ {h h' : Heap} (hk : ∀ a o us n, h.get? a = some o → o.data = .seq us n → h'.get? a = some o) : ∀ {ks : List NestedKey} {vs : List Value}, NkRs h ks vs → NkRs h' ks vs
  | [], _, x => by simpa only [NkRs] using x
  | k :: ks, _, x => by
    simp only [NkRs] at x ⊢
    obtain ⟨v, vs, rfl, h1, h2⟩ := x
    exact ⟨v, vs, rfl, NkR.at_ hk h1, NkRs.at_ hk h2⟩
end
/-- the tuple at a is the key k -/
structure NtK (h : Heap) (k : NestedKey) (a : Addr) : Prop where
  rel : NkR h k (.ref a)
  dep : k.depth ≤ 8
  bare : bareK k = true
theorem NtK.isK {h : Heap} {k : NestedKey} {a : Addr} (x : NtK h k a) : NestedIs h k (.ref a) := x.rel.nest
theorem NtK.inj {h : Heap} {k m : NestedKey} {a : Addr} (x : NtK h k a) (y : NtK h m a) : k = m := NestedIs.inj _ _ _ x.isK y.isK
section
variable {P : Program} {w : World} {A : Around} {E : Value → Shared → Prop} {s : Shared}
/-- of no class statement, n levels down -/
def NoCls (P : Program) (w : World) (n : Nat) (s : Shared) (v : Value) : Prop := ∀ (A : Around) (E : Value → Shared → Prop) (Q : Bool → Shared → Prop), Q false s → wpAny (model P w) A (ofAClassStatement n v) Q E s
def ByV (P : Program) (w : World) (n : Nat) (s : Shared) (v : Value) : Prop := ∀ (A : Around) (E : Value → Shared → Prop) (Q : Bool → Shared → Prop), Q true s → wpAny (model P w) A (hashByValue n v) Q E s
theorem NoCls.tup {n : Nat} {b : Addr} {o : Obj} {us : Array Value} {m : Nat} (ho : s.heap.get? b = some o) (hc : o.cls = .type "tuple") (hd : o.data = .seq us m) (all : ∀ v ∈ us.toList, NoCls P w n s v) : NoCls P w (n + 1) s (.ref b) := fun A E Q q => by
  have isT : s.TypeIs (.ref b) "tuple" := ⟨o, ho, hc⟩
  unfold ofAClassStatement
  refine wpAny_bind (wpAny_typeOf isT ?_)
  dsimp only
  have eT : (("tuple" : String) == "tuple") = true := by decide
  simp only [eT, if_true, Bool.not_true, Bool.false_eq_true, if_false]
  try refine wpAny_bind (wpAny_pure ?_)
  try simp only [Bool.not_true, Bool.false_eq_true, if_false]
  show wpAny _ _ (seqItems? (.ref b) >>= _) _ _ s
  refine wpAny_bind (wpAny_seqItems ho hd ?_)
  dsimp only
  refine wpAny_bind ?_
  show wpAny _ _ (forIn us _ _) _ _ s
  rw [← Array.forIn_toList]
  refine wpAny_forIn_list _ (fun rest r s' => r.1 = none ∧ s' = s ∧ ∀ v ∈ rest, NoCls P w n s v) _ ?_ ?_ _ _ ⟨rfl, rfl, all⟩
  · rintro v rest r s' ⟨hr, rfl, more⟩
    refine wpAny_bind (more v List.mem_cons_self _ _ _ ?_)
    simp only [Bool.false_eq_true, if_false]
    exact wpAny_pure ⟨rfl, rfl, fun u z => more u (List.mem_cons_of_mem _ z)⟩
  · rintro ⟨r1, r2⟩ s' ⟨hr, rfl, _⟩
    simp only at hr
    subst hr
    exact wpAny_pure q
theorem ByV.tup {n : Nat} {b : Addr} {o : Obj} {us : Array Value} {m : Nat} (ho : s.heap.get? b = some o) (hc : o.cls = .type "tuple") (hd : o.data = .seq us m) (all : ∀ v ∈ us.toList, ByV P w n s v) : ByV P w (n + 1) s (.ref b) := fun A E Q q => by
  have isT : s.TypeIs (.ref b) "tuple" := ⟨o, ho, hc⟩
  unfold hashByValue
  refine wpAny_bind (wpAny_specialOf isT F.slot_tuple_hash.lookup ?_)
  show wpAny _ _ (seqItems? (.ref b) >>= _) _ _ s
  refine wpAny_bind (wpAny_seqItems ho hd ?_)
  refine wpAny_bind ?_
  show wpAny _ _ (forIn us _ _) _ _ s
  rw [← Array.forIn_toList]
  refine wpAny_forIn_list _ (fun rest r s' => r.1 = none ∧ s' = s ∧ ∀ v ∈ rest, ByV P w n s v) _ ?_ ?_ _ _ ⟨rfl, rfl, all⟩
  · rintro v rest r s' ⟨hr, rfl, more⟩
    refine wpAny_bind (more v List.mem_cons_self _ _ _ ?_)
    simp only [Bool.not_true, Bool.false_eq_true, if_false]
    exact wpAny_pure ⟨rfl, rfl, fun u z => more u (List.mem_cons_of_mem _ z)⟩
  · rintro ⟨r1, r2⟩ s' ⟨hr, rfl, _⟩
    simp only at hr
    subst hr
    exact wpAny_pure q
def rowsN (w : World) (L : List KA) : List (Int × Value) := L.map fun p => (nkh w p.2, Value.ref p.1)
structure SetNR (w : World) (h : Heap) (a : Addr) (L : List KA) (es : Array (Int × Value)) (ep : Nat) (t : SetTable) : Prop where
  ob : ∃ o, h.get? a = some o ∧ o.ExactSet ∧ o.data = .set es ep t
  rows : es.toList = rowsN w L
  tab : TabOk t (L.map fun p => nkh w p.2)
  nd : (L.map (·.2)).Nodup
  tup : ∀ p ∈ L, NtK h p.2 p.1
  plain : t.plain = true
  led : w.params.followText "set-order" = true ∨ t.led = true
  room : L.length * 5 < t.mask * 3
  few : L.length < 64
variable {a : Addr} {L : List KA} {es : Array (Int × Value)} {ep : Nat} {t : SetTable}
theorem SetNR.size (R : SetNR w s.heap a L es ep t) : es.size = L.length := by
  have h := congrArg List.length R.rows
  unfold rowsN at h
  rw [Array.length_toList, List.length_map] at h
  exact h
variable {a : Addr} {L : List KA} {es : Array (Int × Value)} {ep : Nat} {t : SetTable}
/-- what the set has got from the first i items -/
structure GotN (ks : List KA) (i : Nat) (L : List KA) : Prop where
  sub : ∀ p ∈ L, p ∈ ks.take i
  all : ∀ p ∈ ks.take i, p.2 ∈ L.map (·.2)
  len : L.length ≤ i
/-- the set stays small -/
def FewN (ks : List KA) : Prop := ∀ (i : Nat) (L : List KA), i < ks.length → GotN ks i L → (L.map (·.2)).Nodup → L.length + 1 < 64
theorem FewN.of {ks : List KA} (h : ks.length < 64) : FewN ks := fun i L hi g _ => by have := g.len; omega
theorem GotN.zero (ks : List KA) : GotN ks 0 [] := ⟨fun p h => (by cases h), fun p h => (by simp at h), Nat.le_refl _⟩
theorem ntake_next {α : Type} {l : List α} {i : Nat} {x : α} (h : l[i]? = some x) : l.take (i + 1) = l.take i ++ [x] := by
  rw [List.take_succ, h] <;> rfl
theorem GotN.same {ks L : List KA} {i : Nat} {x : KA} (g : GotN ks i L) (h : ks[i]? = some x) (hm : x.2 ∈ L.map (·.2)) : GotN ks (i + 1) L := by
  refine ⟨fun p hp => ?_, fun p hp => ?_, Nat.le_succ_of_le g.len⟩
  · rw [ntake_next h]
    exact List.mem_append_left _ (g.sub p hp)
  · rw [ntake_next h] at hp
    rcases List.mem_append.mp hp with z | z
    · exact g.all p z
    · rw [List.mem_singleton.mp z]; exact hm
theorem GotN.more {ks L L' : List KA} {i : Nat} {x : KA} (g : GotN ks i L) (h : ks[i]? = some x) (pm : L'.Perm (x :: L)) : GotN ks (i + 1) L' := by
  refine ⟨fun p hp => ?_, fun p hp => ?_, ?_⟩
  · rw [ntake_next h]
    rcases List.mem_cons.mp (pm.mem_iff.mp hp) with e | z
    · rw [e]; exact List.mem_append_right _ (List.mem_singleton.mpr rfl)
    · exact List.mem_append_left _ (g.sub p z)
  · rw [(pm.map (·.2)).mem_iff, List.map_cons]
    rw [ntake_next h] at hp
    rcases List.mem_append.mp hp with z | z
    · exact List.mem_cons_of_mem _ (g.all p z)
    · rw [List.mem_singleton.mp z]; exact List.mem_cons_self
  · rw [pm.length_eq, List.length_cons]
    exact Nat.succ_le_succ g.len

theorem SetNR.keep {h h' : Heap} {a : Addr} {L : List KA} {es : Array (Int × Value)} {ep : Nat} {t : SetTable} (R : SetNR w h a L es ep t) (ha : ∀ o, h.get? a = some o → h'.get? a = some o) (ht : ∀ p ∈ L, NtK h' p.2 p.1) : SetNR w h' a L es ep t := by
  obtain ⟨o, ho, r⟩ := R.ob
  exact ⟨⟨o, ha o ho, r⟩, R.rows, R.tab, R.nd, ht, R.plain, R.led, R.room, R.few⟩
end
end SW
/-! The layer: data as trees, a store of objects that change, defs as functions over both. -/
namespace SW
open PySem L2

/-- data: what never changes is a tree, what changes is a place of the store -/
inductive D where
  | non
  | bl (b : Bool)
  | int (i : Int)
  | str (x : Str)
  | tup (ds : List D)
  | fl (ds : List D)
  | loc (n : Nat)
  | ty (n : String)
deriving Inhabited
/-- what stands at a place of the store -/
inductive MO where
  | lst (ds : List D)
  | dK (kvs : List (Key × D))
  | dT (kvs : List (List Key × D))
  /-- keys are tuples of any depth -/
  | dN (kvs : List (NestedKey × D))
  /-- locked dicts (a loop walks them) -/
  | lK (kvs : List (Key × D))
  | lT (kvs : List (List Key × D))
  | lN (kvs : List (NestedKey × D))
  /-- an instance of the class of that name -/
  | ins (c : String) (fs : List (Str × D))
  /-- an exception of the class of that name, caught and held; what it has of its own -/
  | exn (c : String) (fs : List (Str × D))
abbrev Sto := List MO
abbrev Tau := List (Option D)

/-! keys of any depth, without texts -/
mutual
def plainK : NestedKey → Bool
  | .none => true
  | .num _ => true
  | .text _ => false
  | .tup ks => plainKs ks
def plainKs : List NestedKey → Bool
  | [] => true
  | k :: ks => plainK k && plainKs ks
end
mutual
def NkV (H : Hp) : NestedKey → V → Prop
  | .none, v => v = .non
  | .num i, v => v = .int i
  | .text x, v => v = .str x
  | .tup ks, v => ∃ a xs, v = .ref a ∧ H a = some (.tup xs) ∧ NkVs H ks xs
def NkVs (H : Hp) : List NestedKey → List V → Prop
  | [], xs => xs = []
  | k :: ks, xs => ∃ y ys, xs = y :: ys ∧ NkV H k y ∧ NkVs H ks ys
end
abbrev NEnt := NestedKey × Addr × V
def entOk (p : NEnt) (q : NestedKey × Addr × Value) : Prop := p.1 = q.1 ∧ p.2.1 = q.2.1 ∧ RelV p.2.2 q.2.2
/-- a dict with such keys: its entries, where each key stands -/
def dNP (a : Addr) (xs : List NEnt) (h : Heap) : Prop := xs.length ≤ sizeLine ∧ (a == sysModules) = false ∧ ∃ ys : List (NestedKey × Addr × Value), Paired entOk xs ys ∧ (ys.map (·.1)).Nodup ∧
  ∃ o es ep, h.get? a = some o ∧ o.ExactDict ∧ o.data = .dict es ep ∧ ∀ w : World, es.toList = ys.map fun y => (⟨y.1.hash w, .ref y.2.1, y.2.2⟩ : DictEntry)
def dNO (a : Addr) (xs : List NEnt) : HO := .ext (dNP a xs)
def NOk (H : Hp) (x : NEnt) : Prop := NkV H x.1 (.ref x.2.1) ∧ x.1.depth ≤ 8 ∧ plainK x.1 = true
/-- what no def of the layer changes, known to its object -/
def fzo : HO → Bool
  | .lst _ => true
  | .tup _ => true
  | .xd _ => true
  | _ => false
/-- an exception -/
def exHO (a C : Addr) (dO : Option Addr) : HO := .ext fun h => ∃ o, h.get? a = some o ∧ o.cls = .ref C ∧ o.dict = dO ∧ ∃ vs, o.data = .fields vs
/-- what stands at the store's places -/
def RO : Option HO → Prop
  | some (.lst _) => True
  | some (.dK _) => True
  | some (.dT _) => True
  | some (.ext _) => True
  | some (.ins _ _ _) => True
  | some (.frz _ u) => fzo u = false
  | _ => False

section
variable (K : PySem.W.Frag)
/-- a list that nobody writes at -/
def FzL (H : Hp) (a : Addr) (xs : List V) : Prop :=
  (∃ o, H a = some (.frz o (.lst xs))) ∨
    ∃ (o : Obj) (its : Array Value) (n : Nat), K.lookup a = some o ∧ o.cls = .type "list" ∧ o.dict = none ∧ o.data = .seq its n ∧ its.size ≤ sizeLine ∧ Vals xs its.toList
mutual
def RelD (ρ : List Addr) (H : Hp) : D → V → Prop
  | .non, v => v = .non
  | .bl b, v => v = .bl b
  | .int i, v => v = .int i
  | .str x, v => v = .str x
  | .tup ds, v => ∃ a xs, v = .ref a ∧ H a = some (.tup xs) ∧ RelDs ρ H ds xs
  | .fl ds, v => ∃ a xs, v = .ref a ∧ FzL K H a xs ∧ RelDs ρ H ds xs
  | .loc n, v => ∃ a, ρ[n]? = some a ∧ v = .ref a
  | .ty n, v => v = .ty n
def RelDs (ρ : List Addr) (H : Hp) : List D → List V → Prop
  | [], xs => xs = []
  | d :: ds, xs => ∃ x ys, xs = x :: ys ∧ RelD ρ H d x ∧ RelDs ρ H ds ys
end
def RelKV {κ : Type} (ρ : List Addr) (H : Hp) (kds : List (κ × D)) (kvs : List (κ × V)) : Prop :=
  kvs.map (·.1) = kds.map (·.1) ∧ RelDs K ρ H (kds.map (·.2)) (kvs.map (·.2))
def RelN (ρ : List Addr) (H : Hp) (kds : List (NestedKey × D)) (xs : List NEnt) : Prop :=
  xs.map (·.1) = kds.map (·.1) ∧ RelDs K ρ H (kds.map (·.2)) (xs.map (·.2.2)) ∧ ∀ x ∈ xs, NOk H x
def ObjR (ρ : List Addr) (H : Hp) (a : Addr) : MO → Prop
  | .lst ds => ∃ xs, H a = some (.lst xs) ∧ RelDs K ρ H ds xs
  | .dK kds => ∃ kvs, H a = some (.dK kvs) ∧ RelKV K ρ H kds kvs
  | .dT kds => ∃ kvs, H a = some (.dT kvs) ∧ RelKV K ρ H kds kvs
  | .dN kds => ∃ xs, H a = some (dNO a xs) ∧ RelN K ρ H kds xs
  | .lK kds => ∃ kvs od, H a = some (.frz od (.dK kvs)) ∧ RelKV K ρ H kds kvs
  | .lT kds => ∃ kvs od, H a = some (.frz od (.dT kvs)) ∧ RelKV K ρ H kds kvs
  | .lN kds => ∃ xs od, H a = some (.frz od (dNO a xs)) ∧ RelN K ρ H kds xs
  | .ins c fs => ∃ C dx kvs, PySem.W.nsIn K mainGlobals c = some (some (.ref C)) ∧ H a = some (.ins C dx kvs) ∧ RelKV K ρ H fs kvs
  | .exn c fs => ∃ C dO, PySem.W.nsIn K mainGlobals c = some (some (.ref C)) ∧ H a = some (exHO a C dO) ∧ (fs = [] ∧ dO = none ∨ fs ≠ [] ∧ ∃ d o kvs, dO = some d ∧ H d = some (.frz o (.xd kvs)) ∧ RelKV K ρ H fs kvs)
structure RelS (ρ : List Addr) (S : Sto) (H : Hp) : Prop where
  len : ρ.length = S.length
  nd : ρ.Nodup
  obj : ∀ (n : Nat) (o : MO), S[n]? = some o → ∃ a, ρ[n]? = some a ∧ ObjR K ρ H a o
def RelT (ρ : List Addr) (H : Hp) (τ : Tau) (σ : St) : Prop :=
  τ.length = σ.length ∧ ∀ (i : Nat) (d : D), τ[i]? = some (some d) → ∃ v, σ[i]? = some (some v) ∧ RelD K ρ H d v
/-- later: the store's objects are those of S', all else that was tracked stands -/
structure Post (ρ : List Addr) (H : Hp) (ρ' : List Addr) (H' : Hp) (S' : Sto) : Prop where
  rel : RelS K ρ' S' H'
  pre : ρ <+: ρ'
  keep : ∀ a o, a ∉ ρ → H a = some o → a ∉ ρ' ∧ H' a = some o
  lck : ∀ a o u, H a = some (.frz o u) → H' a = some (.frz o u)
end

section
variable {K : PySem.W.Frag} {ρ ρ' : List Addr} {H H' : Hp} {S S' : Sto}
theorem ObjR.ro {a : Addr} {o : MO} (h : ObjR K ρ H a o) : RO (H a) := by
  cases o with
  | lst ds => obtain ⟨xs, hx, _⟩ := h; rw [hx]; trivial
  | dK ds => obtain ⟨xs, hx, _⟩ := h; rw [hx]; trivial
  | dT ds => obtain ⟨xs, hx, _⟩ := h; rw [hx]; trivial
  | dN ds => obtain ⟨xs, hx, _⟩ := h; rw [hx]; trivial
  | lK ds => obtain ⟨xs, od, hx, _⟩ := h; rw [hx]; rfl
  | lT ds => obtain ⟨xs, od, hx, _⟩ := h; rw [hx]; rfl
  | lN ds => obtain ⟨xs, od, hx, _⟩ := h; rw [hx]; rfl
  | ins c fs => obtain ⟨C, dx, kvs, _, hx, _⟩ := h; rw [hx]; trivial
  | exn c fs => obtain ⟨C, dO, _, hx, _⟩ := h; rw [hx]; trivial
theorem RelS.mem (R : RelS K ρ S H) {a : Addr} (h : a ∈ ρ) : RO (H a) := by
  obtain ⟨n, hn, e⟩ := List.getElem_of_mem h
  have hl : n < S.length := by rw [← R.len]; exact hn
  obtain ⟨b, hb, ho⟩ := R.obj n S[n] (by simp [hl])
  have : b = a := by
    rw [List.getElem?_eq_getElem hn, e] at hb
    exact (Option.some.inj hb).symm
  subst this
  exact ho.ro
theorem RelS.ne_n (R : RelS K ρ S H) {a : Addr} (h : a ∈ ρ) : H a ≠ none := fun e => by
  have := R.mem h
  rw [e] at this; exact this
theorem RelS.tup (R : RelS K ρ S H) {a : Addr} {xs : List V} (h : H a = some (.tup xs)) : a ∉ ρ := fun m => by
  have := R.mem m
  rw [h] at this; exact this
theorem RelS.frz (R : RelS K ρ S H) {a : Addr} {o : Obj} {u : HO} (hu : fzo u = true) (h : H a = some (.frz o u)) : a ∉ ρ := fun m => by
  have := R.mem m
  rw [h] at this
  rw [show fzo u = false from this] at hu; cases hu

/-- all that never changes stands -/
structure Imm (H H' : Hp) : Prop where
  tup : ∀ a xs, H a = some (.tup xs) → H' a = some (.tup xs)
  frz : ∀ a o u, fzo u = true → H a = some (.frz o u) → H' a = some (.frz o u)
theorem Imm.refl (H : Hp) : Imm H H := ⟨fun _ _ h => h, fun _ _ _ _ h => h⟩
theorem Imm.trans {H1 H2 H3 : Hp} (a : Imm H1 H2) (b : Imm H2 H3) : Imm H1 H3 := ⟨fun _ _ h => b.tup _ _ (a.tup _ _ h), fun _ _ _ hu h => b.frz _ _ _ hu (a.frz _ _ _ hu h)⟩
theorem Imm.fzL (i : Imm H H') {a : Addr} {xs : List V} (h : FzL K H a xs) : FzL K H' a xs := by
  rcases h with ⟨o, h⟩ | h
  · exact .inl ⟨o, i.frz _ _ _ rfl h⟩
  · exact .inr h
theorem FzL.sqL {a : Addr} {xs : List V} (h : FzL K H a xs) : SqL K H a xs := by
  rcases h with ⟨o, h⟩ | h
  · exact .inl (.inr ⟨o, h⟩)
  · exact .inr h
theorem Post.imm (p : Post K ρ H ρ' H' S') (R : RelS K ρ S H) : Imm H H' :=
  ⟨fun a xs h => (p.keep a _ (R.tup h) h).2, fun a o u hu h => (p.keep a _ (R.frz hu h) h).2⟩
/-- .. and what is locked is still locked -/
structure ImmL (H H' : Hp) : Prop extends Imm H H' where
  lck : ∀ a o u, H a = some (.frz o u) → H' a = some (.frz o u)
instance : Coe (ImmL H H') (Imm H H') := ⟨ImmL.toImm⟩
theorem ImmL.refl (H : Hp) : ImmL H H := ⟨Imm.refl H, fun _ _ _ h => h⟩
theorem ImmL.trans {H1 H2 H3 : Hp} (a : ImmL H1 H2) (b : ImmL H2 H3) : ImmL H1 H3 := ⟨a.toImm.trans b.toImm, fun _ _ _ h => b.lck _ _ _ (a.lck _ _ _ h)⟩
theorem Post.immL (p : Post K ρ H ρ' H' S') (R : RelS K ρ S H) : ImmL H H' := ⟨p.imm R, p.lck⟩
theorem prefix_get {a : Addr} {n : Nat} (p : ρ <+: ρ') (h : ρ[n]? = some a) : ρ'[n]? = some a := by
  obtain ⟨t, rfl⟩ := p
  rw [List.getElem?_append_left (List.getElem?_eq_some_iff.mp h).1]; exact h
mutual
theorem RelD.mono (i : Imm H H') (p : ρ <+: ρ') : ∀ {d : D} {v : V}, RelD K ρ H d v → RelD K ρ' H' d v
  | .non, _, h => by simpa [RelD] using h
  | .bl _, _, h => by simpa [RelD] using h
  | .int _, _, h => by simpa [RelD] using h
  | .str _, _, h => by simpa [RelD] using h
  | .ty _, _, h => by simpa [RelD] using h
  | .tup ds, _, h => by
    simp only [RelD] at h ⊢
    obtain ⟨a, xs, e, q, r⟩ := h
    exact ⟨a, xs, e, i.tup _ _ q, RelDs.mono i p r⟩
  | .fl ds, _, h => by
    simp only [RelD] at h ⊢
    obtain ⟨a, xs, e, q, r⟩ := h
    exact ⟨a, xs, e, i.fzL q, RelDs.mono i p r⟩
  | .loc n, _, h => by
    simp only [RelD] at h ⊢
    obtain ⟨a, e, q⟩ := h
    exact ⟨a, prefix_get p e, q⟩
theorem RelDs.mono (i : Imm H H') (p : ρ <+: ρ') : ∀ {ds : List D} {vs : List V}, RelDs K ρ H ds vs → RelDs K ρ' H' ds vs
  | [], _, h => by simpa [RelDs] using h
  | d :: ds, _, h => by
    simp only [RelDs] at h ⊢
    obtain ⟨x, ys, e, q, r⟩ := h
    exact ⟨x, ys, e, RelD.mono i p q, RelDs.mono i p r⟩
end
mutual
theorem NkV.mono (i : Imm H H') : ∀ {k : NestedKey} {v : V}, NkV H k v → NkV H' k v
  | .none, _, h => by simpa [NkV] using h
  | .num _, _, h => by simpa [NkV] using h
  | .text _, _, h => by simpa [NkV] using h
  | .tup ks, _, h => by
    simp only [NkV] at h ⊢
    obtain ⟨a, xs, e, q, r⟩ := h
    exact ⟨a, xs, e, i.tup _ _ q, NkVs.mono i r⟩
theorem NkVs.mono (i : Imm H H') : ∀ {ks : List NestedKey} {vs : List V}, NkVs H ks vs → NkVs H' ks vs
  | [], _, h => by simpa [NkVs] using h
  | k :: ks, _, h => by
    simp only [NkVs] at h ⊢
    obtain ⟨x, ys, e, q, r⟩ := h
    exact ⟨x, ys, e, NkV.mono i q, NkVs.mono i r⟩
end
theorem RelN.mono {kds : List (NestedKey × D)} {xs : List NEnt} (i : Imm H H') (p : ρ <+: ρ') (h : RelN K ρ H kds xs) : RelN K ρ' H' kds xs :=
  ⟨h.1, h.2.1.mono i p, fun x hx => let ⟨h1, h2⟩ := h.2.2 x hx; ⟨h1.mono i, h2⟩⟩
theorem RelDs.len : ∀ {ds : List D} {vs : List V}, RelDs K ρ H ds vs → vs.length = ds.length
  | [], _, h => by simp only [RelDs] at h; subst h; rfl
  | d :: ds, _, h => by
    simp only [RelDs] at h
    obtain ⟨x, ys, rfl, _, r⟩ := h
    simp [RelDs.len r]
theorem RelDs.get : ∀ {ds : List D} {vs : List V} {i : Nat} {d : D}, RelDs K ρ H ds vs → ds[i]? = some d → ∃ v, vs[i]? = some v ∧ RelD K ρ H d v
  | [], _, _, _, _, e => by simp at e
  | d :: ds, _, 0, _, h, e => by
    simp only [RelDs] at h
    obtain ⟨x, ys, rfl, q, r⟩ := h
    simp at e; subst e
    exact ⟨x, rfl, q⟩
  | d :: ds, _, i + 1, _, h, e => by
    simp only [RelDs] at h
    obtain ⟨x, ys, rfl, q, r⟩ := h
    obtain ⟨v, e1, e2⟩ := RelDs.get (i := i) r (by simpa using e)
    exact ⟨v, by simpa using e1, e2⟩
theorem RelDs.app : ∀ {ds es : List D} {vs ws : List V}, RelDs K ρ H ds vs → RelDs K ρ H es ws → RelDs K ρ H (ds ++ es) (vs ++ ws)
  | [], _, _, _, h, g => by simp only [RelDs] at h; subst h; exact g
  | d :: ds, _, _, _, h, g => by
    simp only [RelDs] at h
    obtain ⟨x, ys, rfl, q, r⟩ := h
    exact (by simp only [RelDs, List.cons_append]; exact ⟨x, _, rfl, q, RelDs.app r g⟩)
theorem RelDs.nil : RelDs K ρ H [] [] := by simp [RelDs]
theorem RelDs.cons {d : D} {ds : List D} {v : V} {vs : List V} (h : RelD K ρ H d v) (g : RelDs K ρ H ds vs) : RelDs K ρ H (d :: ds) (v :: vs) := by
  simp only [RelDs]; exact ⟨v, vs, rfl, h, g⟩
theorem RelDs.one {d : D} {v : V} (h : RelD K ρ H d v) : RelDs K ρ H [d] [v] := .cons h .nil
/-- place by place -/
theorem RelDs.of : ∀ {ds : List D} {vs : List V}, vs.length = ds.length → (∀ (i : Nat) (d : D) (v : V), ds[i]? = some d → vs[i]? = some v → RelD K ρ H d v) → RelDs K ρ H ds vs
  | [], [], _, _ => .nil
  | d :: ds, v :: vs, hl, h => .cons (h 0 d v rfl rfl) (RelDs.of (by simpa using hl) fun i d v e1 e2 => h (i + 1) d v (by simpa using e1) (by simpa using e2))
theorem RelDs.at {ds : List D} {vs : List V} {i : Nat} {d : D} {v : V} (h : RelDs K ρ H ds vs) (e1 : ds[i]? = some d) (e2 : vs[i]? = some v) : RelD K ρ H d v := by
  obtain ⟨w, e3, r⟩ := h.get e1
  rw [e2] at e3; cases e3; exact r
theorem RelDs.set {ds : List D} {vs : List V} {d : D} {v : V} (h : RelDs K ρ H ds vs) (r : RelD K ρ H d v) (i : Nat) : RelDs K ρ H (ds.set i d) (vs.set i v) := by
  refine RelDs.of (by simp [h.len]) fun j e w e1 e2 => ?_
  rw [List.getElem?_set] at e1 e2
  by_cases hij : i = j
  · subst hij
    rw [if_pos rfl] at e1 e2
    split at e1
    · split at e2
      · cases e1; cases e2; exact r
      · cases e2
    · cases e1
  · rw [if_neg hij] at e1 e2
    exact h.at e1 e2
theorem RelDs.take {ds : List D} {vs : List V} (h : RelDs K ρ H ds vs) (n : Nat) : RelDs K ρ H (ds.take n) (vs.take n) := by
  refine RelDs.of (by simp [h.len]) fun j e w e1 e2 => ?_
  rw [List.getElem?_take] at e1 e2
  split at e1
  · rename_i hj; rw [if_pos hj] at e2; exact h.at e1 e2
  · cases e1
theorem RelDs.drop {ds : List D} {vs : List V} (h : RelDs K ρ H ds vs) (n : Nat) : RelDs K ρ H (ds.drop n) (vs.drop n) := by
  refine RelDs.of (by simp [h.len]) fun j e w e1 e2 => ?_
  rw [List.getElem?_drop] at e1 e2
  exact h.at e1 e2
theorem RelDs.split {ds : List D} {vs : List V} (h : RelDs K ρ H ds vs) {n : Nat} {d : D} {e : List D} (hd : ds = d :: e) : ∃ v ws, vs = v :: ws ∧ RelD K ρ H d v ∧ RelDs K ρ H e ws := by
  subst hd; simpa [RelDs] using h
/-- a tree that is nothing of the store is the same of any -/
theorem RelD.int_ {i : Int} {v : V} (h : RelD K ρ H (.int i) v) : v = .int i := by simpa [RelD] using h
theorem RelD.bl_ {i : Bool} {v : V} (h : RelD K ρ H (.bl i) v) : v = .bl i := by simpa [RelD] using h
theorem RelD.non_ {v : V} (h : RelD K ρ H .non v) : v = .non := by simpa [RelD] using h
theorem RelD.str_ {x : Str} {v : V} (h : RelD K ρ H (.str x) v) : v = .str x := by simpa [RelD] using h
theorem RelD.ty_ {x : String} {v : V} (h : RelD K ρ H (.ty x) v) : v = .ty x := by simpa [RelD] using h
theorem RelD.ty (x : String) : RelD K ρ H (.ty x) (.ty x) := by simp [RelD]
theorem RelD.tup_ {ds : List D} {v : V} (h : RelD K ρ H (.tup ds) v) : ∃ a xs, v = .ref a ∧ H a = some (.tup xs) ∧ RelDs K ρ H ds xs := by simpa [RelD] using h
theorem RelD.fl_ {ds : List D} {v : V} (h : RelD K ρ H (.fl ds) v) : ∃ a xs, v = .ref a ∧ FzL K H a xs ∧ RelDs K ρ H ds xs := by simpa [RelD] using h
theorem RelD.loc_ {n : Nat} {v : V} (h : RelD K ρ H (.loc n) v) : ∃ a, ρ[n]? = some a ∧ v = .ref a := by simpa [RelD] using h
theorem RelD.int (i : Int) : RelD K ρ H (.int i) (.int i) := by simp [RelD]
theorem RelD.bl (i : Bool) : RelD K ρ H (.bl i) (.bl i) := by simp [RelD]
theorem RelD.non : RelD K ρ H .non .non := by simp [RelD]
theorem RelD.str (x : Str) : RelD K ρ H (.str x) (.str x) := by simp [RelD]
theorem RelD.tup {ds : List D} {a : Addr} {xs : List V} (h : H a = some (.tup xs)) (r : RelDs K ρ H ds xs) : RelD K ρ H (.tup ds) (.ref a) := by simp only [RelD]; exact ⟨a, xs, rfl, h, r⟩
theorem RelD.loc {n : Nat} {a : Addr} (h : ρ[n]? = some a) : RelD K ρ H (.loc n) (.ref a) := by simp only [RelD]; exact ⟨a, h, rfl⟩

theorem RelKV.mono {κ : Type} {kds : List (κ × D)} {kvs : List (κ × V)} (i : Imm H H') (p : ρ <+: ρ') (h : RelKV K ρ H kds kvs) : RelKV K ρ' H' kds kvs := ⟨h.1, h.2.mono i p⟩
theorem RelT.mono {τ : Tau} {σ : St} (i : Imm H H') (p : ρ <+: ρ') (h : RelT K ρ H τ σ) : RelT K ρ' H' τ σ :=
  ⟨h.1, fun j d e => let ⟨v, e1, r⟩ := h.2 j d e; ⟨v, e1, r.mono i p⟩⟩
theorem Post.refl (R : RelS K ρ S H) : Post K ρ H ρ H S := ⟨R, List.prefix_rfl, fun _ _ n h => ⟨n, h⟩, fun _ _ _ h => h⟩
theorem Post.trans {ρ2 : List Addr} {H2 : Hp} {S2 : Sto} (a : Post K ρ H ρ' H' S') (b : Post K ρ' H' ρ2 H2 S2) : Post K ρ H ρ2 H2 S2 :=
  ⟨b.rel, a.pre.trans b.pre, fun c o n h => let ⟨n', h'⟩ := a.keep c o n h; b.keep c o n' h', fun c o u h => b.lck c o u (a.lck c o u h)⟩
/-- an object's description in another heap -/
theorem ObjR.mono {a : Addr} {o : MO} (i : Imm H H') (p : ρ <+: ρ') (e : H' a = H a) (h : ObjR K ρ H a o) : ObjR K ρ' H' a o := by
  cases o with
  | lst ds => obtain ⟨xs, h1, h2⟩ := h; exact ⟨xs, by rw [e]; exact h1, h2.mono i p⟩
  | dK ds => obtain ⟨xs, h1, h2⟩ := h; exact ⟨xs, by rw [e]; exact h1, h2.mono i p⟩
  | dT ds => obtain ⟨xs, h1, h2⟩ := h; exact ⟨xs, by rw [e]; exact h1, h2.mono i p⟩
  | dN ds => obtain ⟨xs, h1, h2⟩ := h; exact ⟨xs, by rw [e]; exact h1, h2.mono i p⟩
  | lK ds => obtain ⟨xs, od, h1, h2⟩ := h; exact ⟨xs, od, by rw [e]; exact h1, h2.mono i p⟩
  | lT ds => obtain ⟨xs, od, h1, h2⟩ := h; exact ⟨xs, od, by rw [e]; exact h1, h2.mono i p⟩
  | lN ds => obtain ⟨xs, od, h1, h2⟩ := h; exact ⟨xs, od, by rw [e]; exact h1, h2.mono i p⟩
  | ins c fs => obtain ⟨C, dx, xs, h0, h1, h2⟩ := h; exact ⟨C, dx, xs, h0, by rw [e]; exact h1, h2.mono i p⟩
  | exn c fs =>
    obtain ⟨C, dO, h0, h1, h2⟩ := h
    refine ⟨C, dO, h0, by rw [e]; exact h1, h2.imp id ?_⟩
    rintro ⟨hne, d, o, kvs, e1, h3, r⟩
    exact ⟨hne, d, o, kvs, e1, i.frz _ _ _ rfl h3, r.mono i p⟩
/-- a new object of no place of the store -/
theorem RelS.side (R : RelS K ρ S H) {p : Addr} (hp : H p = none) (o : HO) : Post K ρ H ρ (upd H p o) S := by
  have hne : ∀ a, H a ≠ none → a ≠ p := fun a h e => h (e ▸ hp)
  have im : Imm H (upd H p o) := ⟨fun a xs h => by rw [upd_ne (hne a (by rw [h]; exact nofun))]; exact h, fun a ob u _ h => by rw [upd_ne (hne a (by rw [h]; exact nofun))]; exact h⟩
  refine ⟨⟨R.len, R.nd, fun n ob e => ?_⟩, List.prefix_rfl, fun a ob n h => ⟨n, by rw [upd_ne (hne a (by rw [h]; exact nofun))]; exact h⟩, fun a ob u h => by rw [upd_ne (hne a (by rw [h]; exact nofun))]; exact h⟩
  obtain ⟨a, ha, q⟩ := R.obj n ob e
  refine ⟨a, ha, ?_⟩
  have hap : a ≠ p := hne a (R.ne_n (List.mem_of_getElem? ha))
  exact q.mono im List.prefix_rfl (upd_ne hap)
theorem RelS.new_tup (R : RelS K ρ S H) {p : Addr} (hp : H p = none) {ds : List D} {xs : List V} (r : RelDs K ρ H ds xs) :
    Post K ρ H ρ (upd H p (.tup xs)) S ∧ RelD K ρ (upd H p (.tup xs)) (.tup ds) (.ref p) := by
  have P := R.side hp (.tup xs)
  exact ⟨P, RelD.tup upd_same (r.mono (P.imm R) List.prefix_rfl)⟩
/-- an object that changes is laid anew -/
theorem RelS.new (R : RelS K ρ S H) {p : Addr} (hp : H p = none) {o : MO} {ho : HO}
    (q : ObjR K (ρ ++ [p]) (upd H p ho) p o) : Post K ρ H (ρ ++ [p]) (upd H p ho) (S ++ [o]) ∧ RelD K (ρ ++ [p]) (upd H p ho) (.loc S.length) (.ref p) := by
  have hne : ∀ a, H a ≠ none → a ≠ p := fun a h e => h (e ▸ hp)
  have hpr : p ∉ ρ := fun m => R.ne_n m hp
  have P := R.side hp ho
  have im := P.imm R
  refine ⟨⟨⟨by simp [R.len], ?_, fun n ob e => ?_⟩, List.prefix_append _ _, fun a ob n h => ?_, fun a ob u h => by rw [upd_ne (hne a (by rw [h]; exact nofun))]; exact h⟩, RelD.loc ?_⟩
  · rw [List.nodup_append]
    refine ⟨R.nd, by simp, fun a ha b hb => ?_⟩
    simp at hb; subst hb
    exact fun e => hpr (e ▸ ha)
  · rw [List.getElem?_append] at e
    split at e
    · obtain ⟨a, ha, q'⟩ := R.obj n ob e
      have hap : a ≠ p := hne a (R.ne_n (List.mem_of_getElem? ha))
      exact ⟨a, prefix_get (List.prefix_append _ _) ha, q'.mono im (List.prefix_append _ _) (upd_ne hap)⟩
    · rename_i hn
      have hn' : n = S.length := by
        cases hk : n - S.length with
        | zero => omega
        | succ k => rw [hk] at e; simp at e
      subst hn'
      simp at e; subst e
      exact ⟨p, by rw [← R.len]; simp, q⟩
  · have hap : a ≠ p := hne a (by rw [h]; exact nofun)
    refine ⟨?_, by rw [upd_ne hap]; exact h⟩
    rw [List.mem_append]; rintro (m | m)
    · exact n m
    · simp at m; exact hap m
  · rw [← R.len]; simp
/-- the object at a place is changed -/
theorem RelS.put (R : RelS K ρ S H) {n : Nat} {a : Addr} (hn : ρ[n]? = some a) (mu : Mut (H a)) {o : MO} {ho : HO}
    (q : ObjR K ρ (upd H a ho) a o) : Post K ρ H ρ (upd H a ho) (S.set n o) := by
  have ma : a ∈ ρ := List.mem_of_getElem? hn
  have im : Imm H (upd H a ho) := ⟨fun b xs h => by
      have ne : b ≠ a := fun e => R.tup h (by rw [e]; exact ma)
      rw [upd_ne ne]; exact h, fun b o u hu h => by
      have ne : b ≠ a := fun e => R.frz hu h (by rw [e]; exact ma)
      rw [upd_ne ne]; exact h⟩
  refine ⟨⟨by simp [R.len], R.nd, fun m ob e => ?_⟩, List.prefix_rfl, fun b ob nb h => ⟨nb, by
    have ne : b ≠ a := fun e => nb (by rw [e]; exact ma)
    rw [upd_ne ne]; exact h⟩, fun b ob u h => by
    have ne : b ≠ a := fun e => by rw [← e, h] at mu; exact mu
    rw [upd_ne ne]; exact h⟩
  rw [List.getElem?_set] at e
  split at e
  · rename_i hnm; subst hnm
    split at e
    · cases e; exact ⟨a, hn, q⟩
    · cases e
  · rename_i hnm
    obtain ⟨b, hb, q'⟩ := R.obj m ob e
    refine ⟨b, hb, q'.mono im List.prefix_rfl (upd_ne fun e => hnm ?_)⟩
    subst e
    have l1 := (List.getElem?_eq_some_iff.mp hn).1
    have l2 := (List.getElem?_eq_some_iff.mp hb).1
    exact (List.getElem?_inj l1 R.nd).mp (by rw [hn, hb])
theorem RelS.lst (R : RelS K ρ S H) {n : Nat} {ds : List D} (h : S[n]? = some (.lst ds)) {v : V} (r : RelD K ρ H (.loc n) v) :
    ∃ a xs, v = .ref a ∧ ρ[n]? = some a ∧ H a = some (.lst xs) ∧ RelDs K ρ H ds xs := by
  obtain ⟨a, ha, rfl⟩ := r.loc_
  obtain ⟨b, hb, xs, e, q⟩ := R.obj n _ h
  rw [ha] at hb; cases hb
  exact ⟨a, xs, rfl, ha, e, q⟩
theorem RelS.dK (R : RelS K ρ S H) {n : Nat} {ds : List (Key × D)} (h : S[n]? = some (.dK ds)) {v : V} (r : RelD K ρ H (.loc n) v) :
    ∃ a xs, v = .ref a ∧ ρ[n]? = some a ∧ H a = some (.dK xs) ∧ RelKV K ρ H ds xs := by
  obtain ⟨a, ha, rfl⟩ := r.loc_
  obtain ⟨b, hb, xs, e, q⟩ := R.obj n _ h
  rw [ha] at hb; cases hb
  exact ⟨a, xs, rfl, ha, e, q⟩
theorem RelS.dT (R : RelS K ρ S H) {n : Nat} {ds : List (List Key × D)} (h : S[n]? = some (.dT ds)) {v : V} (r : RelD K ρ H (.loc n) v) :
    ∃ a xs, v = .ref a ∧ ρ[n]? = some a ∧ H a = some (.dT xs) ∧ RelKV K ρ H ds xs := by
  obtain ⟨a, ha, rfl⟩ := r.loc_
  obtain ⟨b, hb, xs, e, q⟩ := R.obj n _ h
  rw [ha] at hb; cases hb
  exact ⟨a, xs, rfl, ha, e, q⟩
theorem RelS.dN (R : RelS K ρ S H) {n : Nat} {ds : List (NestedKey × D)} (h : S[n]? = some (.dN ds)) {v : V} (r : RelD K ρ H (.loc n) v) :
    ∃ a xs, v = .ref a ∧ ρ[n]? = some a ∧ H a = some (dNO a xs) ∧ RelN K ρ H ds xs := by
  obtain ⟨a, ha, rfl⟩ := r.loc_
  obtain ⟨b, hb, xs, e, q⟩ := R.obj n _ h
  rw [ha] at hb; cases hb
  exact ⟨a, xs, rfl, ha, e, q⟩
theorem RelS.lK (R : RelS K ρ S H) {n : Nat} {ds : List (Key × D)} (h : S[n]? = some (.lK ds)) {v : V} (r : RelD K ρ H (.loc n) v) :
    ∃ a xs od, v = .ref a ∧ ρ[n]? = some a ∧ H a = some (.frz od (.dK xs)) ∧ RelKV K ρ H ds xs := by
  obtain ⟨a, ha, rfl⟩ := r.loc_
  obtain ⟨b, hb, xs, od, e, q⟩ := R.obj n _ h
  rw [ha] at hb; cases hb
  exact ⟨a, xs, od, rfl, ha, e, q⟩
theorem RelS.lT (R : RelS K ρ S H) {n : Nat} {ds : List (List Key × D)} (h : S[n]? = some (.lT ds)) {v : V} (r : RelD K ρ H (.loc n) v) :
    ∃ a xs od, v = .ref a ∧ ρ[n]? = some a ∧ H a = some (.frz od (.dT xs)) ∧ RelKV K ρ H ds xs := by
  obtain ⟨a, ha, rfl⟩ := r.loc_
  obtain ⟨b, hb, xs, od, e, q⟩ := R.obj n _ h
  rw [ha] at hb; cases hb
  exact ⟨a, xs, od, rfl, ha, e, q⟩
theorem RelS.lN (R : RelS K ρ S H) {n : Nat} {ds : List (NestedKey × D)} (h : S[n]? = some (.lN ds)) {v : V} (r : RelD K ρ H (.loc n) v) :
    ∃ a xs od, v = .ref a ∧ ρ[n]? = some a ∧ H a = some (.frz od (dNO a xs)) ∧ RelN K ρ H ds xs := by
  obtain ⟨a, ha, rfl⟩ := r.loc_
  obtain ⟨b, hb, xs, od, e, q⟩ := R.obj n _ h
  rw [ha] at hb; cases hb
  exact ⟨a, xs, od, rfl, ha, e, q⟩
theorem RelS.ins (R : RelS K ρ S H) {n : Nat} {c : String} {fs : List (Str × D)} (h : S[n]? = some (.ins c fs)) {v : V} (r : RelD K ρ H (.loc n) v) :
    ∃ a C dx kvs, v = .ref a ∧ ρ[n]? = some a ∧ PySem.W.nsIn K mainGlobals c = some (some (.ref C)) ∧ H a = some (.ins C dx kvs) ∧ RelKV K ρ H fs kvs := by
  obtain ⟨a, ha, rfl⟩ := r.loc_
  obtain ⟨b, hb, C, dx, kvs, e0, e, q⟩ := R.obj n _ h
  rw [ha] at hb; cases hb
  exact ⟨a, C, dx, kvs, rfl, ha, e0, e, q⟩
theorem RelS.exn (R : RelS K ρ S H) {n : Nat} {c : String} {fs : List (Str × D)} (h : S[n]? = some (.exn c fs)) {v : V} (r : RelD K ρ H (.loc n) v) :
    ∃ a C dO, v = .ref a ∧ ρ[n]? = some a ∧ PySem.W.nsIn K mainGlobals c = some (some (.ref C)) ∧ H a = some (exHO a C dO) ∧ (fs = [] ∧ dO = none ∨ fs ≠ [] ∧ ∃ d o kvs, dO = some d ∧ H d = some (.frz o (.xd kvs)) ∧ RelKV K ρ H fs kvs) := by
  obtain ⟨a, ha, rfl⟩ := r.loc_
  obtain ⟨b, hb, C, dO, e0, e, q⟩ := R.obj n _ h
  rw [ha] at hb; cases hb
  exact ⟨a, C, dO, rfl, ha, e0, e, q⟩
end
end SW
namespace SW
open PySem L2

abbrev EvE := Tau → Sto → Option (D × Sto)
abbrev EvT := Tau → Sto → Option (Bool × Sto)
abbrev EvA := Tau → Sto → Option (List D × Sto)
inductive Out where
  | nx (τ : Tau)
  | rt (d : D)
  | bk (τ : Tau)
  | ct (τ : Tau)
  /-- an exception of that class leaves, with what it has of its own -/
  | ex (c : String) (fs : List (Str × D)) (τ : Tau)
abbrev EvS := Tau → Sto → Option (Out × Sto)

section
variable (K : PySem.W.Frag)
/-- where one stands -/
structure At (ρ : List Addr) (τ : Tau) (S : Sto) (σ : St) (H : Hp) : Prop where
  s : RelS K ρ S H
  t : RelT K ρ H τ σ
def tE (f : EvE) : TE := fun σ H Q => ∃ ρ τ S d S', At K ρ τ S σ H ∧ f τ S = some (d, S') ∧ ∀ ρ' v H', Post K ρ H ρ' H' S' → RelD K ρ' H' d v → Q v H'
def tT (f : EvT) : TT := fun σ H Q => ∃ ρ τ S d S', At K ρ τ S σ H ∧ f τ S = some (d, S') ∧ ∀ ρ' H', Post K ρ H ρ' H' S' → Q d H'
def tA (f : EvA) : TA := fun σ H Q => ∃ ρ τ S d S', At K ρ τ S σ H ∧ f τ S = some (d, S') ∧ ∀ ρ' v H', Post K ρ H ρ' H' S' → RelDs K ρ' H' d v → Q v H'
/-- what an exception that leaves asks -/
def ExOk (E : XK) (ρ' : List Addr) (H' : Hp) (c : String) (fs : List (Str × D)) : Prop := ∀ C, PySem.W.nsIn K mainGlobals c = some (some (.ref C)) →
  (fs = [] → E (.ref C) none H') ∧ (fs ≠ [] → ∀ d kvs, H' d = none → RelKV K ρ' (upd H' d (.xd kvs)) fs kvs → E (.ref C) (some d) (upd H' d (.xd kvs)))
/-- what a statement's end asks -/
def OutOk (W : WX) (Dn : Ends) (ρ' : List Addr) (H' : Hp) : Out → Prop
  | .ex c fs τ' => ∀ σ', RelT K ρ' H' τ' σ' → ExOk K (fun cls d H2 => W cls d σ' H2) ρ' H' c fs
  | .nx τ' => ∀ σ', RelT K ρ' H' τ' σ' → Dn.nx σ' H'
  | .rt d => ∀ v, RelD K ρ' H' d v → Dn.rt v H'
  | .bk τ' => ∀ σ', RelT K ρ' H' τ' σ' → Dn.bk σ' H'
  | .ct τ' => ∀ σ', RelT K ρ' H' τ' σ' → Dn.ct σ' H'
def tS (W : WX) (f : EvS) : TS := fun Dn σ H => ∃ ρ τ S o S', At K ρ τ S σ H ∧ f τ S = some (o, S') ∧ ∀ ρ' H', Post K ρ H ρ' H' S' → OutOk K W Dn ρ' H' o
end
abbrev EE (X : Cx) (e : Expr) (f : EvE) : Prop := PE X e (tE X.K f)
abbrev ET (X : Cx) (e : Expr) (f : EvT) : Prop := PT X e (tT X.K f)
abbrev EW (X : Cx) (e : Expr) (f : EvT) : Prop := PW X e (tT X.K f)
abbrev EA (X : Cx) (es : List Expr) (f : EvA) : Prop := PA X es (tA X.K f)
abbrev ES (W : WX) (X : Cx) (s : Stmt) (f : EvS) : Prop := PS X s (tS X.K W f)
abbrev ESs (W : WX) (X : Cx) (s : List Stmt) (f : EvS) : Prop := PSs X s (tS X.K W f)

section
variable {X : Cx} {e : Expr} {es : List Expr} {st : Stmt} {sts : List Stmt}
theorem wkE {t t' : TE} (h : PE X e t) (k : ∀ σ H Q, t' σ H Q → t σ H Q) : PE X e t' := ⟨fun pins s σ H Q I q => h.run pins s σ H Q I (k σ H Q q)⟩
theorem wkT {t t' : TT} (h : PT X e t) (k : ∀ σ H Q, t' σ H Q → t σ H Q) : PT X e t' := ⟨fun pins s σ H Q I q => h.run pins s σ H Q I (k σ H Q q)⟩
theorem wkW {t t' : TT} (h : PW X e t) (k : ∀ σ H Q, t' σ H Q → t σ H Q) : PW X e t' := ⟨fun wh pins s σ H Q I q => h.run wh pins s σ H Q I (k σ H Q q)⟩
theorem wkA {t t' : TA} (h : PA X es t) (k : ∀ σ H Q, t' σ H Q → t σ H Q) : PA X es t' := ⟨fun pos pins s σ H Q I q => h.run pos pins s σ H Q I (k σ H Q q)⟩
theorem wkS {t t' : TS} (h : PS X st t) (k : ∀ D σ H, t' D σ H → t D σ H) : PS X st t' := ⟨fun pins s σ H D I q => h.run pins s σ H D I (k D σ H q)⟩
theorem wkSs {t t' : TS} (h : PSs X sts t) (k : ∀ D σ H, t' D σ H → t D σ H) : PSs X sts t' := ⟨fun pins s σ H D I q => h.run pins s σ H D I (k D σ H q)⟩
/-- two readings of one expression -/
theorem orE {t t' : TE} (h : PE X e t) (h' : PE X e t') : PE X e (fun σ H Q => t σ H Q ∨ t' σ H Q) := ⟨fun pins s σ H Q I q => q.elim (h.run pins s σ H Q I) (h'.run pins s σ H Q I)⟩
theorem orT {t t' : TT} (h : PT X e t) (h' : PT X e t') : PT X e (fun σ H Q => t σ H Q ∨ t' σ H Q) := ⟨fun pins s σ H Q I q => q.elim (h.run pins s σ H Q I) (h'.run pins s σ H Q I)⟩
theorem orO {f : Value → Value → Sem Value} {r r' : R2} (h : OpR X f r) (h' : OpR X f r') : OpR X f (fun x y H Q => r x y H Q ∨ r' x y H Q) :=
  fun pins s σ H x y v u Q I rx ry q => q.elim (h pins s σ H x y v u Q I rx ry) (h' pins s σ H x y v u Q I rx ry)
theorem orC {f : Value} {r r' : List V → Hp → VK → Prop} (h : CallR X f r) (h' : CallR X f r') : CallR X f (fun xs H Q => r xs H Q ∨ r' xs H Q) :=
  fun pins s σ H xs us Q I rx q => q.elim (h pins s σ H xs us Q I rx) (h' pins s σ H xs us Q I rx)
end

section
variable {K : PySem.W.Frag} {ρ ρ' : List Addr} {τ : Tau} {S S' : Sto} {σ : St} {H H' : Hp}
theorem At.go (a : At K ρ τ S σ H) (p : Post K ρ H ρ' H' S') : At K ρ' τ S' σ H' := ⟨p.rel, a.t.mono (p.imm a.s) p.pre⟩
/-- a part is reckoned, and what follows goes on from there -/
theorem goE {f : EvE} {d : D} (a : At K ρ τ S σ H) (e : f τ S = some (d, S')) {Q : VK} (h : ∀ ρ' v H', At K ρ' τ S' σ H' → Post K ρ H ρ' H' S' → RelD K ρ' H' d v → Q v H') : tE K f σ H Q :=
  ⟨ρ, τ, S, d, S', a, e, fun ρ' v H' p r => h ρ' v H' (a.go p) p r⟩
theorem goT {f : EvT} {d : Bool} (a : At K ρ τ S σ H) (e : f τ S = some (d, S')) {Q : Bool → Hp → Prop} (h : ∀ ρ' H', At K ρ' τ S' σ H' → Post K ρ H ρ' H' S' → Q d H') : tT K f σ H Q :=
  ⟨ρ, τ, S, d, S', a, e, fun ρ' H' p => h ρ' H' (a.go p) p⟩
theorem goA {f : EvA} {d : List D} (a : At K ρ τ S σ H) (e : f τ S = some (d, S')) {Q : List V → Hp → Prop} (h : ∀ ρ' v H', At K ρ' τ S' σ H' → Post K ρ H ρ' H' S' → RelDs K ρ' H' d v → Q v H') : tA K f σ H Q :=
  ⟨ρ, τ, S, d, S', a, e, fun ρ' v H' p r => h ρ' v H' (a.go p) p r⟩
theorem At.refl (a : At K ρ τ S σ H) : Post K ρ H ρ H S := Post.refl a.s
end

/-! ### the pieces of expressions -/
def cE (d : D) : EvE := fun _ S => some (d, S)
def vE (i : Nat) : EvE := fun τ S => (τ[i]?.join).map fun d => (d, S)
def b2E (g : D → D → Sto → Option (D × Sto)) (fa fb : EvE) : EvE := fun τ S => (fa τ S).bind fun p => (fb τ p.2).bind fun q => g p.1 q.1 q.2
def u1E (g : D → Sto → Option (D × Sto)) (fa : EvE) : EvE := fun τ S => (fa τ S).bind fun p => g p.1 p.2
def aE (g : List D → Sto → Option (D × Sto)) (fa : EvA) : EvE := fun τ S => (fa τ S).bind fun p => g p.1 p.2
def nilA : EvA := fun _ S => some ([], S)
def consA (fa : EvE) (fr : EvA) : EvA := fun τ S => (fa τ S).bind fun p => (fr τ p.2).bind fun q => some (p.1 :: q.1, q.2)
def tupD (ds : List D) (S : Sto) : Option (D × Sto) := if ds.length ≤ 10000000 then some (.tup ds, S) else none
def lstD (ds : List D) (S : Sto) : Option (D × Sto) := if ds.length ≤ 10000000 then some (.loc S.length, S ++ [.lst ds]) else none
def newD (o : MO) (S : Sto) : D × Sto := (.loc S.length, S ++ [o])
def tB (f : EvE) : EvT := fun τ S => (f τ S).bind fun p => match p.1 with | .bl b => some (b, p.2) | _ => none
def notT (f : EvT) : EvT := fun τ S => (f τ S).map fun p => (!p.1, p.2)
def andT (f g : EvT) : EvT := fun τ S => (f τ S).bind fun p => if p.1 then g τ p.2 else some (false, p.2)
def orT' (f g : EvT) : EvT := fun τ S => (f τ S).bind fun p => if p.1 then some (true, p.2) else g τ p.2
def iteE (c : EvT) (f g : EvE) : EvE := fun τ S => (c τ S).bind fun p => if p.1 then f τ p.2 else g τ p.2
def andE (f g : EvE) : EvE := fun τ S => (f τ S).bind fun p => match p.1 with | .bl b => if b then g τ p.2 else some (.bl false, p.2) | _ => none
def orE' (f g : EvE) : EvE := fun τ S => (f τ S).bind fun p => match p.1 with | .bl b => if b then some (.bl true, p.2) else g τ p.2 | _ => none
def notE (f : EvE) : EvE := fun τ S => (f τ S).bind fun p => match p.1 with | .bl b => some (.bl !b, p.2) | _ => none

/-- a two-place operation, by values: r is what HandS asks, g what is reckoned -/
def Op2 (K : PySem.W.Frag) (r : R2) (g : D → D → Sto → Option (D × Sto)) : Prop :=
  ∀ (ρ : List Addr) (S : Sto) (H : Hp) (x y : D) (v w : V) (d : D) (S' : Sto), RelS K ρ S H → RelD K ρ H x v → RelD K ρ H y w → g x y S = some (d, S') →
    ∀ Q : VK, (∀ ρ' u H', Post K ρ H ρ' H' S' → RelD K ρ' H' d u → Q u H') → r v w H Q
def Op1 (K : PySem.W.Frag) (r : V → Hp → VK → Prop) (g : D → Sto → Option (D × Sto)) : Prop :=
  ∀ (ρ : List Addr) (S : Sto) (H : Hp) (x : D) (v : V) (d : D) (S' : Sto), RelS K ρ S H → RelD K ρ H x v → g x S = some (d, S') →
    ∀ Q : VK, (∀ ρ' u H', Post K ρ H ρ' H' S' → RelD K ρ' H' d u → Q u H') → r v H Q
def OpA (K : PySem.W.Frag) (r : List V → Hp → VK → Prop) (g : List D → Sto → Option (D × Sto)) : Prop :=
  ∀ (ρ : List Addr) (S : Sto) (H : Hp) (x : List D) (v : List V) (d : D) (S' : Sto), RelS K ρ S H → RelDs K ρ H x v → g x S = some (d, S') →
    ∀ Q : VK, (∀ ρ' u H', Post K ρ H ρ' H' S' → RelD K ρ' H' d u → Q u H') → r v H Q

theorem bindE {α β : Type} {x : Option α} {f : α → Option β} {b : β} (h : x.bind f = some b) : ∃ a, x = some a ∧ f a = some b := Option.bind_eq_some_iff.mp h

section
variable {X : Cx} {a b c : Expr} {fa fb fc : EvE} {es : List Expr} {pos : Pos}
theorem ee_cE {e : Expr} {v : V} {d : D} (h : PE X e (tC v)) (hr : ∀ ρ H, RelD X.K ρ H d v) : EE X e (cE d) := wkE h fun σ H Q q => by
  obtain ⟨ρ, τ, S, d', S', A, e, k⟩ := q
  cases e
  exact k ρ v H A.refl (hr ρ H)
theorem ee_int {i : Int} {j pos} : EE X (.Constant (.int i) j pos) (cE (.int i)) := ee_cE pe_int fun _ _ => RelD.int i
theorem ee_bl {i : Bool} {j pos} : EE X (.Constant (.bool i) j pos) (cE (.bl i)) := ee_cE pe_bl fun _ _ => RelD.bl i
theorem ee_non {j pos} : EE X (.Constant .none j pos) (cE .non) := ee_cE pe_non fun _ _ => RelD.non
theorem ee_str {x : Str} {j pos} : EE X (.Constant (.str x) j pos) (cE (.str x)) := ee_cE pe_str fun _ _ => RelD.str x
theorem ee_v (i : Nat) {x : Str} (h : PE X (.Name x pos) (tVar i)) : EE X (.Name x pos) (vE i) := wkE h fun σ H Q q => by
  obtain ⟨ρ, τ, S, d', S', A, e, k⟩ := q
  cases et : τ[i]? with
  | none => simp [vE, et] at e
  | some o =>
    cases o with
    | none => simp [vE, et] at e
    | some d =>
      simp [vE, et] at e
      obtain ⟨rfl, rfl⟩ := e
      obtain ⟨v, e1, r⟩ := A.t.2 i d et
      exact ⟨v, e1, k ρ v H A.refl r⟩
theorem ee_b2 {r : R2} {g : D → D → Sto → Option (D × Sto)} {e : Expr} (h : PE X a (tE X.K fa) → PE X b (tE X.K fb) → PE X e (tOp r (tE X.K fa) (tE X.K fb))) (hg : Op2 X.K r g) (ha : EE X a fa) (hb : EE X b fb) : EE X e (b2E g fa fb) :=
  wkE (h ha hb) fun σ H Q q => by
    obtain ⟨ρ, τ, S, d, S', A, e, k⟩ := q
    obtain ⟨⟨x, S1⟩, e1, e⟩ := bindE e
    obtain ⟨⟨y, S2⟩, e2, e⟩ := bindE e
    refine goE A e1 fun ρ1 v1 H1 A1 P1 r1 => goE A1 e2 fun ρ2 v2 H2 A2 P2 r2 => ?_
    exact hg ρ2 S2 H2 x y v1 v2 d S' A2.s (r1.mono (P2.imm A1.s) P2.pre) r2 e Q fun ρ3 u H3 P3 r3 => k ρ3 u H3 ((P1.trans P2).trans P3) r3
theorem ee_op {op : Operator} {r : R2} {g : D → D → Sto → Option (D × Sto)} (ho : OpR X (binaryOp op) r) (hg : Op2 X.K r g) (ha : EE X a fa) (hb : EE X b fb) : EE X (.BinOp a op b pos) (b2E g fa fb) :=
  ee_b2 (pe_op ho) hg ha hb
theorem ee_cmp {op : CmpOp} {r : R2} {g : D → D → Sto → Option (D × Sto)} (ho : OpR X (compareOp op) r) (hg : Op2 X.K r g) (ha : EE X a fa) (hb : EE X b fb) (hm : behindInMarks op b = false) : EE X (.Compare a [op] [b] pos) (b2E g fa fb) :=
  ee_b2 (fun h1 h2 => pe_cmpR ho h1 h2 hm) hg ha hb
/-- a test that is a comparison -/
theorem et_cmp {op : CmpOp} {r : R2} {g : D → D → Sto → Option (D × Sto)} (ho : OpR X (compareOp op) r) (hg : Op2 X.K r g) (ha : EE X a fa) (hb : EE X b fb) (hm : behindInMarks op b = false) : ET X (.Compare a [op] [b] pos) (tB (b2E g fa fb)) :=
  wkT (pt_cmpR ho ha hb hm) fun σ H Q q => by
    obtain ⟨ρ, τ, S, d, S', A, e, k⟩ := q
    obtain ⟨⟨z, S3⟩, e0, ez⟩ := bindE e
    obtain ⟨⟨x, S1⟩, e1, e0⟩ := bindE e0
    obtain ⟨⟨y, S2⟩, e2, e0⟩ := bindE e0
    refine goE A e1 fun ρ1 v1 H1 A1 P1 r1 => goE A1 e2 fun ρ2 v2 H2 A2 P2 r2 => ?_
    refine hg ρ2 S2 H2 x y v1 v2 z S3 A2.s (r1.mono (P2.imm A1.s) P2.pre) r2 e0 _ fun ρ3 u H3 P3 r3 => ?_
    cases z with
    | bl b =>
      cases ez
      exact ⟨_, r3.bl_, k ρ3 H3 ((P1.trans P2).trans P3)⟩
    | _ => cases ez
theorem ee_un {op : UnaryOp} {r : V → Hp → VK → Prop} {g : D → Sto → Option (D × Sto)} (ho : UnR X (unaryOp op) r) (hg : Op1 X.K r g) (ha : EE X a fa) : EE X (.UnaryOp op a pos) (u1E g fa) :=
  wkE (pe_un ho ha) fun σ H Q q => by
    obtain ⟨ρ, τ, S, d, S', A, e, k⟩ := q
    obtain ⟨⟨x, S1⟩, e1, e⟩ := bindE e
    refine goE A e1 fun ρ1 v1 H1 A1 P1 r1 => ?_
    exact hg ρ1 S1 H1 x v1 d S' A1.s r1 e Q fun ρ3 u H3 P3 r3 => k ρ3 u H3 (P1.trans P3) r3
/-! lists of arguments, displays -/
theorem ea_nil : EA X [] nilA := wkA pa_nil fun σ H Q q => by
  obtain ⟨ρ, τ, S, d, S', A, e, k⟩ := q
  cases e
  exact k ρ [] H A.refl .nil
theorem ea_cons {fr : EvA} (ha : EE X a fa) (hr : EA X es fr) (hs : starEach (a :: es) X.env = (false, eval a X.env) :: starEach es X.env := by rfl) : EA X (a :: es) (consA fa fr) := wkA (pa_cons ha hr hs) fun σ H Q q => by
  obtain ⟨ρ, τ, S, d, S', A, e, k⟩ := q
  obtain ⟨⟨x, S1⟩, e1, e⟩ := bindE e
  obtain ⟨⟨y, S2⟩, e2, e⟩ := bindE e
  cases e
  refine goE A e1 fun ρ1 v1 H1 A1 P1 r1 => goA A1 e2 fun ρ2 v2 H2 A2 P2 r2 => ?_
  exact k ρ2 _ H2 (P1.trans P2) (.cons (r1.mono (P2.imm A1.s) P2.pre) r2)
theorem line_of {n : Nat} (h : n ≤ 10000000) : n ≤ sizeLine := by rw [sizeLine_eq]; omega
theorem ee_tup {x1} {fr : EvA} (h : EA X es fr) : EE X (.Tuple es x1 pos) (aE tupD fr) := wkE (pe_tup h) fun σ H Q q => by
  obtain ⟨ρ, τ, S, d, S', A, e, k⟩ := q
  obtain ⟨⟨x, S1⟩, e1, e⟩ := bindE e
  simp only [tupD] at e
  split at e
  · rename_i hl
    cases e
    refine goA A e1 fun ρ1 vs H1 A1 P1 r1 => ⟨line_of (by rw [r1.len]; exact hl), fun p hp => ?_⟩
    obtain ⟨P2, r2⟩ := A1.s.new_tup hp r1
    exact k ρ1 _ _ (P1.trans P2) r2
  · cases e
theorem new_lst {K : PySem.W.Frag} {ρ : List Addr} {S : Sto} {H : Hp} (R : RelS K ρ S H) {p : Addr} (hp : H p = none) {ds : List D} {xs : List V} (r : RelDs K ρ H ds xs) :
    Post K ρ H (ρ ++ [p]) (upd H p (.lst xs)) (S ++ [.lst ds]) ∧ RelD K (ρ ++ [p]) (upd H p (.lst xs)) (.loc S.length) (.ref p) :=
  R.new hp ⟨xs, upd_same, r.mono ((R.side hp _).imm R) (List.prefix_append _ _)⟩
theorem ee_lst {fr : EvA} (h : EA X es fr) : EE X (.List es pos) (aE lstD fr) := wkE (pe_lst h) fun σ H Q q => by
  obtain ⟨ρ, τ, S, d, S', A, e, k⟩ := q
  obtain ⟨⟨x, S1⟩, e1, e⟩ := bindE e
  simp only [lstD] at e
  split at e
  · rename_i hl
    cases e
    refine goA A e1 fun ρ1 vs H1 A1 P1 r1 => ⟨line_of (by rw [r1.len]; exact hl), fun p hp => ?_⟩
    obtain ⟨P2, r2⟩ := new_lst A1.s hp r1
    exact k _ _ _ (P1.trans P2) r2
  · cases e
/-- {} whose keys will be ints and texts; whose keys will be tuples -/
def nK : EvE := fun _ S => some (newD (.dK []) S)
def nT : EvE := fun _ S => some (newD (.dT []) S)
theorem ee_nT : EE X (.Dict [] [] pos) nT := wkE pe_dnewT fun σ H Q q => by
  obtain ⟨ρ, τ, S, d, S', A, e, k⟩ := q
  cases e
  intro p hp
  obtain ⟨P2, r2⟩ := A.s.new (o := .dT []) (ho := .dT []) hp ⟨[], upd_same, rfl, .nil⟩
  exact k _ _ _ P2 r2
/-! tests, and, or, not, if else -/
theorem et_val {e : Expr} {f : EvE} (h : EE X e f) (he : ∀ whole, isTrue e X.env whole = (do let v ← whole; standAt e.pos; holding [v] (truthy v)) := by intro _; rfl) : ET X e (tB f) := wkT (pt_val h he) fun σ H Q q => by
  obtain ⟨ρ, τ, S, d, S', A, e, k⟩ := q
  obtain ⟨⟨x, S1⟩, e1, e⟩ := bindE e
  refine goE A e1 fun ρ1 v1 H1 A1 P1 r1 => ?_
  cases x with
  | bl b => cases e; exact ⟨_, r1.bl_, k _ _ P1⟩
  | _ => cases e
theorem et_not {f : EvT} (h : ET X a f) : ET X (.UnaryOp .Not a pos) (notT f) := wkT (pt_not h) fun σ H Q q => by
  obtain ⟨ρ, τ, S, d, S', A, e, k⟩ := q
  simp only [notT, Option.map_eq_some_iff] at e
  obtain ⟨⟨x, S1⟩, e1, e⟩ := e
  cases e
  exact goT A e1 fun ρ1 H1 A1 P1 => k ρ1 H1 P1
theorem ew_and1 {f : EvT} (h : ET X a f) : EW X (.BoolOp .And [a] pos) f := pw_and1 h
theorem ew_or1 {f : EvT} (h : ET X a f) : EW X (.BoolOp .Or [a] pos) f := pw_or1 h
theorem ew_and {f g : EvT} {rest : List Expr} (h : ET X a f) (h2 : EW X (.BoolOp .And (b :: rest) pos) g) : EW X (.BoolOp .And (a :: b :: rest) pos) (andT f g) := wkW (pw_and h h2) fun σ H Q q => by
  obtain ⟨ρ, τ, S, d, S', A, e, k⟩ := q
  obtain ⟨⟨x, S1⟩, e1, e⟩ := bindE e
  refine goT A e1 fun ρ1 H1 A1 P1 => ?_
  cases x with
  | true => exact goT A1 e fun ρ2 H2 A2 P2 => k ρ2 H2 (P1.trans P2)
  | false => cases e; exact k _ _ P1
theorem ew_or {f g : EvT} {rest : List Expr} (h : ET X a f) (h2 : EW X (.BoolOp .Or (b :: rest) pos) g) : EW X (.BoolOp .Or (a :: b :: rest) pos) (orT' f g) := wkW (pw_or h h2) fun σ H Q q => by
  obtain ⟨ρ, τ, S, d, S', A, e, k⟩ := q
  obtain ⟨⟨x, S1⟩, e1, e⟩ := bindE e
  refine goT A e1 fun ρ1 H1 A1 P1 => ?_
  cases x with
  | false => exact goT A1 e fun ρ2 H2 A2 P2 => k ρ2 H2 (P1.trans P2)
  | true => cases e; exact k _ _ P1
theorem et_w {e : Expr} {f : EvT} (h : EW X e f) : ET X e f := h.pt
theorem ee_ite {f : EvT} (hc : ET X c f) (ha : EE X a fa) (hb : EE X b fb) : EE X (.IfExp c a b pos) (iteE f fa fb) := wkE (pe_ifExp hc ha hb) fun σ H Q q => by
  obtain ⟨ρ, τ, S, d, S', A, e, k⟩ := q
  obtain ⟨⟨x, S1⟩, e1, e⟩ := bindE e
  refine goT A e1 fun ρ1 H1 A1 P1 => ?_
  cases x with
  | true => exact goE A1 e fun ρ2 v2 H2 A2 P2 r2 => k ρ2 v2 H2 (P1.trans P2) r2
  | false => exact goE A1 e fun ρ2 v2 H2 A2 P2 r2 => k ρ2 v2 H2 (P1.trans P2) r2
theorem ee_one {op} {f : EvE} (h : EE X a f) : EE X (.BoolOp op [a] pos) f := pe_one h
theorem ee_and {rest : List Expr} {g : EvE} (ha : EE X a fa) (hb : EE X (.BoolOp .And (b :: rest) pos) g) : EE X (.BoolOp .And (a :: b :: rest) pos) (andE fa g) := wkE (pe_and ha hb) fun σ H Q q => by
  obtain ⟨ρ, τ, S, d, S', A, e, k⟩ := q
  obtain ⟨⟨x, S1⟩, e1, e⟩ := bindE e
  refine goE A e1 fun ρ1 v1 H1 A1 P1 r1 => ?_
  cases x with
  | bl b =>
    refine ⟨b, r1.bl_, ?_⟩
    cases b with
    | true => exact goE A1 e fun ρ2 v2 H2 A2 P2 r2 => k ρ2 v2 H2 (P1.trans P2) r2
    | false => cases e; exact k _ _ _ P1 (RelD.bl _)
  | _ => cases e
end
end SW
/-! Dicts whose keys are tuples of any depth: what the machine does with them. -/
namespace SW
open PySem L2 PyProof.Rows

mutual
theorem plainK_hash (w w' : World) : ∀ k : NestedKey, plainK k = true → k.hash w = k.hash w'
  | .none, _ => rfl
  | .num _, _ => rfl
  | .text _, h => by simp [plainK] at h
  | .tup ks, h => by
    simp only [plainK] at h
    simp only [NestedKey.hash, plainKs_hash w w' ks h]
theorem plainKs_hash (w w' : World) : ∀ ks : List NestedKey, plainKs ks = true → NestedKey.hashes w ks = NestedKey.hashes w' ks
  | [], _ => rfl
  | k :: ks, h => by
    simp only [plainKs, Bool.and_eq_true] at h
    simp only [NestedKey.hashes, plainK_hash w w' k h.1, plainKs_hash w w' ks h.2]
end
section
variable {P : Program} {w : World} {H : Hp} {h : Heap} {a : Addr}
mutual
theorem NkV.is (ok : HOk P w H h) : ∀ {k : NestedKey} {v : V} {u : Value}, NkV H k v → RelV v u → NestedIs h k u
  | .none, v, u, q, r => by
    have q : v = .non := by simpa [NkV] using q
    subst q
    obtain rfl : u = Value.none := r
    exact .none
  | .num i, v, u, q, r => by
    have q : v = .int i := by simpa [NkV] using q
    subst q
    obtain ⟨t, rfl⟩ := r
    exact .int i t
  | .text x, v, u, q, r => by
    have q : v = .str x := by simpa [NkV] using q
    subst q
    obtain ⟨t, rfl⟩ := r
    exact .text x t
  | .tup ks, v, u, q, r => by
    simp only [NkV] at q
    obtain ⟨b, xs, rfl, e, q⟩ := q
    obtain rfl : u = Value.ref b := r
    obtain ⟨_, its, rs, o, h1, h2, n, h3⟩ := (show ObjOk P w H h b (.tup xs) from ok b _ e)
    exact .tup h1 h2 h3 (by simpa using NkVs.is ok q rs)
theorem NkVs.is (ok : HOk P w H h) : ∀ {ks : List NestedKey} {vs : List V} {us : List Value}, NkVs H ks vs → Vals vs us → NestedAll h ks us
  | [], vs, us, q, r => by
    have q : vs = [] := by simpa [NkVs] using q
    subst q
    cases r
    exact .nil
  | k :: ks, vs, us, q, r => by
    simp only [NkVs] at q
    obtain ⟨y, ys, rfl, q1, q2⟩ := q
    cases r with
    | cons r1 r2 => exact .cons (NkV.is ok q1 r1) (NkVs.is ok q2 r2)
end
/-! entries -/
def valN (xs : List NEnt) (k : NestedKey) : Option V := (xs.find? fun x => decide (x.1 = k)).map (·.2.2)
def setN (k : NestedKey) (v : V) (x : NEnt) : NEnt := if x.1 = k then (x.1, x.2.1, v) else x
def putN (xs : List NEnt) (k : NestedKey) (b : Addr) (v : V) : List NEnt := if (valN xs k).isSome then xs.map (setN k v) else xs ++ [(k, b, v)]
abbrev Ents := Paired entOk
theorem Ents.val {xs : List NEnt} {ys : List (NestedKey × Addr × Value)} (r : Ents xs ys) (k : NestedKey) : RelO (valN xs k) ((atKey ys k).map (·.2)) := by
  induction r with
  | nil => exact True.intro
  | @cons p q ps qs e t ih =>
    obtain ⟨e1, e2, e3⟩ := e
    unfold valN atKey at ih ⊢
    rw [List.find?_cons, List.find?_cons, ← e1]
    by_cases z : p.1 = k
    · simp only [z, decide_true, Option.map_some]; exact e3
    · simp only [z, decide_false]; exact ih
theorem Ents.setAll {xs : List NEnt} {ys : List (NestedKey × Addr × Value)} (r : Ents xs ys) (k : NestedKey) {v : V} {u : Value} (rv : RelV v u) : Ents (xs.map (setN k v)) (ys.map (putAt k u)) := by
  induction r with
  | nil => exact .nil
  | @cons p q ps qs e t ih =>
    rw [List.map_cons, List.map_cons]
    refine .cons ?_ ih
    obtain ⟨e1, e2, e3⟩ := e
    unfold setN putAt
    rw [← e1]
    by_cases z : p.1 = k
    · rw [if_pos z, if_pos z]; exact ⟨rfl, e2, rv⟩
    · rw [if_neg z, if_neg z]; exact ⟨e1, e2, e3⟩
theorem Ents.snoc {xs : List NEnt} {ys : List (NestedKey × Addr × Value)} (r : Ents xs ys) {p : NEnt} {q : NestedKey × Addr × Value} (e : entOk p q) : Ents (xs ++ [p]) (ys ++ [q]) := by
  induction r with
  | nil => exact .cons e .nil
  | cons e1 _ ih => exact .cons e1 ih
theorem Ents.put {xs : List NEnt} {ys : List (NestedKey × Addr × Value)} (r : Ents xs ys) (k : NestedKey) (b : Addr) {v : V} {u : Value} (rv : RelV v u) : Ents (putN xs k b v) (storedH ys k b u) := by
  have e := (r.val k).isSome_eq
  rw [Option.isSome_map] at e
  unfold putN storedH
  rw [e]
  split
  · exact r.setAll k rv
  · exact r.snoc ⟨rfl, rfl, rv⟩
theorem putN_len {xs : List NEnt} {k : NestedKey} {b : Addr} {v : V} : (putN xs k b v).length ≤ xs.length + 1 := by
  unfold putN
  split <;> simp
theorem putN_ok {xs : List NEnt} {k : NestedKey} {b : Addr} {v : V} (ok : ∀ x ∈ xs, NOk H x) (hk : NOk H (k, b, v)) : ∀ x ∈ putN xs k b v, NOk H x := by
  intro x hx
  unfold putN at hx
  split at hx
  · obtain ⟨y, hy, rfl⟩ := List.mem_map.mp hx
    have := ok y hy
    unfold setN
    split
    · exact this
    · exact this
  · rcases List.mem_append.mp hx with hx | hx
    · exact ok x hx
    · simp at hx; subst hx; exact hk
/-- a dict that may be read: its entries, and what the machine has of them -/
structure DN (H : Hp) (a : Addr) (xs : List NEnt) : Prop where
  rd : Rd H a (dNO a xs) ∨ (xs = [] ∧ Rd H a (.dK []))
  ok : ∀ x ∈ xs, NOk H x
/-- one that may be written; the empty dict is of any kind -/
structure DW (H : Hp) (a : Addr) (xs : List NEnt) : Prop where
  wr : H a = some (dNO a xs) ∨ (xs = [] ∧ H a = some (.dK []))
  ok : ∀ x ∈ xs, NOk H x
theorem DW.dn (d : DW H a xs) : DN H a xs := ⟨d.wr.elim (fun h => .inl (.inl h)) fun h => .inr ⟨h.1, .inl h.2⟩, d.ok⟩
theorem DW.mut (d : DW H a xs) : Mut (H a) := by
  rcases d.wr with h | ⟨_, h⟩ <;> rw [h] <;> exact True.intro
theorem DN.at (D : DN H a xs) (ok : HOk P w H h) : xs.length ≤ sizeLine ∧ (a == sysModules) = false ∧ ∃ ys, Ents xs ys ∧ h.DictOfH (nestedKind P w) a ys := by
  rcases D.rd with rd | ⟨rfl, rd⟩
  rotate_left
  · obtain ⟨z, y, vs, r, o, es, ep, h1, h2, h3, _, h5, _⟩ := (show ObjOk P w H h a (.dK []) from rd.ok ok)
    cases r
    have : es.toList = [] := by cases q : es.toList with | nil => rfl | cons _ _ => rw [q] at h5; cases h5
    exact ⟨Nat.zero_le _, y, [], .nil, o, es, ep, h1, h2, h3, this, fun x hx => by simp at hx, List.nodup_nil⟩
  obtain ⟨⟨z, y, ys, r, nd, o, es, ep, h1, h2, h3, h4⟩, _, _⟩ := (show ObjOk P w H h a (dNO a xs) from rd.ok ok)
  refine ⟨z, y, ys, r, o, es, ep, h1, h2, h3, h4 w, fun x hx => ?_, nd⟩
  have all : ∀ {l : List NEnt} {m : List (NestedKey × Addr × Value)}, Ents l m → (∀ x ∈ l, NOk H x) → ∀ x ∈ m, (nestedKind P w).is h x.1 x.2.1 := by
    intro l m q
    induction q with
    | nil => intro _ x hx; simp at hx
    | @cons p q ps qs hq t ih =>
      intro okl x hx
      rcases List.mem_cons.mp hx with e | hx
      · subst e
        obtain ⟨n1, n2, _⟩ := okl p List.mem_cons_self
        refine ⟨?_, by rw [← hq.1]; exact n2⟩
        rw [← hq.1, ← hq.2.1]
        exact NkV.is ok n1 rfl
      · exact ih (fun y hy => okl y (List.mem_cons_of_mem _ hy)) x hx
  exact all r D.ok x hx
theorem dNO_mk {xs : List NEnt} {ys : List (NestedKey × Addr × Value)} (z : xs.length ≤ sizeLine) (hd : (a == sysModules) = false) (r : Ents xs ys) (pl : ∀ x ∈ xs, plainK x.1 = true) (D : h.DictOfH (nestedKind P w) a ys) : ObjOk P w H h a (dNO a xs) := by
  obtain ⟨o, es, ep, h1, h2, h3, h4, _, nd⟩ := D
  refine ⟨⟨z, hd, ys, r, nd, o, es, ep, h1, h2, h3, fun w' => ?_⟩, ⟨o, h1⟩, ?_⟩
  · rw [h4]
    refine List.map_congr_left fun y hy => ?_
    have : plainK y.1 = true := by
      have all : ∀ {l : List NEnt} {m : List (NestedKey × Addr × Value)}, Ents l m → (∀ x ∈ l, plainK x.1 = true) → ∀ x ∈ m, plainK x.1 = true := by
        intro l m q
        induction q with
        | nil => intro _ x hx; simp at hx
        | @cons p q ps qs hq t ih =>
          intro okl x hx
          rcases List.mem_cons.mp hx with e | hx
          · subst e
            rw [← hq.1]; exact okl p List.mem_cons_self
          · exact ih (fun y hy => okl y (List.mem_cons_of_mem _ hy)) x hx
      exact all r pl y hy
    show (⟨y.1.hash w, .ref y.2.1, y.2.2⟩ : DictEntry) = _
    rw [plainK_hash w w' y.1 this]
  · rintro h1 h2 ⟨z, hd, ys, r, nd, o, es, ep, g1, g2, g3, g4⟩ st
    exact ⟨z, hd, ys, r, nd, o, es, ep, st o g1, g2, g3, g4⟩
end
section
variable {X : Cx} {pins : List (Addr × Obj)} {σ : L2.St} {H : Hp} {s : Shared} {a b : Addr} {xs : List NEnt} {k : NestedKey} {A : Around} {E : Value → Shared → Prop}
/-- a value that is such a key -/
structure KN (H : Hp) (k : NestedKey) (y : V) (b : Addr) : Prop where
  ref : y = .ref b
  nk : NkV H k (.ref b)
  dep : k.depth ≤ 8
  pl : plainK k = true
theorem KN.is {P : Program} {w : World} {h : Heap} {y : V} (q : KN H k y b) (ok : HOk P w H h) : (nestedKind P w).is h k b := ⟨NkV.is ok q.nk rfl, q.dep⟩
theorem room8 (hu : A.units + 65 < cLine) : (nestedKind X.prog X.w).room A.in1 := by
  show A.in1.units + 8 < cLine
  have : A.in1.units = A.units + 1 := rfl
  omega
def DGN (H : Hp) (a : Addr) (y : V) (r : Option V) : Prop := ∃ xs k b, DN H a xs ∧ KN H k y b ∧ r = valN xs k
theorem n_get {y v : V} {u : Value} {Q : Value → Shared → Prop} (hu : A.units + 65 < cLine) (I : Inv X pins σ H s) (g : DGN H a y (some v)) (ry : RelV y u) (q : ∀ u' s', Inv X pins σ H s' → RelV v u' → Q u' s') : wpAny (model X.prog X.w) A (getItem (.ref a) u) Q E s := by
  obtain ⟨xs, k, b, D, kn, l⟩ := g
  rw [kn.ref] at ry
  obtain rfl : u = Value.ref b := ry
  obtain ⟨_, _, ys, r, dd⟩ := D.at I.hok
  have rv := r.val k
  rw [← l] at rv
  obtain ⟨u', e, ru⟩ := RelO.some_of rv
  obtain ⟨p, hp, hp2⟩ := Option.map_eq_some_iff.mp e
  refine wpAny_getItem_heap (room8 hu) (kn.is I.hok) dd hp ?_
  rw [hp2]
  exact q u' _ (I.tok _) ru
theorem n_in {y : V} {u : Value} {o : Option V} {Q : Value → Shared → Prop} (hu : A.units + 65 < cLine) (I : Inv X pins σ H s) (g : DGN H a y o) (ry : RelV y u) (q : ∀ s', Inv X pins σ H s' → Q (.bool o.isSome) s') : wpAny (model X.prog X.w) A (compareOp .In u (.ref a)) Q E s := by
  obtain ⟨xs, k, b, D, kn, l⟩ := g
  rw [kn.ref] at ry
  obtain rfl : u = Value.ref b := ry
  obtain ⟨_, hd, ys, r, dd⟩ := D.at I.hok
  refine wpAny_in_heap (room8 hu) (kn.is I.hok) hd dd ?_
  have rv := (r.val k).isSome_eq
  rw [Option.isSome_map, ← l] at rv
  rw [← rv]
  exact q _ (I.tok _)
theorem n_notin {y : V} {u : Value} {o : Option V} {Q : Value → Shared → Prop} (hu : A.units + 65 < cLine) (I : Inv X pins σ H s) (g : DGN H a y o) (ry : RelV y u) (q : ∀ s', Inv X pins σ H s' → Q (.bool (!o.isSome)) s') : wpAny (model X.prog X.w) A (compareOp .NotIn u (.ref a)) Q E s := by
  obtain ⟨xs, k, b, D, kn, l⟩ := g
  rw [kn.ref] at ry
  obtain rfl : u = Value.ref b := ry
  obtain ⟨_, hd, ys, r, dd⟩ := D.at I.hok
  refine wpAny_notIn_heap (room8 hu) (kn.is I.hok) hd dd ?_
  have rv := (r.val k).isSome_eq
  rw [Option.isSome_map, ← l] at rv
  rw [← rv]
  exact q _ (I.tok _)
theorem n_type (I : Inv X pins σ H s) (D : DN H a xs) : s.TypeIs (.ref a) "dict" ∧ (∀ b, Value.ref a = .ref b → ∃ ob, s.heap.get? b = some ob ∧ ob.dict = none) ∧ (a == sysModules) = false := by
  obtain ⟨_, hd, ys, _, dd⟩ := D.at I.hok
  refine ⟨dd.typeIs, fun b e => ?_, hd⟩
  cases e
  obtain ⟨ob, _, _, h1, h2, _⟩ := dd
  exact ⟨ob, h1, h2.2.1⟩
theorem n_get1 {y : V} {u : Value} {o : Option V} {Q : Value → Shared → Prop} (hu : A.units + 65 < cLine) (I : Inv X pins σ H s) (g : DGN H a y o) (ry : RelV y u) (q : ∀ u' s', Inv X pins σ H s' → RelV (o.getD .non) u' → Q u' s') : wpAny (model X.prog X.w) A (call (.builtin "dict.get") [.ref a, u]) Q E s := by
  obtain ⟨xs, k, b, D, kn, l⟩ := g
  rw [kn.ref] at ry
  obtain rfl : u = Value.ref b := ry
  obtain ⟨_, hd, ys, r, dd⟩ := D.at I.hok
  refine call_meetsIn PySem.F.slot_dict_get dd.typeIs PySem.F.entry_dict_get (PySem.F.args_dict_get_2 _ _) (meetsH_dict_get (nestedKind X.prog X.w) a b hd) ⟨room8 hu, k, ys, kn.is I.hok, dd, q _ _ (I.tok _) ?_⟩
  rw [l]; exact (r.val k).getD rfl
theorem n_get2 {y d : V} {u t : Value} {o : Option V} {Q : Value → Shared → Prop} (hu : A.units + 65 < cLine) (I : Inv X pins σ H s) (g : DGN H a y o) (ry : RelV y u) (rd : RelV d t) (q : ∀ u' s', Inv X pins σ H s' → RelV (o.getD d) u' → Q u' s') : wpAny (model X.prog X.w) A (call (.builtin "dict.get") [.ref a, u, t]) Q E s := by
  obtain ⟨xs, k, b, D, kn, l⟩ := g
  rw [kn.ref] at ry
  obtain rfl : u = Value.ref b := ry
  obtain ⟨_, hd, ys, r, dd⟩ := D.at I.hok
  refine call_meetsIn PySem.F.slot_dict_get dd.typeIs PySem.F.entry_dict_get (PySem.F.args_dict_get_3 _ _ _) (meetsH_dict_get_default (nestedKind X.prog X.w) a b hd t) ⟨room8 hu, k, ys, kn.is I.hok, dd, q _ _ (I.tok _) ?_⟩
  rw [l]; exact (r.val k).getD rd
/-- the object at a is another one now -/
theorem n_write {h' : Heap} {t' : Nat} {k : NestedKey} {v : V} {u : Value} {ys : List (NestedKey × Addr × Value)} (I : Inv X pins σ H s) (W : DW H a xs) (kn : NOk H (k, b, v)) (r : Ents xs ys) (rv : RelV v u) (hl : xs.length < sizeLine) (hd : (a == sysModules) = false)
    (dd : h'.DictOfH (nestedKind X.prog X.w) a (storedH ys k b u)) (hs : Heap.SameBut a s.heap h') : Inv X pins σ (upd H a (dNO a (putN xs k b v))) { s with heap := h', toks := t' } := by
  have he : ∃ q, h'.get? a = some q := let ⟨q, _, _, hq, _⟩ := dd; ⟨q, hq⟩
  refine d_write I W.mut hs he (dNO_mk (by have := putN_len (xs := xs) (k := k) (b := b) (v := v); omega) hd (r.put k b rv) (fun x hx => ?_) dd)
  exact (putN_ok W.ok kn x hx).2.2
def DPN (H : Hp) (a : Addr) (y v : V) (H' : Hp) : Prop := ∃ xs k b, DW H a xs ∧ KN H k y b ∧ xs.length < sizeLine ∧ H' = upd H a (dNO a (putN xs k b v))
theorem n_put {y v : V} {u t : Value} {H' : Hp} {Q : Unit → Shared → Prop} (hu : A.units + 65 < cLine) (I : Inv X pins σ H s) (g : DPN H a y v H') (ry : RelV y u) (rv : RelV v t) (q : ∀ s', Inv X pins σ H' s' → Q () s') : wpAny (model X.prog X.w) A (setItem (.ref a) u t) Q E s := by
  obtain ⟨xs, k, b, W, kn, hl, rfl⟩ := g
  rw [kn.ref] at ry
  obtain rfl : u = Value.ref b := ry
  obtain ⟨z, hd, ys, r, dd⟩ := W.dn.at I.hok
  refine wpAny_setItem_heap (hsz := by rw [← Paired.length r]; exact z) (room8 hu) (kn.is I.hok) dd fun h' dd' hs => q _ ?_
  exact n_write I W ⟨kn.nk, kn.dep, kn.pl⟩ r rv hl hd dd' hs
theorem n_len {Q : Value → Shared → Prop} (I : Inv X pins σ H s) (D : DN H a xs) (q : ∀ t s', Inv X pins σ H s' → Q (.int xs.length t) s') : wpAny (model X.prog X.w) A (call (.builtin "len") [.ref a]) Q E s := by
  obtain ⟨z, hd, ys, r, dd⟩ := D.at I.hok
  have hl : xs.length = ys.length := Paired.length r
  refine call_len_dictH hd dd (by rw [← hl]; rw [sizeLine_eq] at z; omega) ?_
  have := q (s.toks + 1) _ (I.tok (s.toks + 1 + 1))
  rw [hl] at this
  exact this
end
/-! ### readings -/
def rGetN : R2 := fun x y H Q => ∃ a v, x = .ref a ∧ DGN H a y (some v) ∧ Q v H
def rInN (n : Bool → Bool) : R2 := fun y x H Q => ∃ a o, x = .ref a ∧ DGN H a y o ∧ Q (.bl (n o.isSome)) H
def rSetN : V → V → V → Hp → (Hp → Prop) → Prop := fun o i v H Q => ∃ a H4, o = .ref a ∧ DPN H a i v H4 ∧ Q H4
def tOpN (r : R2) (tx ty : TE) : TE := fun σ H Q => tx σ H fun x H1 => ty σ H1 fun y H2 => r x y H2 Q
section
variable {X : Cx} {o i e f : Expr} {pos apos cpos : Pos} {td ty tx : TE}
theorem pe_nget (hu : X.A.units + 65 < cLine) (ho : PE X o td) (hi : PE X i ty) (hs : NoSl i) : PE X (.Subscript o i pos) (tOpN rGetN td ty) := ⟨fun pins s σ H Q I h => by
  refine subD_of PySem.F.slot_dict_getitem.lookup hs (thn (ho.run pins s σ H _ I h) fun u s1 m1 => ?_)
  obtain ⟨x, H1, I1, rx, m1⟩ := m1
  refine thn (hi.run pins s1 σ H1 _ I1 m1) fun iv s2 m2 => ?_
  obtain ⟨y, H2, I2, ry, a, v, rfl, g, m2⟩ := m2
  obtain rfl : u = Value.ref a := rx
  obtain ⟨xs, k, b, D, _, _⟩ := id g
  exact ⟨(n_type I2 D).1, n_get hu I2 g ry fun w' s3 I3 rw' => ⟨v, H2, I3, rw', m2⟩⟩⟩
theorem pc_nin (hu : X.A.units + 65 < cLine) (hi : PE X i ty) (ho : PE X o td) : PC X .In i o (tOpN (rInN id) ty td) := ⟨fun pins s σ H Q I h => by
  refine thn (hi.run pins s σ H _ I h) fun iv s1 m1 => ?_
  obtain ⟨y, H1, I1, ry, m1⟩ := m1
  refine thn (ho.run pins s1 σ H1 _ I1 m1) fun u s2 m2 => ?_
  obtain ⟨x, H2, I2, rx, a, ov, rfl, g, m2⟩ := m2
  obtain rfl : u = Value.ref a := rx
  exact n_in hu I2 g ry fun s3 I3 => ⟨.bl ov.isSome, H2, I3, rfl, m2⟩⟩
theorem pc_nnotin (hu : X.A.units + 65 < cLine) (hi : PE X i ty) (ho : PE X o td) : PC X .NotIn i o (tOpN (rInN not) ty td) := ⟨fun pins s σ H Q I h => by
  refine thn (hi.run pins s σ H _ I h) fun iv s1 m1 => ?_
  obtain ⟨y, H1, I1, ry, m1⟩ := m1
  refine thn (ho.run pins s1 σ H1 _ I1 m1) fun u s2 m2 => ?_
  obtain ⟨x, H2, I2, rx, a, ov, rfl, g, m2⟩ := m2
  obtain rfl : u = Value.ref a := rx
  exact n_notin hu I2 g ry fun s3 I3 => ⟨.bl (!ov.isSome), H2, I3, rfl, m2⟩⟩
theorem set_dN (hu : X.A.units + 65 < cLine) : PSet X rSetN := by
  intro pins s σ H o i v ov iv u Q I ro ri rv h
  obtain ⟨a, H4, rfl, g, q⟩ := h
  cases ro
  exact n_put hu I g ri rv fun s' I' => ⟨H4, I', q⟩
/-! methods -/
def tGet1N (td ty : TE) : TE := fun σ H Q => td σ H fun x H1 => ∃ a xs, x = .ref a ∧ DN H1 a xs ∧ ty σ H1 fun y H2 => ∃ o, DGN H2 a y o ∧ Q (o.getD .non) H2
def tGet2N (td ty tx : TE) : TE := fun σ H Q => td σ H fun x H1 => ∃ a xs, x = .ref a ∧ DN H1 a xs ∧ ty σ H1 fun y H2 => tx σ H2 fun z H3 => ∃ o, DGN H3 a y o ∧ Q (o.getD z) H3
theorem pe_nget1 (hu : X.A.units + 65 < cLine) (ho : PE X o td) (he : PE X e ty) (m : M1 X o "get" apos e cpos) : PE X (.Call (.Attribute o "get" apos) [e] [] cpos) (tGet1N td ty) := ⟨fun pins s σ H Q I h => by
  refine wpAny_Call_method m.base m.few m.line PySem.F.plainAttrs_dict PySem.F.slot_dict_get PySem.F.type_dict_get (thn (ho.run pins s σ H _ I h) fun u s1 m1 => ?_)
  obtain ⟨x, H1, I1, rx, a, xs, rfl, d, m1⟩ := m1
  obtain rfl : u = Value.ref a := rx
  refine ⟨(n_type I1 d).1, (n_type I1 d).2.1, ?_⟩
  rw [m.trees]
  refine Calls.callWith_builtin rfl (Calls.evalArgs_plain (Calls.spliced_cons (thn (he.run pins s1 σ H1 _ I1 m1) fun iv s2 m2 => Calls.spliced_nil ?_)))
  obtain ⟨y, H2, I2, ry, ov, g, m2⟩ := m2
  exact n_get1 hu I2 g ry fun w' s3 I3 rw' => ⟨_, H2, I3, rw', m2⟩⟩
theorem pe_nget2 (hu : X.A.units + 65 < cLine) (ho : PE X o td) (he : PE X e ty) (hf : PE X f tx) (m : M2 X o "get" apos e f cpos) : PE X (.Call (.Attribute o "get" apos) [e, f] [] cpos) (tGet2N td ty tx) := ⟨fun pins s σ H Q I h => by
  refine wpAny_Call_method m.base m.few m.line PySem.F.plainAttrs_dict PySem.F.slot_dict_get PySem.F.type_dict_get (thn (ho.run pins s σ H _ I h) fun u s1 m1 => ?_)
  obtain ⟨x, H1, I1, rx, a, xs, rfl, d, m1⟩ := m1
  obtain rfl : u = Value.ref a := rx
  refine ⟨(n_type I1 d).1, (n_type I1 d).2.1, ?_⟩
  rw [m.trees]
  refine Calls.callWith_builtin rfl (Calls.evalArgs_plain (Calls.spliced_cons (thn (he.run pins s1 σ H1 _ I1 m1) fun iv s2 m2 => ?_)))
  obtain ⟨y, H2, I2, ry, m2⟩ := m2
  refine Calls.spliced_cons (thn (hf.run pins s2 σ H2 _ I2 m2) fun fv s3 m3 => Calls.spliced_nil ?_)
  obtain ⟨z, H3, I3, rz, ov, g, m3⟩ := m3
  exact n_get2 hu I3 g ry rz fun w' s4 I4 rw' => ⟨_, H3, I4, rw', m3⟩⟩
end
end SW
set_option maxHeartbeats 4000000
/-! a tuple, once or not at all -/
namespace SW
open PySem L2 PySem.Spec PyProof.Rows

theorem tuple_mul1 (l : Addr) (items : Array Value) (n : Nat) (sl : Array (Option Value)) (dd : Option Addr) (u : Tok) :
    Meets (Builtin.«tuple.__mul__» ⟨[.ref l, .int 1 u], []⟩) (fun _ R s => s.heap.get? l = some { cls := .type "tuple", dict := dd, data := .seq items n, slots := sl } ∧
      R (.ok (.ret (Value.ref l))) s) :=
  .of_wp fun prog w A R s h => by
    obtain ⟨hp, g, d, tk, os⟩ := s
    obtain ⟨hl, h⟩ := h
    have f1 := AutoSeq1.idx_int
    have c1 : (items.isEmpty || (1 : Int) == 1) = true := by simp
    wp_walk using wpAny_loadPart' hl
    repeat (first
      | (refine wpAny_ite_false (decide_eq_false (by decide)) ?_; wp_walk using wpAny_loadPart' hl)
      | (refine wpAny_ite_true (decide_eq_true c1) ?_; wp_walk using wpAny_loadPart' hl)
      | (refine wpAny_ite_true (by simp) ?_; wp_walk using wpAny_loadPart' hl))
    exact ⟨_, rfl, h⟩
theorem tuple_mul0 (l : Addr) (items : Array Value) (n : Nat) (sl : Array (Option Value)) (dd : Option Addr) (u : Tok) (he : items.isEmpty = false) :
    Meets (Builtin.«tuple.__mul__» ⟨[.ref l, .int 0 u], []⟩) (fun _ R s => s.heap.get? l = some { cls := .type "tuple", dict := dd, data := .seq items n, slots := sl } ∧
      R (.ok (.ret (Value.ref s.heap.objs.size))) { s with heap := s.heap.push { cls := Value.type "tuple", data := Data.seq #[] }, toks := s.toks }) :=
  .of_wp fun prog w A R s h => by
    obtain ⟨hp, g, d, tk, os⟩ := s
    obtain ⟨hl, h⟩ := h
    have f1 := AutoSeq1.idx_int
    have c1 : (items.isEmpty || (0 : Int) == 1) = false := by rw [he]; rfl
    wp_walk using wpAny_loadPart' hl
    repeat (first
      | (refine wpAny_ite_false (decide_eq_false (by rw [c1]; exact Bool.false_ne_true)) ?_; wp_walk using wpAny_loadPart' hl)
      | (refine wpAny_ite_false (decide_eq_false (by decide)) ?_; wp_walk using wpAny_loadPart' hl)
      | (refine wpAny_ite_true (decide_eq_true (by simp)) ?_; wp_walk using wpAny_loadPart' hl))
    exact ⟨_, rfl, h⟩
def rRep01 (K : PySem.W.Frag) : R2 := fun x y H Q => ∃ l k xs, x = .ref l ∧ y = .int k ∧ SqT K H l xs ∧ xs ≠ [] ∧ ((k = 1 ∧ Q (.ref l) H) ∨ (k = 0 ∧ ∀ p, H p = none → Q (.ref p) (upd H p (.tup []))))
theorem op_rep01 {X : Cx} : OpR X (binaryOp .Mult) (rRep01 X.K) := by
  intro pins s σ H x y v u Q I rx ry h
  obtain ⟨l, k, xs, rfl, rfl, hT, hne, q⟩ := h
  cases rx
  obtain ⟨t, rfl⟩ := ry
  obtain ⟨its, r, ⟨⟨cls, dd, data, sl⟩, ho, hc, n, hd⟩, hs⟩ := I.tuple hT
  simp only at hc hd
  subst hc hd
  have hle : its.length = xs.length := r.length.symm
  have hi : its.toArray.isEmpty = false := by
    cases its with
    | nil => exact absurd (List.eq_nil_of_length_eq_zero hle.symm) hne
    | cons a b => rfl
  rcases q with ⟨rfl, q⟩ | ⟨rfl, q⟩
  · exact wpAny_binaryOp_repeat_ref (T := "tuple") (U := "int") (by decide) ⟨_, ho, rfl⟩ (fun s' => typeIs_int s' 1 t) noFill_tuple_mul F.fills_int_mul F.slot_int_rmul repeat_tuple F.slot_int_index.lookup
      (call_meets F.slot_int_rmul (typeIs_int s 1 t) F.entry_int_rmul (F.args_int_rmul_2 _ _) (int_rmul_tuple 1 t l its.toArray n dd sl)
        ⟨ho, rfl, ⟨_, ho, rfl⟩, call_meets F.slot_tuple_mul ⟨_, ho, rfl⟩ F.entry_tuple_mul (F.args_tuple_mul_2 _ _) (tuple_mul1 l its.toArray n sl dd t) ⟨ho, ⟨.ref l, H, I, rfl, q⟩⟩⟩)
  · refine wpAny_binaryOp_repeat_ref (T := "tuple") (U := "int") (by decide) ⟨_, ho, rfl⟩ (fun s' => typeIs_int s' 0 t) noFill_tuple_mul F.fills_int_mul F.slot_int_rmul repeat_tuple F.slot_int_index.lookup
      (call_meets F.slot_int_rmul (typeIs_int s 0 t) F.entry_int_rmul (F.args_int_rmul_2 _ _) (int_rmul_tuple 0 t l its.toArray n dd sl)
        ⟨ho, rfl, ⟨_, ho, rfl⟩, call_meets F.slot_tuple_mul ⟨_, ho, rfl⟩ F.entry_tuple_mul (F.args_tuple_mul_2 _ _) (tuple_mul0 l its.toArray n sl dd t hi) ⟨ho, ?_⟩⟩)
    refine ⟨.ref s.heap.objs.size, _, I.laid (t' := s.toks) (o := .tup []) (fun b ob q => Heap.get?_push_of_some _ q) (Nat.le_refl _) ?_, rfl, q _ (I.hok.fresh (Nat.le_refl _))⟩
    exact ⟨by rw [sizeLine_eq]; simp, [], .nil, IsTup.new _ _⟩
end SW
namespace SW
open PySem L2

/-- where rules may be used: nothing is being handled, and there is room for k calls -/
structure Ok (X : Cx) (k : Nat) : Prop where
  calm : X.calm = true
  room : Room k X.A
theorem Ok.blk {X : Cx} {k : Nat} (o : Ok X k) {s : Shared} {H : Hp} {scope : Scope} {cenv : Env} {fp : List Addr} : Ok (X.blk s H scope cenv fp) k := ⟨o.calm, o.room⟩
theorem Ok.units {X : Cx} {k : Nat} (o : Ok X k) : X.A.units + 65 < cLine := by have := o.room.un; omega

/-! ### integers, texts, lists, tuples by operators -/
def small64 (i : Int) : Bool := decide (-(2 ^ 64) < i) && decide (i < 2 ^ 64)
def intsOf : List D → Option (List Int)
  | [] => some []
  | .int i :: ds => (intsOf ds).map (i :: ·)
  | _ => none
def isNilD : List D → Bool
  | [] => true
  | _ => false
def addD : D → D → Sto → Option (D × Sto)
  | .int i, .int j, S => some (.int (i + j), S)
  | .str x, .str y, S => if x.length + y.length ≤ 10000000 then some (.str (x ++ y), S) else none
  | .tup a, .tup b, S => if a.length + b.length ≤ 10000000 then some (.tup (a ++ b), S) else none
  | .loc m, .loc n, S => match S[m]?, S[n]? with
    | some (.lst a), some (.lst b) => if a.length + b.length ≤ 10000000 then some (newD (.lst (a ++ b)) S) else none
    | _, _ => none
  | .fl a, .loc n, S => match S[n]? with
    | some (.lst b) => if a.length + b.length ≤ 10000000 then some (newD (.lst (a ++ b)) S) else none
    | _ => none
  | _, _, _ => none
def subD : D → D → Sto → Option (D × Sto)
  | .int i, .int j, S => some (.int (i - j), S)
  | _, _, _ => none
def mulD : D → D → Sto → Option (D × Sto)
  | .int i, .int j, S => if small64 i || small64 j then some (.int (i * j), S) else none
  | .loc m, .int k, S => match S[m]? with
    | some (.lst a) => if -(2 ^ 63) ≤ k ∧ k < 2 ^ 63 ∧ a.length * k.toNat ≤ 10000000 then some (newD (.lst (List.replicate k.toNat a).flatten) S) else none
    | _ => none
  | .tup ds, .int k, S => if isNilD ds then none else if k = 1 then some (.tup ds, S) else if k = 0 then some (.tup [], S) else none
  | _, _, _ => none
def modD : D → D → Sto → Option (D × Sto)
  | .int i, .int j, S => if 0 < j then some (.int (i % j), S) else none
  | _, _, _ => none
def fdivD : D → D → Sto → Option (D × Sto)
  | .int i, .int j, S => if 0 < j ∧ j < 1073741824 then some (.int (i / j), S) else none
  | _, _, _ => none
def powD : D → D → Sto → Option (D × Sto)
  | .int i, .int j, S => if 0 ≤ j ∧ j ≤ 1000000 ∧ i.natAbs < 2 ^ 64 then some (.int (i ^ j.toNat), S) else none
  | _, _, _ => none
/-! comparisons -/
def ltD : D → D → Sto → Option (D × Sto)
  | .int i, .int j, S => some (.bl (decide (i < j)), S)
  | .tup a, .tup b, S => match intsOf a, intsOf b with
    | some ns, some ms => some (.bl (HT.lexLt ns ms), S)
    | _, _ => none
  | _, _, _ => none
def gtD : D → D → Sto → Option (D × Sto)
  | .int i, .int j, S => some (.bl (decide (j < i)), S)
  | _, _, _ => none
def geD : D → D → Sto → Option (D × Sto)
  | .int i, .int j, S => some (.bl (decide (j ≤ i)), S)
  | _, _, _ => none
def lexLe (ns ms : List Int) : Bool := Ob.lexAt (fun j => decide (ns.getD j 0 = ms.getD j 0)) (fun j => decide (ns.getD j 0 ≤ ms.getD j 0)) (decide (ns.length ≤ ms.length)) 0 (min ns.length ms.length)
def leD : D → D → Sto → Option (D × Sto)
  | .int i, .int j, S => some (.bl (decide (i ≤ j)), S)
  | .tup a, .tup b, S => match intsOf a, intsOf b with
    | some ns, some ms => some (.bl (lexLe ns ms), S)
    | _, _ => none
  | _, _, _ => none
def isNonD : D → Bool
  | .non => true
  | _ => false
/-- is, is not: None, or two truths -/
def isD : D → D → Sto → Option (D × Sto)
  | x, .non, S => some (.bl (isNonD x), S)
  | .bl a, .bl b, S => some (.bl (decide (a = b)), S)
  | _, _, _ => none
def isNotD : D → D → Sto → Option (D × Sto)
  | x, .non, S => some (.bl (!isNonD x), S)
  | .bl a, .bl b, S => some (.bl (!decide (a = b)), S)
  | _, _, _ => none
/-! data as the model's own trees: lists are looked up in the store, n deep -/
mutual
def pyD (g : Nat → Option PyData) : D → Option PyData
  | .non => some .none
  | .bl b => some (.bool b)
  | .int i => some (.int i)
  | .str x => some (.str x)
  | .tup ds => (pyDs g ds).map .tuple
  | .fl ds => (pyDs g ds).map .list
  | .loc n => g n
  | .ty _ => none
def pyDs (g : Nat → Option PyData) : List D → Option (List PyData)
  | [] => some []
  | d :: ds => (pyD g d).bind fun p => (pyDs g ds).map (p :: ·)
end
def pyL (S : Sto) : Nat → Nat → Option PyData
  | 0, _ => none
  | n + 1, k => match S[k]? with
    | some (.lst ds) => (pyDs (pyL S n) ds).map .list
    | _ => none
def pyOf (S : Sto) (d : D) : Option PyData := (pyD (pyL S 4) d).bind fun p => if SeqAt.shaped p then some p else none
def eqD (x y : D) (S : Sto) : Option (D × Sto) := (pyOf S x).bind fun p => (pyOf S y).map fun q => (.bl (PyData.eqv p q), S)
def neD (x y : D) (S : Sto) : Option (D × Sto) := (pyOf S x).bind fun p => (pyOf S y).map fun q => (.bl (!PyData.eqv p q), S)

section
variable {X : Cx} {K : PySem.W.Frag} {ρ : List Addr} {S : Sto} {H : Hp}
mutual
theorem dp_of {g : Nat → Option PyData} (R : RelS K ρ S H) (hg : ∀ n p v, g n = some p → RelD K ρ H (.loc n) v → Dp K H v p) : ∀ (d : D) (v : V) (p : PyData), RelD K ρ H d v → pyD g d = some p → Dp K H v p
  | .non, _, _, r, e => by rw [r.non_]; cases e; exact .non
  | .bl b, _, _, r, e => by rw [r.bl_]; cases e; exact .bl b
  | .int b, _, _, r, e => by rw [r.int_]; cases e; exact .int b
  | .str b, _, _, r, e => by rw [r.str_]; cases e; exact .str b
  | .ty b, _, _, r, e => by cases e
  | .loc n, _, _, r, e => hg n _ _ e r
  | .tup ds, _, _, r, e => by
    obtain ⟨a, xs, rfl, h, q⟩ := r.tup_
    simp only [pyD, Option.map_eq_some_iff] at e
    obtain ⟨ps, e, rfl⟩ := e
    exact .tup (SqT.of h) (dps_of R hg ds xs ps q e)
  | .fl ds, _, _, r, e => by
    obtain ⟨a, xs, rfl, h, q⟩ := r.fl_
    simp only [pyD, Option.map_eq_some_iff] at e
    obtain ⟨ps, e, rfl⟩ := e
    exact .lst h.sqL (dps_of R hg ds xs ps q e)
theorem dps_of {g : Nat → Option PyData} (R : RelS K ρ S H) (hg : ∀ n p v, g n = some p → RelD K ρ H (.loc n) v → Dp K H v p) : ∀ (ds : List D) (vs : List V) (ps : List PyData), RelDs K ρ H ds vs → pyDs g ds = some ps → DpAll K H vs ps
  | [], _, _, r, e => by cases e; simp only [RelDs] at r; subst r; exact .nil
  | d :: ds, _, _, r, e => by
    simp only [RelDs] at r
    obtain ⟨x, ys, rfl, r1, r2⟩ := r
    simp only [pyDs] at e
    obtain ⟨p, e1, e⟩ := bindE e
    rw [Option.map_eq_some_iff] at e
    obtain ⟨ps, e2, rfl⟩ := e
    exact .cons (dp_of R hg d x p r1 e1) (dps_of R hg ds ys ps r2 e2)
end
theorem dp_L (R : RelS K ρ S H) : ∀ (m n : Nat) (p : PyData) (v : V), pyL S m n = some p → RelD K ρ H (.loc n) v → Dp K H v p
  | 0, _, _, _, e, _ => by cases e
  | m + 1, n, p, v, e, r => by
    simp only [pyL] at e
    split at e
    · rename_i ds eo
      rw [Option.map_eq_some_iff] at e
      obtain ⟨ps, e, rfl⟩ := e
      obtain ⟨a, xs, rfl, _, h, q⟩ := R.lst eo r
      exact .lst (SqL.of h) (dps_of R (fun n p v => dp_L R m n p v) ds xs ps q e)
    · cases e
theorem dp_py (R : RelS K ρ S H) {d : D} {v : V} {p : PyData} (r : RelD K ρ H d v) (e : pyOf S d = some p) : Dp K H v p ∧ SeqAt.shaped p = true := by
  obtain ⟨q, e1, e⟩ := bindE e
  split at e
  · cases e
    rename_i h
    exact ⟨dp_of R (fun n p v => dp_L R 4 n p v) d v _ r e1, h⟩
  · cases e
theorem op2_eq : Op2 K (rEqD K) eqD := fun ρ S H x y v w d S' R r1 r2 e Q k => by
  obtain ⟨p, e1, e⟩ := bindE e
  rw [Option.map_eq_some_iff] at e
  obtain ⟨q, e2, e⟩ := e
  cases e
  obtain ⟨h1, s1⟩ := dp_py R r1 e1
  obtain ⟨h2, s2⟩ := dp_py R r2 e2
  exact ⟨p, q, h1, h2, s1, s2, k _ _ _ (Post.refl R) (RelD.bl _)⟩
theorem op2_ne : Op2 K (rNeD K) neD := fun ρ S H x y v w d S' R r1 r2 e Q k => by
  obtain ⟨p, e1, e⟩ := bindE e
  rw [Option.map_eq_some_iff] at e
  obtain ⟨q, e2, e⟩ := e
  cases e
  obtain ⟨h1, s1⟩ := dp_py R r1 e1
  obtain ⟨h2, s2⟩ := dp_py R r2 e2
  exact ⟨p, q, h1, h2, s1, s2, k _ _ _ (Post.refl R) (RelD.bl _)⟩
theorem intsOf_rel {ds : List D} : ∀ {xs : List V} {ns : List Int}, RelDs K ρ H ds xs → intsOf ds = some ns → xs = ns.map V.int := by
  induction ds with
  | nil => intro xs ns r e; cases e; simp only [RelDs] at r; subst r; rfl
  | cons d ds ih =>
    intro xs ns r e
    cases d with
    | int i =>
      simp only [intsOf, Option.map_eq_some_iff] at e
      obtain ⟨ns, e, rfl⟩ := e
      simp only [RelDs] at r
      obtain ⟨x, ys, rfl, r1, r2⟩ := r
      rw [r1.int_, ih r2 e]; rfl
    | _ => cases e
/-- an answer that is flat, the store as it was -/
abbrev kRefl (R : RelS K ρ S H) {Q : VK} {v : V} {d : D} (k : ∀ ρ' u H', Post K ρ H ρ' H' S → RelD K ρ' H' d u → Q u H') (r : RelD K ρ H d v) : Q v H := k ρ v H (Post.refl R) r

/-- a list that is read (frozen too) and one that is tracked -/
def rCatF (K : PySem.W.Frag) : R2 := fun x y H Q => ∃ l b xs zs, x = .ref l ∧ y = .ref b ∧ SqL K H l xs ∧ H b = some (.lst zs) ∧ xs.length + zs.length ≤ sizeLine ∧ ∀ p, H p = none → Q (.ref p) (upd H p (.lst (xs ++ zs)))
theorem op_catF : OpR X (binaryOp .Add) (rCatF X.K) := by
  intro pins s σ H x y v u Q I rx ry h
  obtain ⟨l, b, xs, zs, rfl, rfl, hH, hB, hz, q⟩ := h
  cases rx
  cases ry
  obtain ⟨its, r, ⟨⟨cls, dd, data, sl⟩, n, e, hc, _, hd⟩, hl⟩ := I.list hH
  obtain ⟨its2, r2, ⟨⟨cls2, dd2, data2, sl2⟩, n2, e2, hc2, _, hd2⟩, hl2⟩ := I.list (SqL.of hB)
  simp only at hc hd hc2 hd2
  subst hc hd hc2 hd2
  have z1 := r.length
  have z2 := r2.length
  refine concat_meets ⟨_, e, rfl⟩ ⟨_, e2, rfl⟩ noFill_list_add seq_list_add PySem.F.slot_list_add PySem.F.entry_list_add (PySem.F.args_list_add_2 _ _) (PyProof.Rows.list_addW l b its.toArray its2.toArray n n2 dd dd2 sl sl2 (by rw [List.size_toArray, List.size_toArray]; omega)) ⟨e, e2, ?_⟩
  have ea : its.toArray ++ its2.toArray = (its ++ its2).toArray := by simp
  rw [ea]
  exact ⟨.ref _, _, I.lnew (t' := s.toks) (r.append r2) (by rw [List.length_append]; omega), rfl, q _ I.fresh⟩
def rAddE (K : PySem.W.Frag) : R2 := fun x y H Q => (rI0 (fun i j => .int (i + j)) x y H Q ∨ (∃ i j, x = .str i ∧ y = .str j ∧ i.length + j.length ≤ sizeLine ∧ Q (.str (i ++ j)) H)) ∨ (rCatA K x y H Q ∨ (rCat x y H Q ∨ rCatF K x y H Q))
theorem opr_add : OpR X (binaryOp .Add) (rAddE X.K) := orO (orO op_add op_add_str) (orO op_catA (orO op_cat op_catF))
theorem op2_add : Op2 K (rAddE K) addD := fun ρ S H x y v w d S' R r1 r2 e Q k => by
  cases x <;> cases y <;> simp only [addD] at e <;> try cases e
  · rw [r1.int_, r2.int_]
    exact .inl (.inl ⟨_, _, rfl, rfl, kRefl R k (RelD.int _)⟩)
  · split at e
    · rename_i hl; cases e
      rw [r1.str_, r2.str_]
      exact .inl (.inr ⟨_, _, rfl, rfl, line_of hl, kRefl R k (RelD.str _)⟩)
    · cases e
  · split at e
    · rename_i hl; cases e
      obtain ⟨a, xs, rfl, h1, q1⟩ := r1.tup_
      obtain ⟨b, ys, rfl, h2, q2⟩ := r2.tup_
      have l1 := q1.len
      have l2 := q2.len
      refine .inr (.inl ⟨a, b, xs, ys, rfl, rfl, SqT.of h1, SqT.of h2, line_of (by omega), fun z => ?_, fun z1 z2 => ?_, fun z1 z2 p hp => ?_⟩)
      · subst z
        have q := q1.app q2
        exact kRefl R k (RelD.tup h2 q)
      · subst z2
        have q := q1.app q2
        rw [List.append_nil] at q
        exact kRefl R k (RelD.tup h1 q)
      · obtain ⟨P, r⟩ := R.new_tup hp (q1.app q2)
        exact k _ _ _ P r
    · cases e
  · split at e
    · rename_i b e2
      split at e
      · rename_i hl; cases e
        obtain ⟨a', xs, rfl, h1, q1⟩ := r1.fl_
        obtain ⟨b', ys, rfl, _, h2, q2⟩ := R.lst e2 r2
        have l1 := q1.len
        have l2 := q2.len
        refine .inr (.inr (.inr ⟨a', b', xs, ys, rfl, rfl, h1.sqL, h2, line_of (by omega), fun p hp => ?_⟩))
        obtain ⟨P, r⟩ := new_lst R hp (q1.app q2)
        exact k _ _ _ P r
      · cases e
    · cases e
  · split at e
    · rename_i a b e1 e2
      split at e
      · rename_i hl; cases e
        obtain ⟨a', xs, rfl, _, h1, q1⟩ := R.lst e1 r1
        obtain ⟨b', ys, rfl, _, h2, q2⟩ := R.lst e2 r2
        have l1 := q1.len
        have l2 := q2.len
        refine .inr (.inr (.inl ⟨a', b', xs, ys, rfl, rfl, h1, h2, line_of (by omega), fun p hp => ?_⟩))
        obtain ⟨P, r⟩ := new_lst R hp (q1.app q2)
        exact k _ _ _ P r
      · cases e
    · cases e
def rMulE (K : PySem.W.Frag) : R2 := fun x y H Q => (rI CMul (fun i j => .int (i * j)) x y H Q ∨ rRep x y H Q) ∨ rRep01 K x y H Q
theorem opr_mul : OpR X (binaryOp .Mult) (rMulE X.K) := orO (orO op_mul op_rep) op_rep01
theorem rep_rel {ds : List D} {xs : List V} (h : RelDs K ρ H ds xs) : ∀ n : Nat, RelDs K ρ H (List.replicate n ds).flatten (List.replicate n xs).flatten
  | 0 => .nil
  | n + 1 => by simp only [List.replicate_succ, List.flatten_cons]; exact h.app (rep_rel h n)
theorem op2_mul : Op2 K (rMulE K) mulD := fun ρ S H x y v w d S' R r1 r2 e Q k => by
  cases x <;> cases y <;> simp only [mulD] at e <;> try cases e
  · split at e
    · rename_i hl; cases e
      rw [r1.int_, r2.int_]
      refine .inl (.inl ⟨_, _, rfl, rfl, ?_, kRefl R k (RelD.int _)⟩)
      simp only [small64, Bool.or_eq_true, Bool.and_eq_true, decide_eq_true_eq] at hl
      exact hl
    · cases e
  · rename_i ds kk
    split at e
    · cases e
    · rename_i hne
      obtain ⟨a', xs, rfl, h1, q1⟩ := r1.tup_
      rw [r2.int_]
      have hx : xs ≠ [] := fun z => hne (by
        subst z
        cases ds with
        | nil => rfl
        | cons d ds => simp [RelDs] at q1)
      split at e
      · rename_i h
        subst h; cases e
        exact .inr ⟨a', 1, xs, rfl, rfl, SqT.of h1, hx, .inl ⟨rfl, kRefl R k r1⟩⟩
      · split at e
        · rename_i h
          subst h; cases e
          refine .inr ⟨a', 0, xs, rfl, rfl, SqT.of h1, hx, .inr ⟨rfl, fun p hp => ?_⟩⟩
          obtain ⟨P, r⟩ := R.new_tup hp (ds := []) (xs := []) .nil
          exact k _ _ _ P r
        · cases e
  · split at e
    · rename_i a e1
      split at e
      · rename_i hl; cases e
        obtain ⟨a', xs, rfl, _, h1, q1⟩ := R.lst e1 r1
        rw [r2.int_]
        refine .inl (.inr ⟨a', _, xs, rfl, rfl, h1, hl.1, hl.2.1, line_of (by rw [q1.len]; exact hl.2.2), fun p hp => ?_⟩)
        obtain ⟨P, r⟩ := new_lst R hp (rep_rel q1 _)
        exact k _ _ _ P r
      · cases e
    · cases e
theorem op2_mod : Op2 K (rI (fun _ j => j ≠ 0) fun i j => .int (i.fmod j)) modD := fun ρ S H x y v w d S' R r1 r2 e Q k => by
  cases x <;> cases y <;> simp only [modD] at e <;> try cases e
  split at e
  · rename_i i j hl; cases e
    rw [r1.int_, r2.int_]
    exact ⟨_, _, rfl, rfl, by omega, by
      show Q (.int (i.fmod j)) H
      rw [Int.fmod_eq_emod_of_nonneg _ (by omega)]; exact kRefl R k (RelD.int _)⟩
  · cases e
theorem op2_fdiv : Op2 K (rI CDiv fun i j => .int (i / j)) fdivD := fun ρ S H x y v w d S' R r1 r2 e Q k => by
  cases x <;> cases y <;> simp only [fdivD] at e <;> try cases e
  split at e
  · rename_i hl; cases e
    rw [r1.int_, r2.int_]
    exact ⟨_, _, rfl, rfl, hl, kRefl R k (RelD.int _)⟩
  · cases e
theorem op2_pow : Op2 K (rI CPow fun i j => .int (i ^ j.toNat)) powD := fun ρ S H x y v w d S' R r1 r2 e Q k => by
  cases x <;> cases y <;> simp only [powD] at e <;> try cases e
  split at e
  · rename_i hl; cases e
    rw [r1.int_, r2.int_]
    exact ⟨_, _, rfl, rfl, hl, kRefl R k (RelD.int _)⟩
  · cases e
def rLtE (K : PySem.W.Frag) : R2 := fun x y H Q => rI0 (fun i j => .bl (decide (i < j))) x y H Q ∨ rLtT K x y H Q
theorem opr_lt {k : Nat} (hc : Ok X k) : OpR X (compareOp .Lt) (rLtE X.K) := orO op_lt (op_ltT hc.room.units0)
theorem op2_lt : Op2 K (rLtE K) ltD := fun ρ S H x y v w d S' R r1 r2 e Q k => by
  cases x <;> cases y <;> simp only [ltD] at e <;> try cases e
  · rw [r1.int_, r2.int_]
    exact .inl ⟨_, _, rfl, rfl, kRefl R k (RelD.bl _)⟩
  · split at e
    · rename_i ns ms e1 e2; cases e
      obtain ⟨a, xs, rfl, h1, q1⟩ := r1.tup_
      obtain ⟨b, ys, rfl, h2, q2⟩ := r2.tup_
      rw [intsOf_rel q1 e1] at h1
      rw [intsOf_rel q2 e2] at h2
      exact .inr ⟨a, b, ns, ms, rfl, rfl, SqT.of h1, SqT.of h2, kRefl R k (RelD.bl _)⟩
    · cases e
def rLeE (K : PySem.W.Frag) : R2 := fun x y H Q => rI0 (fun i j => .bl (decide (i ≤ j))) x y H Q ∨ rLeT K x y H Q
theorem opr_le {k : Nat} (hc : Ok X k) : OpR X (compareOp .LtE) (rLeE X.K) := orO op_le (op_leT hc.room.units0)
theorem op2_le : Op2 K (rLeE K) leD := fun ρ S H x y v w d S' R r1 r2 e Q k => by
  cases x <;> cases y <;> simp only [leD] at e <;> try cases e
  · rw [r1.int_, r2.int_]
    exact .inl ⟨_, _, rfl, rfl, kRefl R k (RelD.bl _)⟩
  · split at e
    · rename_i ns ms e1 e2; cases e
      obtain ⟨a, xs, rfl, h1, q1⟩ := r1.tup_
      obtain ⟨b, ys, rfl, h2, q2⟩ := r2.tup_
      rw [intsOf_rel q1 e1] at h1
      rw [intsOf_rel q2 e2] at h2
      exact .inr ⟨a, b, ns, ms, rfl, rfl, SqT.of h1, SqT.of h2, kRefl R k (RelD.bl _)⟩
    · cases e
theorem op2_gt : Op2 K (rI0 fun i j => .bl (decide (j < i))) gtD := fun ρ S H x y v w d S' R r1 r2 e Q k => by
  cases x <;> cases y <;> simp only [gtD] at e <;> try cases e
  rw [r1.int_, r2.int_]
  exact ⟨_, _, rfl, rfl, kRefl R k (RelD.bl _)⟩
theorem op2_ge : Op2 K (rI0 fun i j => .bl (decide (j ≤ i))) geD := fun ρ S H x y v w d S' R r1 r2 e Q k => by
  cases x <;> cases y <;> simp only [geD] at e <;> try cases e
  rw [r1.int_, r2.int_]
  exact ⟨_, _, rfl, rfl, kRefl R k (RelD.bl _)⟩
theorem isNon_rel {d : D} {v : V} (r : RelD K ρ H d v) : decide (v = .non) = isNonD d := by
  cases d with
  | non => rw [r.non_]; rfl
  | bl b => rw [r.bl_]; rfl
  | int b => rw [r.int_]; rfl
  | str b => rw [r.str_]; rfl
  | ty b => rw [r.ty_]; rfl
  | tup b => obtain ⟨a, xs, rfl, _⟩ := r.tup_; rfl
  | fl b => obtain ⟨a, xs, rfl, _⟩ := r.fl_; rfl
  | loc b => obtain ⟨a, _, rfl⟩ := r.loc_; rfl
def rIsE : R2 := fun x y H Q => (y = .non ∧ Q (.bl (decide (x = .non))) H) ∨ ∃ a b, x = .bl a ∧ y = .bl b ∧ Q (.bl (decide (a = b))) H
theorem opr_is : OpR X (compareOp .Is) rIsE := orO op_isN op_is_bl
theorem op2_is : Op2 K rIsE isD := fun ρ S H x y v w d S' R r1 r2 e Q k => by
  cases y with
  | non =>
    have e' : some ((D.bl (isNonD x)), S) = some (d, S') := by rw [← e]; cases x <;> rfl
    cases e'
    exact .inl ⟨r2.non_, by rw [isNon_rel r1]; exact kRefl R k (RelD.bl _)⟩
  | bl b =>
    cases x <;> try cases e
    rw [r1.bl_, r2.bl_]
    exact .inr ⟨_, _, rfl, rfl, kRefl R k (RelD.bl _)⟩
  | _ => cases x <;> cases e
def rIsNotE : R2 := fun x y H Q => (y = .non ∧ Q (.bl (!decide (x = .non))) H) ∨ ∃ a b, x = .bl a ∧ y = .bl b ∧ Q (.bl (!decide (a = b))) H
theorem opr_isnot : OpR X (compareOp .IsNot) rIsNotE := orO op_notN op_isnot_bl
theorem op2_isnot : Op2 K rIsNotE isNotD := fun ρ S H x y v w d S' R r1 r2 e Q k => by
  cases y with
  | non =>
    have e' : some ((D.bl (!isNonD x)), S) = some (d, S') := by rw [← e]; cases x <;> rfl
    cases e'
    exact .inl ⟨r2.non_, by rw [isNon_rel r1]; exact kRefl R k (RelD.bl _)⟩
  | bl b =>
    cases x <;> try cases e
    rw [r1.bl_, r2.bl_]
    exact .inr ⟨_, _, rfl, rfl, kRefl R k (RelD.bl _)⟩
  | _ => cases x <;> cases e
def negD : D → Sto → Option (D × Sto)
  | .int i, S => some (.int (-i), S)
  | _, _ => none
theorem op1_neg : Op1 K (rU fun i => .int (-i)) negD := fun ρ S H x v d S' R r e Q k => by
  cases x <;> cases e
  rw [r.int_]
  exact ⟨_, rfl, kRefl R k (RelD.int _)⟩
end
end SW
namespace SW
open PySem L2

/-! ### dicts -/
section
variable {κ : Type} [DecidableEq κ]
def lk (kvs : List (κ × D)) (k : κ) : Option D := (kvs.find? fun kv => decide (kv.1 = k)).map (·.2)
def ptK (kvs : List (κ × D)) (k : κ) (v : D) : List (κ × D) :=
  if (kvs.any fun kv => decide (kv.1 = k)) = true then kvs.map (fun kv => if kv.1 = k then (kv.1, v) else kv) else kvs ++ [(k, v)]
variable {K : PySem.W.Frag} {ρ : List Addr} {H : Hp}
theorem RelKV.nil : RelKV K ρ H ([] : List (κ × D)) [] := ⟨rfl, .nil⟩
theorem RelKV.split {k : κ} {d : D} {kds : List (κ × D)} {kvs : List (κ × V)} (h : RelKV K ρ H ((k, d) :: kds) kvs) : ∃ v r, kvs = (k, v) :: r ∧ RelD K ρ H d v ∧ RelKV K ρ H kds r := by
  obtain ⟨h1, h2⟩ := h
  cases kvs with
  | nil => simp at h1
  | cons p r =>
    simp only [List.map_cons, List.cons.injEq] at h1
    simp only [List.map_cons, RelDs] at h2
    obtain ⟨x, ys, e, r1, r2⟩ := h2
    cases e
    obtain ⟨a, b⟩ := p
    obtain ⟨rfl, h1⟩ := h1
    exact ⟨b, r, rfl, r1, h1, r2⟩
theorem RelKV.cons {k : κ} {d : D} {v : V} {kds : List (κ × D)} {kvs : List (κ × V)} (r : RelD K ρ H d v) (h : RelKV K ρ H kds kvs) : RelKV K ρ H ((k, d) :: kds) ((k, v) :: kvs) :=
  ⟨by simp [h.1], by simp only [List.map_cons, RelDs]; exact ⟨v, _, rfl, r, h.2⟩⟩
theorem RelKV.nil_ {kvs : List (κ × V)} (h : RelKV K ρ H ([] : List (κ × D)) kvs) : kvs = [] := by
  have := h.1; simpa using this
theorem RelKV.lk {k : κ} : ∀ {kds : List (κ × D)} {kvs : List (κ × V)}, RelKV K ρ H kds kvs → (∀ d, SW.lk kds k = some d → ∃ v, valV kvs k = some v ∧ RelD K ρ H d v) ∧ (SW.lk kds k = none → valV kvs k = none)
  | [], kvs, h => by rw [h.nil_]; exact ⟨fun d e => (nomatch e), fun _ => rfl⟩
  | (j, d) :: kds, kvs, h => by
    obtain ⟨v, r, rfl, h1, h2⟩ := h.split
    have ih := RelKV.lk (k := k) h2
    by_cases e : j = k
    · have e1 : SW.lk ((j, d) :: kds) k = some d := by simp [SW.lk, List.find?_cons, e]
      have e2 : valV ((j, v) :: r) k = some v := valV_pos (p := (j, v)) e
      rw [e1, e2]
      refine ⟨fun d' q => ?_, fun q => nomatch q⟩
      cases q
      exact ⟨v, rfl, h1⟩
    · have e1 : SW.lk ((j, d) :: kds) k = SW.lk kds k := by simp [SW.lk, List.find?_cons, e]
      have e2 : valV ((j, v) :: r) k = valV r k := valV_neg (p := (j, v)) e
      rw [e1, e2]
      exact ih
theorem RelKV.isSome {k : κ} {kds : List (κ × D)} {kvs : List (κ × V)} (h : RelKV K ρ H kds kvs) : (valV kvs k).isSome = (SW.lk kds k).isSome := by
  obtain ⟨h1, h2⟩ := h.lk (k := k)
  cases e : SW.lk kds k with
  | none => rw [h2 e]; rfl
  | some d => obtain ⟨v, ev, _⟩ := h1 d e; rw [ev]; rfl
theorem RelKV.any {k : κ} {kds : List (κ × D)} {kvs : List (κ × V)} (h : RelKV K ρ H kds kvs) : (kvs.any fun kv => decide (kv.1 = k)) = (kds.any fun kv => decide (kv.1 = k)) := by
  have h1 : (kvs.map (·.1)).any (fun x => decide (x = k)) = (kds.map (·.1)).any (fun x => decide (x = k)) := by rw [h.1]
  rw [List.any_map, List.any_map] at h1
  exact h1
theorem RelKV.app {as bs : List (κ × D)} {vs ws : List (κ × V)} (h : RelKV K ρ H as vs) (g : RelKV K ρ H bs ws) : RelKV K ρ H (as ++ bs) (vs ++ ws) :=
  ⟨by simp [h.1, g.1], by rw [List.map_append, List.map_append]; exact h.2.app g.2⟩
theorem RelKV.upd {k : κ} {d : D} {v : V} (r : RelD K ρ H d v) : ∀ {kds : List (κ × D)} {kvs : List (κ × V)}, RelKV K ρ H kds kvs →
    RelKV K ρ H (kds.map fun kv => if kv.1 = k then (kv.1, d) else kv) (kvs.map fun kv => if kv.1 = k then (kv.1, v) else kv)
  | [], kvs, h => by rw [h.nil_]; exact .nil
  | (j, e) :: kds, kvs, h => by
    obtain ⟨w, r', rfl, h1, h2⟩ := h.split
    have ih := RelKV.upd (k := k) r h2
    simp only [List.map_cons]
    by_cases e : j = k
    · rw [if_pos e, if_pos e]; exact .cons r ih
    · rw [if_neg e, if_neg e]; exact .cons h1 ih
theorem RelKV.put {k : κ} {d : D} {v : V} {kds : List (κ × D)} {kvs : List (κ × V)} (h : RelKV K ρ H kds kvs) (r : RelD K ρ H d v) : RelKV K ρ H (ptK kds k d) (putK kvs k v) := by
  unfold ptK putK
  rw [h.any]
  split
  · exact h.upd r
  · exact h.app (.cons r .nil)
theorem RelKV.len {kds : List (κ × D)} {kvs : List (κ × V)} (h : RelKV K ρ H kds kvs) : kvs.length = kds.length := by
  have := congrArg List.length h.1; simpa using this
end
def kOf : D → Option Key
  | .int i => some (.inl i)
  | .str x => some (.inr x)
  | _ => none
def ksOf : List D → Option (List Key)
  | [] => some []
  | d :: ds => (kOf d).bind fun k => (ksOf ds).map (k :: ·)
def tOf : D → Option (List Key)
  | .tup ds => ksOf ds
  | _ => none
section
variable {X : Cx} {K : PySem.W.Frag} {ρ : List Addr} {S : Sto} {H : Hp}
theorem kOf_rel {d : D} {v : V} {k : Key} (r : RelD K ρ H d v) (e : kOf d = some k) : v = kV k := by
  cases d <;> cases e
  · exact r.int_
  · exact r.str_
theorem ksOf_rel {ds : List D} : ∀ {vs : List V} {ks : List Key}, RelDs K ρ H ds vs → ksOf ds = some ks → vs = ks.map kV := by
  induction ds with
  | nil => intro vs ks r e; cases e; simp only [RelDs] at r; subst r; rfl
  | cons d ds ih =>
    intro vs ks r e
    obtain ⟨k, e1, e⟩ := bindE e
    rw [Option.map_eq_some_iff] at e
    obtain ⟨ks', e2, rfl⟩ := e
    simp only [RelDs] at r
    obtain ⟨x, ys, rfl, r1, r2⟩ := r
    rw [kOf_rel r1 e1, ih r2 e2]; rfl
theorem tOf_rel {d : D} {v : V} {ks : List Key} (r : RelD K ρ H d v) (e : tOf d = some ks) : ∃ b, v = .ref b ∧ H b = some (.tup (ks.map kV)) := by
  cases d <;> simp only [tOf] at e <;> try cases e
  obtain ⟨a, xs, rfl, h, q⟩ := r.tup_
  rw [ksOf_rel q e] at h
  exact ⟨a, rfl, h⟩

/-! ### o[i] -/
def ixD : D → D → Sto → Option (D × Sto)
  | .tup ds, .int i, S => (atI ds i).map fun d => (d, S)
  | .fl ds, .int i, S => (atI ds i).map fun d => (d, S)
  | .str z, .int i, S => if z.length ≤ 10000000 then (atI z.cps.toList i).map fun c => (.str ⟨#[c]⟩, S) else none
  | .loc n, .int i, S => match S[n]? with
    | some (.lst ds) => (atI ds i).map fun d => (d, S)
    | _ => none
  | _, _, _ => none
def dgD : D → D → Sto → Option (D × Sto)
  | .loc n, y, S => match S[n]? with
    | some (.dK kvs) => (kOf y).bind fun k => (lk kvs k).map fun d => (d, S)
    | some (.dT kvs) => (tOf y).bind fun k => (lk kvs k).map fun d => (d, S)
    | some (.lK kvs) => (kOf y).bind fun k => (lk kvs k).map fun d => (d, S)
    | some (.lT kvs) => (tOf y).bind fun k => (lk kvs k).map fun d => (d, S)
    | _ => none
  | _, _, _ => none
theorem at_rel {ds : List D} {xs : List V} {i : Int} {d : D} (q : RelDs K ρ H ds xs) (e : atI ds i = some d) : ∃ v, atI xs i = some v ∧ RelD K ρ H d v := by
  unfold atI at e ⊢
  obtain ⟨j, e1, e2⟩ := bindE e
  obtain ⟨v, e3, r⟩ := q.get e2
  rw [q.len, e1]
  exact ⟨v, e3, r⟩
theorem op2_ix : Op2 K (rIx K) ixD := fun ρ S H x y v w d S' R r1 r2 e Q k => by
  cases y with
  | int i =>
    rw [r2.int_]
    cases x <;> simp only [ixD] at e <;> try cases e
    · split at e
      · rename_i hl
        rw [Option.map_eq_some_iff] at e
        obtain ⟨c, e1, e2⟩ := e
        cases e2
        rw [r1.str_]
        exact .inr (.inr ⟨_, _, _, rfl, rfl, line_of hl, e1, kRefl R k (RelD.str _)⟩)
      · cases e
    · rw [Option.map_eq_some_iff] at e
      obtain ⟨c, e1, e2⟩ := e
      cases e2
      obtain ⟨a, xs, rfl, h1, q1⟩ := r1.tup_
      obtain ⟨u, e3, r⟩ := at_rel q1 e1
      exact .inr (.inl ⟨a, xs, _, u, rfl, rfl, SqT.of h1, e3, kRefl R k r⟩)
    · rw [Option.map_eq_some_iff] at e
      obtain ⟨c, e1, e2⟩ := e
      cases e2
      obtain ⟨a, xs, rfl, h1, q1⟩ := r1.fl_
      obtain ⟨u, e3, r⟩ := at_rel q1 e1
      exact .inl ⟨a, xs, _, u, rfl, rfl, h1.sqL, e3, kRefl R k r⟩
    · split at e
      · rename_i ds eo
        rw [Option.map_eq_some_iff] at e
        obtain ⟨c, e1, e2⟩ := e
        cases e2
        obtain ⟨a, xs, rfl, _, h1, q1⟩ := R.lst eo r1
        obtain ⟨u, e3, r⟩ := at_rel q1 e1
        exact .inl ⟨a, xs, _, u, rfl, rfl, SqL.of h1, e3, kRefl R k r⟩
      · cases e
  | _ => cases x <;> cases e
/-- what a dict holds -/
def dHas (n : Nat) (y : D) (S : Sto) : Option (Option D) := match S[n]? with
  | some (.dK kvs) => (kOf y).map fun k => lk kvs k
  | some (.dT kvs) => (tOf y).map fun k => lk kvs k
  | some (.lK kvs) => (kOf y).map fun k => lk kvs k
  | some (.lT kvs) => (tOf y).map fun k => lk kvs k
  | _ => none
theorem dHas_rel (R : RelS K ρ S H) {n : Nat} {y : D} {v w : V} {o : Option D} (r1 : RelD K ρ H (.loc n) v) (r2 : RelD K ρ H y w) (e : dHas n y S = some o) :
    ∃ a u, v = .ref a ∧ DGet H a w u ∧ u.isSome = o.isSome ∧ ∀ d, o = some d → ∃ z, u = some z ∧ RelD K ρ H d z := by
  unfold dHas at e
  split at e
  · rename_i kvs eo
    rw [Option.map_eq_some_iff] at e
    obtain ⟨k, e1, rfl⟩ := e
    obtain ⟨a, xs, rfl, _, h, q⟩ := R.dK eo r1
    rw [kOf_rel r2 e1]
    refine ⟨a, _, rfl, DGet.k h, q.isSome, fun d e => ?_⟩
    obtain ⟨z, e3, r⟩ := (q.lk (k := k)).1 d e
    exact ⟨z, e3, r⟩
  · rename_i kvs eo
    rw [Option.map_eq_some_iff] at e
    obtain ⟨k, e1, rfl⟩ := e
    obtain ⟨a, xs, rfl, _, h, q⟩ := R.dT eo r1
    obtain ⟨b, rfl, hb⟩ := tOf_rel r2 e1
    refine ⟨a, _, rfl, DGet.t h hb, q.isSome, fun d e => ?_⟩
    obtain ⟨z, e3, r⟩ := (q.lk (k := k)).1 d e
    exact ⟨z, e3, r⟩
  · rename_i kvs eo
    rw [Option.map_eq_some_iff] at e
    obtain ⟨k, e1, rfl⟩ := e
    obtain ⟨a, xs, od, rfl, _, h, q⟩ := R.lK eo r1
    rw [kOf_rel r2 e1]
    refine ⟨a, _, rfl, .inl ⟨xs, k, .inr ⟨od, h⟩, rfl, rfl⟩, q.isSome, fun d e => ?_⟩
    obtain ⟨z, e3, r⟩ := (q.lk (k := k)).1 d e
    exact ⟨z, e3, r⟩
  · rename_i kvs eo
    rw [Option.map_eq_some_iff] at e
    obtain ⟨k, e1, rfl⟩ := e
    obtain ⟨a, xs, od, rfl, _, h, q⟩ := R.lT eo r1
    obtain ⟨b, rfl, hb⟩ := tOf_rel r2 e1
    refine ⟨a, _, rfl, .inr ⟨xs, k, b, .inr ⟨od, h⟩, rfl, hb, rfl⟩, q.isSome, fun d e => ?_⟩
    obtain ⟨z, e3, r⟩ := (q.lk (k := k)).1 d e
    exact ⟨z, e3, r⟩
  · cases e
/-! keys of any depth -/
mutual
def nkOf : D → Option NestedKey
  | .non => some .none
  | .int i => some (.num i)
  | .tup ds => (nksOf ds).map .tup
  | _ => none
def nksOf : List D → Option (List NestedKey)
  | [] => some []
  | d :: ds => (nkOf d).bind fun k => (nksOf ds).map (k :: ·)
end
mutual
theorem nkOf_rel : ∀ {d : D} {v : V} {k : NestedKey}, RelD K ρ H d v → nkOf d = some k → NkV H k v ∧ plainK k = true
  | .non, _, _, r, e => by
    simp only [nkOf, Option.some.injEq] at e
    subst e
    exact ⟨by simp only [NkV]; exact r.non_, rfl⟩
  | .int i, _, _, r, e => by
    simp only [nkOf, Option.some.injEq] at e
    subst e
    exact ⟨by simp only [NkV]; exact r.int_, rfl⟩
  | .tup ds, _, _, r, e => by
    simp only [nkOf, Option.map_eq_some_iff] at e
    obtain ⟨ks, e, rfl⟩ := e
    obtain ⟨a, xs, rfl, h, q⟩ := r.tup_
    obtain ⟨h1, h2⟩ := nksOf_rel q e
    exact ⟨by simp only [NkV]; exact ⟨a, xs, rfl, h, h1⟩, by simp only [plainK]; exact h2⟩
  | .bl _, _, _, _, e => by simp [nkOf] at e
  | .str _, _, _, _, e => by simp [nkOf] at e
  | .fl _, _, _, _, e => by simp [nkOf] at e
  | .loc _, _, _, _, e => by simp [nkOf] at e
  | .ty _, _, _, _, e => by simp [nkOf] at e
theorem nksOf_rel : ∀ {ds : List D} {vs : List V} {ks : List NestedKey}, RelDs K ρ H ds vs → nksOf ds = some ks → NkVs H ks vs ∧ plainKs ks = true
  | [], _, _, r, e => by
    simp only [nksOf, Option.some.injEq] at e
    subst e
    simp only [RelDs] at r
    exact ⟨by simp only [NkVs]; exact r, rfl⟩
  | d :: ds, _, _, r, e => by
    simp only [nksOf] at e
    obtain ⟨k, e1, e⟩ := bindE e
    obtain ⟨ks, e2, rfl⟩ := Option.map_eq_some_iff.mp e
    simp only [RelDs] at r
    obtain ⟨x, ys, rfl, r1, r2⟩ := r
    obtain ⟨h1, h2⟩ := nkOf_rel r1 e1
    obtain ⟨h3, h4⟩ := nksOf_rel r2 e2
    exact ⟨by simp only [NkVs]; exact ⟨x, ys, rfl, h1, h3⟩, by simp only [plainKs, h2, h4, Bool.and_self]⟩
end
def nkT (d : D) : Option NestedKey := match d with
  | .tup ds => (nksOf ds).bind fun ks => if (NestedKey.tup ks).depth ≤ 8 then some (.tup ks) else none
  | _ => none
theorem nkT_rel {d : D} {v : V} {k : NestedKey} (r : RelD K ρ H d v) (e : nkT d = some k) : ∃ b, KN H k v b := by
  cases d <;> simp only [nkT] at e <;> try cases e
  obtain ⟨ks, e1, e⟩ := bindE e
  split at e
  · rename_i hd
    cases e
    obtain ⟨a, xs, rfl, h, q⟩ := r.tup_
    obtain ⟨h1, h2⟩ := nksOf_rel q e1
    exact ⟨a, rfl, by simp only [NkV]; exact ⟨a, xs, rfl, h, h1⟩, hd, by simp only [plainK]; exact h2⟩
  · cases e
theorem RelN.dn {a : Addr} {kds : List (NestedKey × D)} {xs : List NEnt} (q : RelN K ρ H kds xs) (h : Rd H a (dNO a xs)) : DN H a xs := ⟨.inl h, q.2.2⟩
theorem RelN.split {k : NestedKey} {d : D} {kds : List (NestedKey × D)} {xs : List NEnt} (q : RelN K ρ H ((k, d) :: kds) xs) : ∃ b v r, xs = (k, b, v) :: r ∧ RelD K ρ H d v ∧ RelN K ρ H kds r := by
  obtain ⟨h1, h2, h3⟩ := q
  cases xs with
  | nil => simp at h1
  | cons p r =>
    obtain ⟨k', b, v⟩ := p
    simp only [List.map_cons, List.cons.injEq] at h1
    obtain ⟨rfl, h1⟩ := h1
    simp only [List.map_cons, RelDs] at h2
    obtain ⟨x, ys, e, r1, r2⟩ := h2
    cases e
    exact ⟨b, v, r, rfl, r1, h1, r2, fun x hx => h3 x (List.mem_cons_of_mem _ hx)⟩
theorem RelN.lk {k : NestedKey} : ∀ {kds : List (NestedKey × D)} {xs : List NEnt}, RelN K ρ H kds xs → (∀ d, SW.lk kds k = some d → ∃ v, valN xs k = some v ∧ RelD K ρ H d v) ∧ (SW.lk kds k = none → valN xs k = none)
  | [], xs, h => by
    have : xs = [] := by have := h.1; simpa using this
    subst this
    exact ⟨fun d e => (nomatch e), fun _ => rfl⟩
  | (j, d) :: kds, xs, h => by
    obtain ⟨b, v, r, rfl, h1, h2⟩ := h.split
    have ih := RelN.lk (k := k) h2
    by_cases e : j = k
    · have e1 : SW.lk ((j, d) :: kds) k = some d := by simp [SW.lk, List.find?_cons, e]
      have e2 : valN ((j, b, v) :: r) k = some v := by simp [valN, List.find?_cons, e]
      rw [e1, e2]
      exact ⟨fun d' q => by cases q; exact ⟨v, rfl, h1⟩, fun q => nomatch q⟩
    · have e1 : SW.lk ((j, d) :: kds) k = SW.lk kds k := by simp [SW.lk, List.find?_cons, e]
      have e2 : valN ((j, b, v) :: r) k = valN r k := by simp [valN, List.find?_cons, e]
      rw [e1, e2]
      exact ih
theorem RelN.isSome {k : NestedKey} {kds : List (NestedKey × D)} {xs : List NEnt} (h : RelN K ρ H kds xs) : (valN xs k).isSome = (SW.lk kds k).isSome := by
  obtain ⟨h1, h2⟩ := h.lk (k := k)
  cases e : SW.lk kds k with
  | none => rw [h2 e]; rfl
  | some d => obtain ⟨v, ev, _⟩ := h1 d e; rw [ev]; rfl
theorem RelN.nil0 : RelN K ρ H [] [] := ⟨rfl, .nil, fun x hx => by simp at hx⟩
/-- a dict of the store with such keys, to be read -/
def nAt : MO → Option (List (NestedKey × D))
  | .dN kvs => some kvs
  | .lN kvs => some kvs
  | .dK [] => some []
  | .lK [] => some []
  | _ => none
/-- .. to be written -/
def nWr : MO → Option (List (NestedKey × D))
  | .dN kvs => some kvs
  | .dK [] => some []
  | _ => none
theorem nAt_rel (R : RelS K ρ S H) {n : Nat} {o : MO} {kvs : List (NestedKey × D)} {v : V} (ho : S[n]? = some o) (e : nAt o = some kvs) (r : RelD K ρ H (.loc n) v) : ∃ a xs, v = .ref a ∧ DN H a xs ∧ RelN K ρ H kvs xs := by
  unfold nAt at e
  split at e
  · cases e
    obtain ⟨a, xs, rfl, _, h, q⟩ := R.dN ho r
    exact ⟨a, xs, rfl, q.dn (.inl h), q⟩
  · cases e
    obtain ⟨a, xs, od, rfl, _, h, q⟩ := R.lN ho r
    exact ⟨a, xs, rfl, q.dn (.inr ⟨od, h⟩), q⟩
  · cases e
    obtain ⟨a, xs, rfl, _, h, q⟩ := R.dK ho r
    rw [q.nil_] at h
    exact ⟨a, [], rfl, ⟨.inr ⟨rfl, .inl h⟩, fun x hx => by simp at hx⟩, .nil0⟩
  · cases e
    obtain ⟨a, xs, od, rfl, _, h, q⟩ := R.lK ho r
    rw [q.nil_] at h
    exact ⟨a, [], rfl, ⟨.inr ⟨rfl, .inr ⟨od, h⟩⟩, fun x hx => by simp at hx⟩, .nil0⟩
  · cases e
theorem nWr_rel (R : RelS K ρ S H) {n : Nat} {o : MO} {kvs : List (NestedKey × D)} {v : V} (ho : S[n]? = some o) (e : nWr o = some kvs) (r : RelD K ρ H (.loc n) v) : ∃ a xs, v = .ref a ∧ ρ[n]? = some a ∧ DW H a xs ∧ RelN K ρ H kvs xs := by
  unfold nWr at e
  split at e
  · cases e
    obtain ⟨a, xs, rfl, hn, h, q⟩ := R.dN ho r
    exact ⟨a, xs, rfl, hn, ⟨.inl h, q.2.2⟩, q⟩
  · cases e
    obtain ⟨a, xs, rfl, hn, h, q⟩ := R.dK ho r
    rw [q.nil_] at h
    exact ⟨a, [], rfl, hn, ⟨.inr ⟨rfl, h⟩, fun x hx => by simp at hx⟩, .nil0⟩
  · cases e
/-- what such a dict holds -/
def nHas (n : Nat) (y : D) (S : Sto) : Option (Option D) := (S[n]?).bind fun o => (nAt o).bind fun kvs => (nkT y).map fun k => lk kvs k
theorem nHas_rel (R : RelS K ρ S H) {n : Nat} {y : D} {v w : V} {o : Option D} (r1 : RelD K ρ H (.loc n) v) (r2 : RelD K ρ H y w) (e : nHas n y S = some o) :
    ∃ a u, v = .ref a ∧ DGN H a w u ∧ u.isSome = o.isSome ∧ ∀ d, o = some d → ∃ z, u = some z ∧ RelD K ρ H d z := by
  obtain ⟨ob, eo, e⟩ := bindE e
  obtain ⟨kvs, ek, e⟩ := bindE e
  obtain ⟨k, e1, rfl⟩ := Option.map_eq_some_iff.mp e
  obtain ⟨a, xs, rfl, dn, q⟩ := nAt_rel R eo ek r1
  obtain ⟨b, kn⟩ := nkT_rel r2 e1
  exact ⟨a, _, rfl, ⟨xs, k, b, dn, kn, rfl⟩, q.isSome, fun d e => (q.lk (k := k)).1 d e⟩
def gnD : D → D → Sto → Option (D × Sto)
  | .loc n, y, S => (nHas n y S).bind fun o => o.map fun d => (d, S)
  | _, _, _ => none
theorem op2_gn : Op2 K rGetN gnD := fun ρ S H x y v w d S' R r1 r2 e Q k => by
  cases x <;> simp only [gnD] at e <;> try cases e
  obtain ⟨o, e1, e⟩ := bindE e
  obtain ⟨d', rfl, e⟩ := Option.map_eq_some_iff.mp e
  cases e
  obtain ⟨a, u, rfl, g, _, hz⟩ := nHas_rel R r1 r2 e1
  obtain ⟨z, rfl, r⟩ := hz d rfl
  exact ⟨a, z, rfl, g, kRefl R k r⟩
def inDN (n : Bool → Bool) (x y : D) (S : Sto) : Option (D × Sto) := match y with
  | .loc m => (nHas m x S).map fun o => (.bl (n o.isSome), S)
  | _ => none
theorem op2_inDN {n : Bool → Bool} : Op2 K (rInN n) (inDN n) := fun ρ S H x y v w d S' R r1 r2 e Q k => by
  cases y <;> try cases e
  rename_i m
  simp only [inDN, Option.map_eq_some_iff] at e
  obtain ⟨o, e1, e⟩ := e
  cases e
  obtain ⟨a, u, rfl, g, hs, _⟩ := nHas_rel R r2 r1 e1
  exact ⟨a, u, rfl, g, by rw [hs]; exact kRefl R k (RelD.bl _)⟩
def rDg : R2 := fun x y H Q => ∃ a v, x = .ref a ∧ DGet H a y (some v) ∧ Q v H
theorem op2_dg : Op2 K rDg dgD := fun ρ S H x y v w d S' R r1 r2 e Q k => by
  cases x <;> simp only [dgD] at e <;> try cases e
  rename_i n
  have e' : ∃ o, dHas n y S = some o ∧ o = some d ∧ S = S' := by
    unfold dHas
    split at e
    · rename_i eo
      obtain ⟨k, e1, e⟩ := bindE e
      rw [Option.map_eq_some_iff] at e
      obtain ⟨c, e1', e2⟩ := e
      cases e2
      simp only [eo, e1, Option.map_some]
      exact ⟨_, rfl, e1', trivial⟩
    · rename_i eo
      obtain ⟨k, e1, e⟩ := bindE e
      rw [Option.map_eq_some_iff] at e
      obtain ⟨c, e1', e2⟩ := e
      cases e2
      simp only [eo, e1, Option.map_some]
      exact ⟨_, rfl, e1', trivial⟩
    · rename_i eo
      obtain ⟨k, e1, e⟩ := bindE e
      rw [Option.map_eq_some_iff] at e
      obtain ⟨c, e1', e2⟩ := e
      cases e2
      simp only [eo, e1, Option.map_some]
      exact ⟨_, rfl, e1', trivial⟩
    · rename_i eo
      obtain ⟨k, e1, e⟩ := bindE e
      rw [Option.map_eq_some_iff] at e
      obtain ⟨c, e1', e2⟩ := e
      cases e2
      simp only [eo, e1, Option.map_some]
      exact ⟨_, rfl, e1', trivial⟩
    · cases e
  obtain ⟨o, e1, rfl, rfl⟩ := e'
  obtain ⟨a, u, rfl, g, _, hz⟩ := dHas_rel R r1 r2 e1
  obtain ⟨z, rfl, r⟩ := hz d rfl
  exact ⟨a, z, rfl, g, kRefl R k r⟩

/-- a subscript: of a list, a tuple, a text; of a dict -/
def sbD (x y : D) (S : Sto) : Option (D × Sto) := (ixD x y S).orElse fun _ => (dgD x y S).orElse fun _ => gnD x y S
/-! ### one reading or another -/
variable {fa fb : EvE} {a b e : Expr} {pos : Pos}
theorem b2_or {g g1 g2 : D → D → Sto → Option (D × Sto)} (hs : ∀ x y S o, g x y S = some o → g1 x y S = some o ∨ g2 x y S = some o) {σ : St} {H : Hp} {Q : VK} (h : tE K (b2E g fa fb) σ H Q) : tE K (b2E g1 fa fb) σ H Q ∨ tE K (b2E g2 fa fb) σ H Q := by
  obtain ⟨ρ, τ, S, d, S', A, e, k⟩ := h
  obtain ⟨⟨x, S1⟩, e1, e⟩ := bindE e
  obtain ⟨⟨y, S2⟩, e2, e⟩ := bindE e
  rcases hs _ _ _ _ e with q | q
  · exact .inl ⟨ρ, τ, S, d, S', A, by show ((fa τ S).bind fun p => (fb τ p.2).bind fun q => g1 p.1 q.1 q.2) = _; rw [e1]; show ((fb τ S1).bind fun q => g1 x q.1 q.2) = _; rw [e2]; exact q, k⟩
  · exact .inr ⟨ρ, τ, S, d, S', A, by show ((fa τ S).bind fun p => (fb τ p.2).bind fun q => g2 p.1 q.1 q.2) = _; rw [e1]; show ((fb τ S1).bind fun q => g2 x q.1 q.2) = _; rw [e2]; exact q, k⟩
theorem b2_orT {g g1 g2 : D → D → Sto → Option (D × Sto)} (hs : ∀ x y S o, g x y S = some o → g1 x y S = some o ∨ g2 x y S = some o) {σ : St} {H : Hp} {Q : Bool → Hp → Prop} (h : tT K (tB (b2E g fa fb)) σ H Q) : tT K (tB (b2E g1 fa fb)) σ H Q ∨ tT K (tB (b2E g2 fa fb)) σ H Q := by
  obtain ⟨ρ, τ, S, d, S', A, e, k⟩ := h
  obtain ⟨⟨z, S3⟩, e0, ez⟩ := bindE e
  obtain ⟨⟨x, S1⟩, e1, e⟩ := bindE e0
  obtain ⟨⟨y, S2⟩, e2, e⟩ := bindE e
  rcases hs _ _ _ _ e with q | q
  · refine .inl ⟨ρ, τ, S, d, S', A, ?_, k⟩
    have : b2E g1 fa fb τ S = some (z, S3) := by
      show ((fa τ S).bind fun p => (fb τ p.2).bind fun q => g1 p.1 q.1 q.2) = _; rw [e1]; show ((fb τ S1).bind fun q => g1 x q.1 q.2) = _; rw [e2]; exact q
    show (Option.bind _ _) = _
    rw [this]; exact ez
  · refine .inr ⟨ρ, τ, S, d, S', A, ?_, k⟩
    have : b2E g2 fa fb τ S = some (z, S3) := by
      show ((fa τ S).bind fun p => (fb τ p.2).bind fun q => g2 p.1 q.1 q.2) = _; rw [e1]; show ((fb τ S1).bind fun q => g2 x q.1 q.2) = _; rw [e2]; exact q
    show (Option.bind _ _) = _
    rw [this]; exact ez
theorem orElse_some {α : Type} {x : Option α} {y : Unit → Option α} {o : α} (h : x.orElse y = some o) : x = some o ∨ y () = some o := by
  cases x with
  | none => exact .inr h
  | some z => exact .inl h
theorem ee_sub {k : Nat} (hc : Ok X k) (ha : EE X a fa) (hb : EE X b fb) (hs : PlainIx b := by exact fun _ _ => rfl) : EE X (.Subscript a b pos) (b2E sbD fa fb) :=
  wkE (orE (ee_b2 (fun h1 h2 => pe_ix ix_seq h1 h2 hs) op2_ix ha hb) (wkE (orE (ee_b2 (r := rDg) (fun h1 h2 => pe_dget (by have := hc.units; omega) h1 h2 hs) op2_dg ha hb) (ee_b2 (r := rGetN) (fun h1 h2 => pe_nget hc.units h1 h2 hs) op2_gn ha hb)) fun σ H Q q =>
    b2_or (g := fun x y S => (dgD x y S).orElse fun _ => gnD x y S) (fun x y S o h => orElse_some h) q)) fun σ H Q q => b2_or (fun x y S o h => orElse_some h) q

/-! ### in, not in -/
def flV : D → Option V
  | .non => some .non
  | .bl b => some (.bl b)
  | .int i => some (.int i)
  | .str x => some (.str x)
  | _ => none
def flVs : List D → Option (List V)
  | [] => some []
  | d :: ds => (flV d).bind fun v => (flVs ds).map (v :: ·)
theorem flV_rel {d : D} {v w : V} (r : RelD K ρ H d v) (e : flV d = some w) : v = w ∧ flatV w = true := by
  cases d <;> cases e
  · exact ⟨r.non_, rfl⟩
  · exact ⟨r.bl_, rfl⟩
  · exact ⟨r.int_, rfl⟩
  · exact ⟨r.str_, rfl⟩
theorem flVs_rel {ds : List D} : ∀ {vs ws : List V}, RelDs K ρ H ds vs → flVs ds = some ws → vs = ws ∧ ws.all flatV = true := by
  induction ds with
  | nil => intro vs ks r e; cases e; simp only [RelDs] at r; subst r; exact ⟨rfl, rfl⟩
  | cons d ds ih =>
    intro vs ks r e
    obtain ⟨k, e1, e⟩ := bindE e
    rw [Option.map_eq_some_iff] at e
    obtain ⟨ks', e2, rfl⟩ := e
    simp only [RelDs] at r
    obtain ⟨x, ys, rfl, r1, r2⟩ := r
    obtain ⟨rfl, f1⟩ := flV_rel r1 e1
    obtain ⟨rfl, f2⟩ := ih r2 e2
    exact ⟨rfl, by simp [f1, f2]⟩
/-- in a list, a tuple; the answer through a function (not) -/
def inSq (n : Bool → Bool) (x y : D) (S : Sto) : Option (D × Sto) := match y with
  | .tup ds => (flV x).bind fun v => (flVs ds).map fun vs => (.bl (n (inV v vs)), S)
  | y => (pyOf S x).bind fun p => (pyOf S y).bind fun q => match q with
    | .list qs => some (.bl (n (qs.any fun z => PyData.eqv z p)), S)
    | _ => none
def inDc (n : Bool → Bool) (x y : D) (S : Sto) : Option (D × Sto) := match y with
  | .loc m => (dHas m x S).map fun o => (.bl (n o.isSome), S)
  | _ => none
def inDd (n : Bool → Bool) (x y : D) (S : Sto) : Option (D × Sto) := (inDc n x y S).orElse fun _ => inDN n x y S
def inD (x y : D) (S : Sto) : Option (D × Sto) := (inSq id x y S).orElse fun _ => inDd id x y S
def notInD (x y : D) (S : Sto) : Option (D × Sto) := (inSq not x y S).orElse fun _ => inDd not x y S
theorem op2_inSq : Op2 K (fun x y H Q => rInD K x y H Q ∨ rIn K false x y H Q) (inSq id) := fun ρ S H x y v w d S' R r1 r2 e Q k => by
  have lst : ((pyOf S x).bind fun p => (pyOf S y).bind fun q => match q with
    | .list qs => some (D.bl (id (qs.any fun z => PyData.eqv z p)), S)
    | _ => none) = some (d, S') → rInD K v w H Q := fun e => by
    obtain ⟨p, e1, e⟩ := bindE e
    obtain ⟨q, e2, e⟩ := bindE e
    obtain ⟨h1, s1⟩ := dp_py R r1 e1
    obtain ⟨h2, s2⟩ := dp_py R r2 e2
    cases q <;> cases e
    exact ⟨p, _, h1, h2, s1, s2, kRefl R k (RelD.bl _)⟩
  cases y with
  | tup ds =>
    obtain ⟨u, e1, e⟩ := bindE e
    rw [Option.map_eq_some_iff] at e
    obtain ⟨us, e2, e⟩ := e
    cases e
    obtain ⟨a, xs, rfl, h, q⟩ := r2.tup_
    obtain ⟨rfl, f1⟩ := flV_rel r1 e1
    obtain ⟨rfl, f2⟩ := flVs_rel q e2
    exact .inr ⟨a, xs, rfl, .inr (SqT.of h), f1, f2, kRefl R k (RelD.bl _)⟩
  | _ => exact .inl (lst e)
theorem op2_notInSq : Op2 K (fun x y H Q => rNotInD K x y H Q ∨ rIn K true x y H Q) (inSq not) := fun ρ S H x y v w d S' R r1 r2 e Q k => by
  have lst : ((pyOf S x).bind fun p => (pyOf S y).bind fun q => match q with
    | .list qs => some (D.bl (not (qs.any fun z => PyData.eqv z p)), S)
    | _ => none) = some (d, S') → rNotInD K v w H Q := fun e => by
    obtain ⟨p, e1, e⟩ := bindE e
    obtain ⟨q, e2, e⟩ := bindE e
    obtain ⟨h1, s1⟩ := dp_py R r1 e1
    obtain ⟨h2, s2⟩ := dp_py R r2 e2
    cases q <;> cases e
    exact ⟨p, _, h1, h2, s1, s2, kRefl R k (RelD.bl _)⟩
  cases y with
  | tup ds =>
    obtain ⟨u, e1, e⟩ := bindE e
    rw [Option.map_eq_some_iff] at e
    obtain ⟨us, e2, e⟩ := e
    cases e
    obtain ⟨a, xs, rfl, h, q⟩ := r2.tup_
    obtain ⟨rfl, f1⟩ := flV_rel r1 e1
    obtain ⟨rfl, f2⟩ := flVs_rel q e2
    exact .inr ⟨a, xs, rfl, .inr (SqT.of h), f1, f2, kRefl R k (RelD.bl _)⟩
  | _ => exact .inl (lst e)
def rDIn (n : Bool → Bool) : R2 := fun y x H Q => ∃ a o, x = .ref a ∧ DGet H a y o ∧ Q (.bl (n o.isSome)) H
theorem op2_inDc {n : Bool → Bool} : Op2 K (rDIn n) (inDc n) := fun ρ S H x y v w d S' R r1 r2 e Q k => by
  cases y <;> try cases e
  rename_i m
  simp only [inDc, Option.map_eq_some_iff] at e
  obtain ⟨o, e1, e⟩ := e
  cases e
  obtain ⟨a, u, rfl, g, hs, _⟩ := dHas_rel R r2 r1 e1
  exact ⟨a, u, rfl, g, by rw [hs]; exact kRefl R k (RelD.bl _)⟩
/-- a test that is a comparison, from its form as a test -/
theorem et_b2 {r : R2} {g : D → D → Sto → Option (D × Sto)} (h : PE X a (tE X.K fa) → PE X b (tE X.K fb) → PT X e (tTest (tOp r (tE X.K fa) (tE X.K fb)))) (hg : Op2 X.K r g) (ha : EE X a fa) (hb : EE X b fb) : ET X e (tB (b2E g fa fb)) :=
  wkT (h ha hb) fun σ H Q q => by
    obtain ⟨ρ, τ, S, d, S', A, e, k⟩ := q
    obtain ⟨⟨z, S3⟩, e0, ez⟩ := bindE e
    obtain ⟨⟨x, S1⟩, e1, e0⟩ := bindE e0
    obtain ⟨⟨y, S2⟩, e2, e0⟩ := bindE e0
    refine goE A e1 fun ρ1 v1 H1 A1 P1 r1 => goE A1 e2 fun ρ2 v2 H2 A2 P2 r2 => ?_
    refine hg ρ2 S2 H2 x y v1 v2 z S3 A2.s (r1.mono (P2.imm A1.s) P2.pre) r2 e0 _ fun ρ3 u H3 P3 r3 => ?_
    cases z with
    | bl b =>
      cases ez
      exact ⟨_, r3.bl_, k ρ3 H3 ((P1.trans P2).trans P3)⟩
    | _ => cases ez
theorem et_in {k : Nat} (hc : Ok X k) (ha : EE X a fa) (hb : EE X b fb) (hm : behindInMarks .In b = false := by rfl) : ET X (.Compare a [.In] [b] pos) (tB (b2E inD fa fb)) :=
  wkT (orT (et_b2 (fun h1 h2 => pt_cmpR (orO (op_inD hc.units) op_in_seq) h1 h2 hm) op2_inSq ha hb) (wkT (orT (et_b2 (r := rDIn id) (fun h1 h2 => pt_cmp (pc_din (by have := hc.units; omega) h1 h2) hm) op2_inDc ha hb) (et_b2 (r := rInN id) (fun h1 h2 => pt_cmp (pc_nin hc.units h1 h2) hm) op2_inDN ha hb)) fun σ H Q q => b2_orT (g := inDd id) (fun x y S o h => orElse_some h) q)) fun σ H Q q =>
    b2_orT (fun x y S o h => orElse_some h) q
theorem et_notin {k : Nat} (hc : Ok X k) (ha : EE X a fa) (hb : EE X b fb) (hm : behindInMarks .NotIn b = false := by rfl) : ET X (.Compare a [.NotIn] [b] pos) (tB (b2E notInD fa fb)) :=
  wkT (orT (et_b2 (fun h1 h2 => pt_cmpR (orO (op_notInD hc.units) op_notIn_seq) h1 h2 hm) op2_notInSq ha hb) (wkT (orT (et_b2 (r := rDIn not) (fun h1 h2 => pt_cmp (pc_dnotin (by have := hc.units; omega) h1 h2) hm) op2_inDc ha hb) (et_b2 (r := rInN not) (fun h1 h2 => pt_cmp (pc_nnotin hc.units h1 h2) hm) op2_inDN ha hb)) fun σ H Q q => b2_orT (g := inDd not) (fun x y S o h => orElse_some h) q)) fun σ H Q q =>
    b2_orT (fun x y S o h => orElse_some h) q
end
end SW
namespace SW
open PySem L2

/-! ### slots -/
def wipeT (τ : Tau) : List Nat → Tau
  | [] => τ
  | v :: vs => (wipeT τ vs).set v none
section
variable {X : Cx} {W : WX} {K : PySem.W.Frag} {ρ ρ' : List Addr} {S S' : Sto} {H H' : Hp} {τ : Tau} {σ : St}
theorem RelT.set (h : RelT K ρ H τ σ) {d : D} {v : V} (r : RelD K ρ H d v) (i : Nat) : RelT K ρ H (τ.set i (some d)) (σ.set i (some v)) := by
  refine ⟨by simp [h.1], fun j e q => ?_⟩
  rw [List.getElem?_set] at q
  split at q
  · rename_i hij; subst hij
    split at q
    · rename_i hl; cases q
      exact ⟨v, by rw [List.getElem?_set_self (by rw [← h.1]; exact hl)], r⟩
    · cases q
  · rename_i hij
    obtain ⟨w, e1, r1⟩ := h.2 j e q
    exact ⟨w, by rw [List.getElem?_set_ne hij]; exact e1, r1⟩
theorem RelT.unset (h : RelT K ρ H τ σ) (i : Nat) : RelT K ρ H (τ.set i none) (σ.set i none) := by
  refine ⟨by simp [h.1], fun j e q => ?_⟩
  rw [List.getElem?_set] at q
  split at q
  · split at q <;> cases q
  · rename_i hij
    obtain ⟨w, e1, r1⟩ := h.2 j e q
    exact ⟨w, by rw [List.getElem?_set_ne hij]; exact e1, r1⟩
theorem RelT.wipe (h : RelT K ρ H τ σ) : ∀ vs : List Nat, RelT K ρ H (wipeT τ vs) (L2.wipe σ vs)
  | [] => h
  | v :: vs => by unfold wipeT L2.wipe; exact (RelT.wipe h vs).unset v
theorem wipe_set (σ : St) (i : Nat) (o : Option V) : ∀ {vs : List Nat}, i ∈ vs → wipe (σ.set i o) vs = wipe σ vs
  | v :: vs, h => by
    unfold L2.wipe
    by_cases e : i ∈ vs
    · rw [wipe_set σ i o e]
    · have hv : i = v := by
        rcases List.mem_cons.mp h with q | q
        · exact q
        · exact absurd q e
      subst hv
      have : ∀ vs : List Nat, i ∉ vs → wipe (σ.set i o) vs = (wipe σ vs).set i o := by
        intro vs
        induction vs with
        | nil => intro _; rfl
        | cons w ws ih =>
          intro hn
          simp only [List.mem_cons, not_or] at hn
          unfold L2.wipe
          rw [ih hn.2, List.set_comm _ _ (fun z => hn.1 z)]
      rw [this vs e, List.set_set]
theorem wipe_wipe (σ : St) (vs : List Nat) : ∀ ws : List Nat, (∀ w ∈ ws, w ∈ vs) → wipe (wipe σ ws) vs = wipe σ vs
  | [], _ => rfl
  | w :: ws, h => by
    have e : wipe σ (w :: ws) = (wipe σ ws).set w none := rfl
    rw [e, wipe_set _ w none (h w (by simp)), wipe_wipe σ vs ws fun z hz => h z (by simp [hz])]

/-! ### targets made of names -/
inductive Pat where
  | nm (i : Nat)
  | tp (ps : List Pat)
mutual
def Pat.bind : Pat → D → Tau → Option Tau
  | .nm i, d, τ => some (τ.set i (some d))
  | .tp ps, .tup ds, τ => Pat.binds ps ds τ
  | .tp _, _, _ => none
def Pat.binds : List Pat → List D → Tau → Option Tau
  | [], [], τ => some τ
  | p :: ps, d :: ds, τ => (Pat.bind p d τ).bind (Pat.binds ps ds)
  | _, _, _ => none
end
mutual
def trP (K : PySem.W.Frag) : Pat → TG
  | .nm i => gName i
  | .tp ps => gTup K ps.length (trPs K ps)
def trPs (K : PySem.W.Frag) : List Pat → TGs
  | [] => gNil
  | p :: ps => gCons (trP K p) (trPs K ps)
end
mutual
def Pat.slots : Pat → List Nat
  | .nm i => [i]
  | .tp ps => Pat.slotss ps
def Pat.slotss : List Pat → List Nat
  | [] => []
  | p :: ps => Pat.slots p ++ Pat.slotss ps
end
mutual
theorem pat_ok : ∀ (p : Pat) (d : D) (v : V) (τ τ' : Tau) (σ : St), RelD K ρ H d v → Pat.bind p d τ = some τ' → RelT K ρ H τ σ →
    ∃ σ', (∀ Q, Q σ' H → trP K p v σ H Q) ∧ RelT K ρ H τ' σ' ∧ ∀ vs : List Nat, (∀ i ∈ p.slots, i ∈ vs) → wipe σ' vs = wipe σ vs
  | .nm i, d, v, τ, τ', σ, r, e, t => by
    simp only [Pat.bind, Option.some.injEq] at e
    subst e
    exact ⟨σ.set i (some v), fun Q q => by simp only [trP]; exact q, t.set r i, fun vs h => wipe_set σ i _ (h i (by simp [Pat.slots]))⟩
  | .tp ps, d, v, τ, τ', σ, r, e, t => by
    cases d <;> simp only [Pat.bind] at e <;> try cases e
    obtain ⟨a, xs, rfl, h, q⟩ := r.tup_
    obtain ⟨σ', k1, k2, k3, k4⟩ := pats_ok ps _ xs τ τ' σ q e t
    refine ⟨σ', fun Q z => ?_, k2, fun vs hv => k4 vs (by simpa [Pat.slots] using hv)⟩
    simp only [trP]
    exact ⟨a, xs, rfl, SqT.of h, k3, k1 Q z⟩
theorem pats_ok : ∀ (ps : List Pat) (ds : List D) (vs : List V) (τ τ' : Tau) (σ : St), RelDs K ρ H ds vs → Pat.binds ps ds τ = some τ' → RelT K ρ H τ σ →
    ∃ σ', (∀ Q, Q σ' H → trPs K ps vs σ H Q) ∧ RelT K ρ H τ' σ' ∧ vs.length = ps.length ∧ ∀ ws : List Nat, (∀ i ∈ Pat.slotss ps, i ∈ ws) → wipe σ' ws = wipe σ ws
  | [], ds, vs, τ, τ', σ, r, e, t => by
    cases ds with
    | nil =>
      simp only [Pat.binds, Option.some.injEq] at e
      subst e
      simp only [RelDs] at r; subst r
      exact ⟨σ, fun Q q => by simp only [trPs]; exact ⟨rfl, q⟩, t, rfl, fun _ _ => rfl⟩
    | cons d ds => simp [Pat.binds] at e
  | p :: ps, ds, vs, τ, τ', σ, r, e, t => by
    cases ds with
    | nil => simp [Pat.binds] at e
    | cons d ds =>
      simp only [Pat.binds] at e
      obtain ⟨τ1, e1, e2⟩ := bindE e
      simp only [RelDs] at r
      obtain ⟨x, ys, rfl, r1, r2⟩ := r
      obtain ⟨σ1, a1, a2, a3⟩ := pat_ok p d x τ τ1 σ r1 e1 t
      obtain ⟨σ2, b1, b2, b3, b4⟩ := pats_ok ps ds ys τ1 τ' σ1 r2 e2 a2
      refine ⟨σ2, fun Q q => ?_, b2, by simp [b3], fun ws hw => ?_⟩
      · simp only [trPs]
        exact ⟨x, ys, rfl, a1 _ (b1 Q q)⟩
      · rw [b4 ws fun i hi => hw i (by simp [Pat.slotss, hi]), a3 ws fun i hi => hw i (by simp [Pat.slotss, hi])]
end
theorem eg_nm {i : Nat} {x : Str} {pos : Pos} (h : PG X (.Name x pos) (gName i)) : PG X (.Name x pos) (trP X.K (.nm i)) := by simp only [trP]; exact h
theorem egs_nil : PGs X [] (trPs X.K []) := by simp only [trPs]; exact pgs_nil
theorem egs_cons {e : Expr} {es : List Expr} {p : Pat} {ps : List Pat} (h1 : PG X e (trP X.K p)) (h2 : PGs X es (trPs X.K ps))
    (hs : (assignEach (e :: es) X.env).map (·.2) = assign e X.env :: (assignEach es X.env).map (·.2) := by rfl) : PGs X (e :: es) (trPs X.K (p :: ps)) := by
  simp only [trPs]; exact pgs_cons h1 h2 hs
theorem eg_tp {es : List Expr} {k : Nat} {ps : List Pat} {pos : Pos} (hc : X.calm = true) (h : PGs X es (trPs X.K ps))
    (hn : (assignEach es X.env).length = ps.length := by rfl) (hst : (assignEach es X.env).findIdx? (·.1) = none := by rfl) : PG X (.Tuple es k pos) (trP X.K (.tp ps)) := by
  simp only [trP]; exact pg_tup hc h hn hst

/-! ### targets -/
abbrev EvG := D → Tau → Sto → Option (Tau × Sto)
abbrev EvGs := List D → Tau → Sto → Option (Tau × Sto)
def tG (K : PySem.W.Frag) (g : EvG) : TG := fun v σ H Q => ∃ ρ τ S d τ' S', At K ρ τ S σ H ∧ RelD K ρ H d v ∧ g d τ S = some (τ', S') ∧ ∀ ρ' σ' H', Post K ρ H ρ' H' S' → RelT K ρ' H' τ' σ' → Q σ' H'
def tGs (K : PySem.W.Frag) (g : EvGs) : TGs := fun v σ H Q => ∃ ρ τ S d τ' S', At K ρ τ S σ H ∧ RelDs K ρ H d v ∧ g d τ S = some (τ', S') ∧ ∀ ρ' σ' H', Post K ρ H ρ' H' S' → RelT K ρ' H' τ' σ' → Q σ' H'
theorem wkG {e : Expr} {t t' : TG} (h : PG X e t) (k : ∀ v σ H Q, t' v σ H Q → t v σ H Q) : PG X e t' := ⟨fun pins s σ H v u Q I r q => h.run pins s σ H v u Q I r (k v σ H Q q)⟩
theorem wkGs {e : List Expr} {t t' : TGs} (h : PGs X e t) (k : ∀ v σ H Q, t' v σ H Q → t v σ H Q) : PGs X e t' := ⟨fun pins s σ H v u Q I r q => h.run pins s σ H v u Q I r (k v σ H Q q)⟩
def patG (p : Pat) : EvG := fun d τ S => (p.bind d τ).map fun τ' => (τ', S)
theorem eG_pat {e : Expr} {p : Pat} (h : PG X e (trP X.K p)) : PG X e (tG X.K (patG p)) := wkG h fun v σ H Q q => by
  obtain ⟨ρ, τ, S, d, τ', S', A, r, e, k⟩ := q
  simp only [patG, Option.map_eq_some_iff] at e
  obtain ⟨τ1, e1, e2⟩ := e
  cases e2
  obtain ⟨σ', k1, k2, _⟩ := pat_ok p d v τ _ σ r e1 A.t
  exact k1 Q (k ρ σ' H A.refl k2)
def nilG : EvGs := fun ds τ S => match ds with | [] => some (τ, S) | _ => none
def consG (g : EvG) (gs : EvGs) : EvGs := fun ds τ S => match ds with | d :: ds => (g d τ S).bind fun p => gs ds p.1 p.2 | _ => none
def tupG (gs : EvGs) : EvG := fun d τ S => match d with | .tup ds => gs ds τ S | _ => none
theorem eGs_nil : PGs X [] (tGs X.K nilG) := wkGs pgs_nil fun v σ H Q q => by
  obtain ⟨ρ, τ, S, d, τ', S', A, r, e, k⟩ := q
  cases d with
  | nil => cases e; simp only [RelDs] at r; exact ⟨r, k _ _ _ A.refl A.t⟩
  | cons _ _ => cases e
theorem eGs_cons {e : Expr} {es : List Expr} {g : EvG} {gs : EvGs} (h1 : PG X e (tG X.K g)) (h2 : PGs X es (tGs X.K gs))
    (hs : (assignEach (e :: es) X.env).map (·.2) = assign e X.env :: (assignEach es X.env).map (·.2) := by rfl) : PGs X (e :: es) (tGs X.K (consG g gs)) := wkGs (pgs_cons h1 h2 hs) fun v σ H Q q => by
  obtain ⟨ρ, τ, S, d, τ', S', A, r, e, k⟩ := q
  cases d with
  | nil => cases e
  | cons d ds =>
    obtain ⟨⟨τ1, S1⟩, e1, e2⟩ := bindE e
    simp only [RelDs] at r
    obtain ⟨x, ys, rfl, r1, r2⟩ := r
    refine ⟨x, ys, rfl, ρ, τ, S, d, τ1, S1, A, r1, e1, fun ρ1 σ1 H1 P1 t1 => ⟨ρ1, τ1, S1, ds, τ', S', ⟨P1.rel, t1⟩, r2.mono (P1.imm A.s) P1.pre, e2, fun ρ2 σ2 H2 P2 t2 => k ρ2 σ2 H2 (P1.trans P2) t2⟩⟩
/-- the length of what is stored is seen by the targets -/
theorem eG_tup {es : List Expr} {k n : Nat} {gs : EvGs} {pos : Pos} (hc : X.calm = true) (h : PGs X es (tGs X.K gs)) (hl : ∀ ds τ S o, gs ds τ S = some o → ds.length = n)
    (hn : (assignEach es X.env).length = n := by rfl) (hst : (assignEach es X.env).findIdx? (·.1) = none := by rfl) : PG X (.Tuple es k pos) (tG X.K (tupG gs)) := wkG (pg_tup hc h hn hst) fun v σ H Q q => by
  obtain ⟨ρ, τ, S, d, τ', S', A, r, e, k⟩ := q
  cases d <;> simp only [tupG] at e <;> try cases e
  obtain ⟨a, xs, rfl, h, q⟩ := r.tup_
  exact ⟨a, xs, rfl, SqT.of h, by rw [q.len]; exact hl _ _ _ _ e, ρ, τ, S, _, τ', S', A, q, e, k⟩
theorem len_nilG : ∀ ds τ S o, nilG ds τ S = some o → ds.length = 0 := fun ds τ S o h => by
  cases ds with
  | nil => rfl
  | cons _ _ => cases h
theorem len_consG {g : EvG} {gs : EvGs} {n : Nat} (h : ∀ ds τ S o, gs ds τ S = some o → ds.length = n) : ∀ ds τ S o, consG g gs ds τ S = some o → ds.length = n + 1 := fun ds τ S o e => by
  cases ds with
  | nil => cases e
  | cons d ds =>
    obtain ⟨⟨τ1, S1⟩, e1, e2⟩ := bindE e
    rw [List.length_cons, h _ _ _ _ e2]
/-! o[i] = v -/
def stD (o i v : D) (S : Sto) : Option Sto := match o with
  | .loc n => match S[n]? with
    | some (.lst ds) => (match i with | .int k => some k | _ => none).bind fun k => (ixN ds.length k).map fun j => S.set n (.lst (ds.set j v))
    | some (.dK kvs) => match kOf i with
      | some k => if kvs.length ≤ 10000000 then some (S.set n (.dK (ptK kvs k v))) else none
      | none => if kvs.isEmpty then (nkT i).map fun k => S.set n (.dN (ptK [] k v)) else none
    | some (.dT kvs) => (tOf i).bind fun k => if kvs.length ≤ 10000000 then some (S.set n (.dT (ptK kvs k v))) else none
    | some (.dN kvs) => (nkT i).bind fun k => if kvs.length ≤ 10000000 then some (S.set n (.dN (ptK kvs k v))) else none
    | _ => none
  | _ => none
def rSetD : V → V → V → Hp → (Hp → Prop) → Prop := fun o i v H Q => ∃ a H4, o = .ref a ∧ DPut H a i v H4 ∧ Q H4
theorem set_dict {k : Nat} (hc : Ok X k) : PSet X rSetD := by
  intro pins s σ H o i v ov iv u Q I ro ri rv h
  obtain ⟨a, H4, rfl, g, q⟩ := h
  cases ro
  exact d_setItem (by have := hc.units; omega) I g ri rv fun s' I' => ⟨H4, I', q⟩
theorem set_any {k : Nat} (hc : Ok X k) : PSet X (fun o i v H Q => rSetL o i v H Q ∨ rSetD o i v H Q ∨ rSetN o i v H Q) := by
  intro pins s σ H o i v ov iv u Q I ro ri rv h
  rcases h with h | h | h
  · exact set_list pins s σ H o i v ov iv u Q I ro ri rv h
  · exact set_dict hc pins s σ H o i v ov iv u Q I ro ri rv h
  · exact set_dN hc.units pins s σ H o i v ov iv u Q I ro ri rv h
theorem line_lt {n : Nat} (h : n ≤ 10000000) : n < sizeLine := by rw [sizeLine_eq]; omega
theorem immPut (R : RelS K ρ S H) {n : Nat} {a : Addr} (hn : ρ[n]? = some a) (ho : HO) : Imm H (upd H a ho) := by
  have ma : a ∈ ρ := List.mem_of_getElem? hn
  refine ⟨fun b xs h => ?_, fun b o u hu h => ?_⟩
  · have ne : b ≠ a := fun e => R.tup h (by rw [e]; exact ma)
    rw [upd_ne ne]; exact h
  · have ne : b ≠ a := fun e => R.frz hu h (by rw [e]; exact ma)
    rw [upd_ne ne]; exact h
theorem put_lst (R : RelS K ρ S H) {n : Nat} {a : Addr} (hn : ρ[n]? = some a) (mu : Mut (H a)) {ds : List D} {xs : List V} (r : RelDs K ρ H ds xs) : Post K ρ H ρ (upd H a (.lst xs)) (S.set n (.lst ds)) :=
  R.put hn mu ⟨xs, upd_same, r.mono (immPut R hn _) List.prefix_rfl⟩
theorem RelN.len {kds : List (NestedKey × D)} {xs : List NEnt} (q : RelN K ρ H kds xs) : xs.length = kds.length := by
  have := congrArg List.length q.1
  simpa using this
theorem RelN.put {kds : List (NestedKey × D)} {xs : List NEnt} {kk : NestedKey} {b : Addr} {w y : V} {d : D} (q : RelN K ρ H kds xs) (r : RelD K ρ H d w) (kn : KN H kk y b) : RelN K ρ H (ptK kds kk d) (putN xs kk b w) := by
  have hs := q.isSome (k := kk)
  have ha : (kds.any fun kv => decide (kv.1 = kk)) = (SW.lk kds kk).isSome := by
    clear hs q
    induction kds with
    | nil => rfl
    | cons p l ih =>
      rw [List.any_cons, ih]
      by_cases e : p.1 = kk <;> simp [SW.lk, List.find?_cons, e]
  have ok : ∀ x ∈ putN xs kk b w, NOk H x := putN_ok q.2.2 ⟨kn.nk, kn.dep, kn.pl⟩
  by_cases hc : (SW.lk kds kk).isSome = true
  · have e1 : putN xs kk b w = xs.map (setN kk w) := by unfold putN; rw [hs, if_pos hc]
    have e2 : ptK kds kk d = kds.map fun kv => if kv.1 = kk then (kv.1, d) else kv := by unfold ptK; rw [ha, if_pos hc]
    refine ⟨?_, ?_, ok⟩
    · rw [e1, e2, List.map_map, List.map_map]
      have e1 : xs.map ((fun x => x.1) ∘ setN kk w) = xs.map (·.1) := List.map_congr_left fun x _ => by
        show (setN kk w x).1 = x.1
        unfold setN; split <;> rfl
      have e2 : kds.map ((fun x => x.1) ∘ fun kv => if kv.1 = kk then (kv.1, d) else kv) = kds.map (·.1) := List.map_congr_left fun x _ => by
        show (if x.1 = kk then (x.1, d) else x).1 = x.1
        split <;> rfl
      rw [e1, e2]; exact q.1
    · rw [e1, e2]
      clear hs ha ok hc e1 e2
      induction kds generalizing xs with
      | nil =>
        have : xs = [] := by have := q.1; simpa using this
        subst this; exact .nil
      | cons p l ih =>
        obtain ⟨p1, p2⟩ := p
        obtain ⟨b', v', r', rfl, h1, h2⟩ := q.split
        have := ih h2
        simp only [List.map_cons]
        unfold setN
        by_cases e : p1 = kk
        · simp only [e, if_true]; exact .cons r this
        · simp only [e, if_false]; exact .cons h1 this
  · have e1 : putN xs kk b w = xs ++ [(kk, b, w)] := by unfold putN; rw [hs, if_neg hc]
    have e2 : ptK kds kk d = kds ++ [(kk, d)] := by unfold ptK; rw [ha, if_neg hc]
    refine ⟨?_, ?_, ok⟩
    · rw [e1, e2, List.map_append, List.map_append, q.1]; rfl
    · rw [e1, e2, List.map_append, List.map_append]
      exact q.2.1.app (.one r)
theorem stD_ok (R : RelS K ρ S H) {o i v : D} {x y z : V} (r1 : RelD K ρ H o x) (r2 : RelD K ρ H i y) (r3 : RelD K ρ H v z) (e : stD o i v S = some S') {Q : Hp → Prop} (k : ∀ H', Post K ρ H ρ H' S' → Q H') :
    rSetL x y z H Q ∨ rSetD x y z H Q ∨ rSetN x y z H Q := by
  cases o <;> simp only [stD] at e <;> try cases e
  split at e
  · rename_i ds eo
    obtain ⟨kk, e1, e⟩ := bindE e
    obtain rfl : i = .int kk := by
      split at e1
      · cases e1; rfl
      · cases e1
    obtain ⟨j, e2, e⟩ := Option.map_eq_some_iff.mp e
    subst e
    obtain ⟨a, xs, rfl, hn, h, q⟩ := R.lst eo r1
    rw [r2.int_]
    exact .inl ⟨a, xs, _, j, rfl, rfl, h, by rw [q.len]; exact e2, k _ (put_lst R hn (by rw [h]; trivial) (q.set r3 j))⟩
  · rename_i kvs eo
    split at e
    rotate_left
    · split at e
      · rename_i hk
        obtain ⟨kk, e1, e⟩ := Option.map_eq_some_iff.mp e
        subst e
        have hk : kvs = [] := List.isEmpty_iff.mp hk
        subst hk
        obtain ⟨a, xs, rfl, hn, W, q⟩ := nWr_rel R eo rfl r1
        obtain ⟨b, kn⟩ := nkT_rel r2 e1
        exact .inr (.inr ⟨a, _, rfl, ⟨xs, kk, b, W, kn, line_lt (by rw [q.len]; simp), rfl⟩, k _ (R.put hn W.mut (o := .dN (ptK [] kk v)) ⟨_, upd_same, (q.put r3 kn).mono (immPut R hn _) List.prefix_rfl⟩)⟩)
      · cases e
    rename_i kk e1
    split at e
    · rename_i hl; cases e
      obtain ⟨a, xs, rfl, hn, h, q⟩ := R.dK eo r1
      rw [kOf_rel r2 e1]
      exact .inr (.inl ⟨a, _, rfl, DPut.k h (line_lt (by rw [q.len]; exact hl)), k _ (R.put hn (by rw [h]; trivial) ⟨_, upd_same, (q.put r3).mono (immPut R hn _) List.prefix_rfl⟩)⟩)
    · cases e
  · rename_i kvs eo
    obtain ⟨kk, e1, e⟩ := bindE e
    split at e
    · rename_i hl; cases e
      obtain ⟨a, xs, rfl, hn, h, q⟩ := R.dT eo r1
      obtain ⟨b, rfl, hb⟩ := tOf_rel r2 e1
      exact .inr (.inl ⟨a, _, rfl, DPut.t h hb (line_lt (by rw [q.len]; exact hl)), k _ (R.put hn (by rw [h]; trivial) ⟨_, upd_same, (q.put r3).mono (immPut R hn _) List.prefix_rfl⟩)⟩)
    · cases e
  · rename_i kvs eo
    obtain ⟨kk, e1, e⟩ := bindE e
    split at e
    · rename_i hl; cases e
      obtain ⟨a, xs, rfl, hn, h, q⟩ := R.dN eo r1
      obtain ⟨b, kn⟩ := nkT_rel r2 e1
      exact .inr (.inr ⟨a, _, rfl, ⟨xs, kk, b, ⟨.inl h, q.2.2⟩, kn, line_lt (by rw [q.len]; exact hl), rfl⟩, k _ (R.put hn (by rw [h]; trivial) ⟨_, upd_same, (q.put r3 kn).mono (immPut R hn _) List.prefix_rfl⟩)⟩)
    · cases e
  · cases e
def subG (fo fi : EvE) : EvG := fun d τ S => (fo τ S).bind fun p => (fi τ p.2).bind fun q => (stD p.1 q.1 d q.2).map fun S' => (τ, S')
theorem eG_sub {k : Nat} {o i : Expr} {fo fi : EvE} {pos : Pos} (hc : Ok X k) (ho : EE X o fo) (hi : EE X i fi)
    (ha : ∀ v, assign (.Subscript o i pos) X.env v = (do
      let ov ← holding [v] (eval o X.env)
      let iv ← holding [v, ov] (eval i X.env)
      standAt pos
      holding [v, ov, iv] (setItem ov iv v)
      release [v, ov, iv] []) := by intro _; rfl) : PG X (.Subscript o i pos) (tG X.K (subG fo fi)) := wkG (pg_sub ho hi (set_any hc) ha) fun v σ H Q q => by
  obtain ⟨ρ, τ, S, d, τ', S', A, r, e, k⟩ := q
  obtain ⟨⟨x, S1⟩, e1, e⟩ := bindE e
  obtain ⟨⟨y, S2⟩, e2, e⟩ := bindE e
  rw [Option.map_eq_some_iff] at e
  obtain ⟨S3, e3, e⟩ := e
  cases e
  refine goE A e1 fun ρ1 v1 H1 A1 P1 r1 => goE A1 e2 fun ρ2 v2 H2 A2 P2 r2 => ?_
  have P12 := P1.trans P2
  refine stD_ok A2.s (r1.mono (P2.imm A1.s) P2.pre) r2 (r.mono (P12.imm A.s) P12.pre) e3 fun H3 P3 => ?_
  exact k ρ2 σ H3 (P12.trans P3) (A2.t.mono (P3.imm A2.s) P3.pre)

/-! ### statements -/
def nxS : EvS := fun τ S => some (.nx τ, S)
def brS : EvS := fun τ S => some (.bk τ, S)
def ctS : EvS := fun τ S => some (.ct τ, S)
def seqS (f g : EvS) : EvS := fun τ S => (f τ S).bind fun p => match p.1 with | .nx τ' => g τ' p.2 | o => some (o, p.2)
def exS (f : EvE) : EvS := fun τ S => (f τ S).map fun p => (.nx τ, p.2)
def rtS (f : EvE) : EvS := fun τ S => (f τ S).map fun p => (.rt p.1, p.2)
def ifS (c : EvT) (f g : EvS) : EvS := fun τ S => (c τ S).bind fun p => if p.1 then f τ p.2 else g τ p.2
def asS (f : EvE) (g : EvG) : EvS := fun τ S => (f τ S).bind fun p => (g p.1 τ p.2).map fun q => (.nx q.1, q.2)
/-- a, b = e1, e2: two names, no pair is made -/
def parS (i j : Nat) (f : EvA) : EvS := fun τ S => (f τ S).bind fun p => match p.1 with | [v, w] => some (.nx ((τ.set i (some v)).set j (some w)), p.2) | _ => none
theorem ess_nil : ESs W X [] nxS := wkSs pss_nil fun D σ H q => by
  obtain ⟨ρ, τ, S, o, S', A, e, k⟩ := q
  cases e
  exact k ρ H A.refl σ A.t
theorem ess_one {st : Stmt} {f : EvS} (h : ES W X st f) : ESs W X [st] f := pss_one h
theorem ess_cons {st : Stmt} {rest : List Stmt} {f g : EvS} (h : ES W X st f) (h2 : ESs W X rest g) : ESs W X (st :: rest) (seqS f g) := wkSs (pss_cons h h2) fun D σ H q => by
  obtain ⟨ρ, τ, S, o, S', A, e, k⟩ := q
  obtain ⟨⟨o1, S1⟩, e1, e⟩ := bindE e
  refine ⟨ρ, τ, S, o1, S1, A, e1, fun ρ1 H1 P1 => ?_⟩
  cases o1 with
  | nx τ1 => exact fun σ1 t1 => ⟨ρ1, τ1, S1, o, S', ⟨P1.rel, t1⟩, e, fun ρ2 H2 P2 => k ρ2 H2 (P1.trans P2)⟩
  | rt d => cases e; exact k ρ1 H1 P1
  | bk τ1 => cases e; exact k ρ1 H1 P1
  | ct τ1 => cases e; exact k ρ1 H1 P1
  | ex c fs τ1 => cases e; exact k ρ1 H1 P1
theorem es_expr {e : Expr} {f : EvE} {pos : Pos} (h : EE X e f) (hs : swapsWith e none pos.line X.env = pure false := by rfl) : ES W X (.Expr e pos) (exS f) := wkS (ps_expr h hs) fun D σ H q => by
  obtain ⟨ρ, τ, S, o, S', A, e, k⟩ := q
  simp only [exS, Option.map_eq_some_iff] at e
  obtain ⟨⟨x, S1⟩, e1, e⟩ := e
  cases e
  exact goE A e1 fun ρ1 v1 H1 A1 P1 r1 => k ρ1 H1 P1 σ A1.t
theorem es_ret {e : Expr} {f : EvE} {pos : Pos} (h : EE X e f) : ES W X (.Return (some e) pos) (rtS f) := wkS (ps_ret h) fun D σ H q => by
  obtain ⟨ρ, τ, S, o, S', A, e, k⟩ := q
  simp only [rtS, Option.map_eq_some_iff] at e
  obtain ⟨⟨x, S1⟩, e1, e⟩ := e
  cases e
  exact goE A e1 fun ρ1 v1 H1 A1 P1 r1 => k ρ1 H1 P1 v1 r1
def retN : EvS := fun _ S => some (.rt .non, S)
theorem es_if {c : Expr} {a b : List Stmt} {f : EvT} {g h : EvS} {pos : Pos} (hc : ET X c f) (ha : ESs W X a g) (hb : ESs W X b h) : ES W X (.If c a b pos) (ifS f g h) := wkS (ps_if hc ha hb) fun D σ H q => by
  obtain ⟨ρ, τ, S, o, S', A, e, k⟩ := q
  obtain ⟨⟨x, S1⟩, e1, e⟩ := bindE e
  refine goT A e1 fun ρ1 H1 A1 P1 => ?_
  cases x with
  | true => exact ⟨ρ1, τ, S1, o, S', A1, e, fun ρ2 H2 P2 => k ρ2 H2 (P1.trans P2)⟩
  | false => exact ⟨ρ1, τ, S1, o, S', A1, e, fun ρ2 H2 P2 => k ρ2 H2 (P1.trans P2)⟩
theorem asS_ok {f : EvE} {g : EvG} {t : TE} {D : Ends} {σ : St} {H : Hp} (ht : ∀ σ H Q, tE K f σ H Q → t σ H Q) (q : tS K W (asS f g) D σ H) : tAsg t (tG K g) D σ H := by
  obtain ⟨ρ, τ, S, o, S', A, e, k⟩ := q
  obtain ⟨⟨x, S1⟩, e1, e⟩ := bindE e
  rw [Option.map_eq_some_iff] at e
  obtain ⟨⟨τ2, S2⟩, e2, e⟩ := e
  cases e
  refine ht σ H _ (goE A e1 fun ρ1 v1 H1 A1 P1 r1 => ?_)
  exact ⟨ρ1, τ, S1, x, τ2, _, A1, r1, e2, fun ρ2 σ2 H2 P2 t2 => k ρ2 H2 (P1.trans P2) σ2 t2⟩
theorem es_asg {tg e : Expr} {f : EvE} {g : EvG} {pos : Pos} (he : EE X e f) (hg : PG X tg (tG X.K g)) (hs : swapsWithSole [tg] e pos.line X.env = pure false := by rfl) (hw : swappedStores [tg] e X.env = pure none := by rfl)
    (h1 : (assignEach [tg] X.env).map (·.2) = [assign tg X.env] := by rfl) : ES W X (.Assign [tg] e pos) (asS f g) := wkS (ps_asg he hg hs hw h1) fun D σ H q => asS_ok (fun _ _ _ z => z) q
theorem nameG {i : Nat} {v : V} {σ : St} {H : Hp} {Q : St → Hp → Prop} (h : tG K (patG (.nm i)) v σ H Q) : gName i v σ H Q := by
  obtain ⟨ρ, τ, S, d, τ', S', A, r, e, k⟩ := h
  simp only [patG, Pat.bind, Option.map_some, Option.some.injEq] at e
  cases e
  exact k ρ _ H A.refl (A.t.set r i)
theorem tAsg_mono {t : TE} {g g' : TG} {D : Ends} {σ : St} {H : Hp} (hm : ∀ σ H (Q Q' : VK), (∀ v H', Q v H' → Q' v H') → t σ H Q → t σ H Q') (hg : ∀ v σ H Q, g v σ H Q → g' v σ H Q) (h : tAsg t g D σ H) : tAsg t g' D σ H :=
  hm σ H _ _ (fun v H' q => hg v σ H' _ q) h
theorem tE_mono {f : EvE} (σ : St) (H : Hp) (Q Q' : VK) (h : ∀ v H', Q v H' → Q' v H') (q : tE K f σ H Q) : tE K f σ H Q' := by
  obtain ⟨ρ, τ, S, d, S', A, e, k⟩ := q
  exact ⟨ρ, τ, S, d, S', A, e, fun ρ' v H' P r => h v H' (k ρ' v H' P r)⟩
/-- name = e -/
def stS (i : Nat) (f : EvE) : EvS := asS f (patG (.nm i))
theorem es_set {i : Nat} {x : Str} {e : Expr} {f : EvE} {pos pos' : Pos} (hN : X.N.Nodup) (hi : X.N[i]? = some x) (hx : Loc X.env.scope x) (he : EE X e f) (hs : swapsWith e (some (.Name x pos')) pos.line X.env = pure false := by rfl) (hf : X.fn x = true ∨ X.env.scope.names.lookup x = some .local := by first | exact .inl rfl | exact .inr rfl | assumption) :
    ES W X (.Assign [.Name x pos'] e pos) (stS i f) := wkS (ps_set hN hi hx he hs hf) fun D σ H q =>
  tAsg_mono tE_mono (fun v σ H Q => nameG) (asS_ok (t := tE X.K f) (fun _ _ _ z => z) q)
/-- name op= e -/
def augS (i : Nat) (g : D → D → Sto → Option (D × Sto)) (f : EvE) : EvS := fun τ S => (τ[i]?.join).bind fun x => (f τ S).bind fun p => (g x p.1 p.2).map fun q => (.nx (τ.set i (some q.1)), q.2)
end
end SW
namespace SW
open PySem L2

/-! ### what is walked -/
structure Src where
  len : Nat
  get : Sto → Nat → Option D
  fin : Sto → Bool
abbrev EvI := Tau → Sto → Option (Src × Sto)
def Src.fixed (ds : List D) : Src := ⟨ds.length, fun _ i => ds[i]?, fun _ => true⟩
def lenAt (S : Sto) (n : Nat) : Option Nat := match S[n]? with | some (.lst ds) => some ds.length | _ => none
def itemAt (S : Sto) (n i : Nat) : Option D := match S[n]? with | some (.lst ds) => ds[i]? | _ => none
def Src.live (n l : Nat) : Src := ⟨l, fun S i => if lenAt S n = some l then itemAt S n i else none, fun S => lenAt S n = some l⟩
/-- a list, a tuple -/
def srcOf (d : D) (S : Sto) : Option Src := match d with
  | .tup ds => some (.fixed ds)
  | .fl ds => some (.fixed ds)
  | .loc n => (lenAt S n).map fun l => .live n l
  | _ => none
structure Walks (K : PySem.W.Frag) (ρ0 : List Addr) (H0 : Hp) (J : It) (s : Src) : Prop where
  go : ∀ (ρ : List Addr) (S : Sto) (H : Hp) (i : Nat) (d : D), RelS K ρ S H → ρ0 <+: ρ → ImmL H0 H → i < s.len → s.get S i = some d → J.go i H ∧ ∀ x H', J.yld i H x H' → Post K ρ H ρ H' S ∧ RelD K ρ H' d x
  stop : ∀ (ρ : List Addr) (S : Sto) (H : Hp), RelS K ρ S H → ρ0 <+: ρ → ImmL H0 H → s.fin S = true → J.stop s.len H
def tI (K : PySem.W.Frag) (f : EvI) : TI := fun σ H R => ∃ ρ τ S s S', At K ρ τ S σ H ∧ f τ S = some (s, S') ∧ ∀ ρ' J H', Post K ρ H ρ' H' S' → Walks K ρ' H' J s → R J H'
abbrev EI (X : Cx) (tg e : Expr) (f : EvI) : Prop := PI X tg e (tI X.K f)
section
variable {X : Cx} {W : WX} {K : PySem.W.Frag} {ρ ρ' : List Addr} {S S' : Sto} {H H' : Hp} {τ : Tau} {σ : St} {tg e : Expr}
theorem wkI {t t' : TI} (h : PI X tg e t) (k : ∀ σ H R, t' σ H R → t σ H R) : PI X tg e t' := ⟨fun pins s σ H R I q => h.run pins s σ H R I (k σ H R q)⟩
theorem orI {t t' : TI} (h : PI X tg e t) (h' : PI X tg e t') : PI X tg e (fun σ H R => t σ H R ∨ t' σ H R) := ⟨fun pins s σ H R I q => q.elim (h.run pins s σ H R I) (h'.run pins s σ H R I)⟩
theorem lenAt_some {n l : Nat} (h : lenAt S n = some l) : ∃ ds, S[n]? = some (.lst ds) ∧ ds.length = l := by
  unfold lenAt at h
  split at h
  · rename_i ds e; exact ⟨ds, e, Option.some.inj h⟩
  · cases h
/-- the list at a place of the store, as it stands -/
theorem walk_live {n l : Nat} {a : Addr} (R0 : RelS K ρ S H) (ha : ρ[n]? = some a) (hl : lenAt S n = some l) (hx : ∀ (X : Nat), True) : Walks K ρ H (Itl K a) (.live n l) where
  go := fun ρ1 S1 H1 i d R1 p1 i1 hi hg => by
    simp only [Src.live] at hg
    split at hg
    · rename_i hl1
      obtain ⟨ds, e1, e2⟩ := lenAt_some hl1
      simp only [itemAt, e1] at hg
      obtain ⟨b, hb, xs, h1, q1⟩ := R1.obj n _ e1
      rw [prefix_get p1 ha] at hb; cases hb
      obtain ⟨v, hv, r⟩ := q1.get hg
      refine ⟨⟨xs, v, SqL.of h1, hv⟩, fun x H' ⟨eH, k⟩ => ?_⟩
      subst eH
      have := k xs (SqL.of h1)
      rw [hv] at this; cases this
      exact ⟨Post.refl R1, r⟩
    · cases hg
  stop := fun ρ1 S1 H1 R1 p1 i1 hf => by
    simp only [Src.live, decide_eq_true_eq] at hf
    obtain ⟨ds, e1, e2⟩ := lenAt_some hf
    obtain ⟨b, hb, xs, h1, q1⟩ := R1.obj n _ e1
    rw [prefix_get p1 ha] at hb; cases hb
    exact ⟨xs, SqL.of h1, by rw [q1.len, e2]; exact Nat.le_refl _⟩
theorem walk_tup {a : Addr} {xs : List V} {ds : List D} (h : H a = some (.tup xs)) (q : RelDs K ρ H ds xs) : Walks K ρ H (Itt K a) (.fixed ds) where
  go := fun ρ1 S1 H1 i d R1 p1 i1 hi hg => by
    obtain ⟨v, hv, r⟩ := (q.mono i1.toImm p1).get hg
    have h1 := i1.tup _ _ h
    refine ⟨⟨xs, v, SqT.of h1, hv⟩, fun x H' ⟨eH, k⟩ => ?_⟩
    subst eH
    have := k xs (SqT.of h1)
    rw [hv] at this; cases this
    exact ⟨Post.refl R1, r⟩
  stop := fun ρ1 S1 H1 R1 p1 i1 hf => ⟨xs, SqT.of (i1.tup _ _ h), by rw [q.len]; exact Nat.le_refl _⟩
theorem walk_fl {a : Addr} {xs : List V} {ds : List D} (h : FzL K H a xs) (q : RelDs K ρ H ds xs) : Walks K ρ H (Itl K a) (.fixed ds) where
  go := fun ρ1 S1 H1 i d R1 p1 i1 hi hg => by
    obtain ⟨v, hv, r⟩ := (q.mono i1.toImm p1).get hg
    have h1 := (i1.fzL h).sqL
    refine ⟨⟨xs, v, h1, hv⟩, fun x H' ⟨eH, k⟩ => ?_⟩
    subst eH
    have := k xs h1
    rw [hv] at this; cases this
    exact ⟨Post.refl R1, r⟩
  stop := fun ρ1 S1 H1 R1 p1 i1 hf => ⟨xs, (i1.fzL h).sqL, by rw [q.len]; exact Nat.le_refl _⟩
/-- for x in a list or a tuple -/
def sqI (f : EvE) : EvI := fun τ S => (f τ S).bind fun p => (srcOf p.1 p.2).map fun s => (s, p.2)
theorem ei_seq {f : EvE} (h : EE X e f) : EI X tg e (sqI f) := wkI (orI (pi_list h) (pi_tup h)) fun σ H R q => by
  obtain ⟨ρ, τ, S, s, S', A, e, k⟩ := q
  obtain ⟨⟨d, S1⟩, e1, e⟩ := bindE e
  obtain ⟨s', e2, e⟩ := Option.map_eq_some_iff.mp e
  cases e
  cases d <;> simp only [srcOf] at e2 <;> try cases e2
  · refine .inr (goE A e1 fun ρ1 v1 H1 A1 P1 r1 => ?_)
    obtain ⟨a, xs, rfl, h, q⟩ := r1.tup_
    exact ⟨a, rfl, ⟨xs, SqT.of h⟩, k _ _ _ P1 (walk_tup h q)⟩
  · refine .inl (goE A e1 fun ρ1 v1 H1 A1 P1 r1 => ?_)
    obtain ⟨a, xs, rfl, h, q⟩ := r1.fl_
    exact ⟨a, rfl, ⟨xs, h.sqL⟩, k _ _ _ P1 (walk_fl h q)⟩
  · obtain ⟨l, e3, e4⟩ := Option.map_eq_some_iff.mp e2
    subst e4
    refine .inl (goE A e1 fun ρ1 v1 H1 A1 P1 r1 => ?_)
    obtain ⟨ds, e5, e6⟩ := lenAt_some e3
    obtain ⟨a, xs, rfl, ha, h, q⟩ := A1.s.lst e5 r1
    exact ⟨a, rfl, ⟨xs, SqL.of h⟩, k _ _ _ P1 (walk_live A1.s ha e3 fun _ => trivial)⟩
/-! ranges -/
def rng (lo : Int) (n : Nat) : List D := (List.range n).map fun (i : Nat) => D.int (lo + (i : Int))
theorem rng_len (lo : Int) (n : Nat) : (rng lo n).length = n := by simp [rng]
theorem rng_get (lo : Int) (n i : Nat) : (rng lo n)[i]? = if i < n then some (.int (lo + (i : Int))) else none := by
  unfold rng
  rw [List.getElem?_map]
  by_cases h : i < n
  · rw [List.getElem?_range h, if_pos h]; rfl
  · rw [List.getElem?_eq_none (by simpa using h), if_neg h]; rfl
theorem walk_rng {lo : Int} {n : Nat} : Walks K ρ H (Itr lo n) (.fixed (rng lo n)) where
  go := fun ρ1 S1 H1 i d R1 p1 i1 hi hg => by
    simp only [Src.fixed, rng_len] at hi
    simp only [Src.fixed, rng_get, if_pos hi, Option.some.injEq] at hg
    subst hg
    refine ⟨hi, fun x H' ⟨eH, k⟩ => ?_⟩
    subst eH k
    exact ⟨Post.refl R1, RelD.int _⟩
  stop := fun ρ1 S1 H1 R1 p1 i1 hf => by simp only [Src.fixed, rng_len]; exact Nat.le_refl _
def big62 (i : Int) : Bool := decide (-(2 ^ 62) ≤ i) && decide (i < 2 ^ 62)
theorem big62_ok {i : Int} (h : big62 i = true) : -(2 ^ 62) ≤ i ∧ i < 2 ^ 62 := by simpa [big62] using h
def rgI1 (f : EvE) : EvI := fun τ S => (f τ S).bind fun p => match p.1 with | .int j => if big62 j then some (.fixed (rng 0 j.toNat), p.2) else none | _ => none
def rgI2 (f g : EvE) : EvI := fun τ S => (f τ S).bind fun p => (g τ p.2).bind fun q => match p.1, q.1 with
  | .int i, .int j => if big62 i && big62 j then some (.fixed (rng i (j - i).toNat), q.2) else none
  | _, _ => none
theorem ei_range1 {a : Expr} {fa : EvE} {p pos : Pos} (hg : Gl X "range") (hm : X.mg "range" = none) (ha : EE X a fa) (hs : starEach [a] X.env = [(false, eval a X.env)] := by rfl) : EI X tg (.Call (.Name "range" p) [a] [] pos) (rgI1 fa) :=
  wkI (pi_range1 hg hm (ea_cons ha ea_nil hs) hs) fun σ H R q => by
    obtain ⟨ρ, τ, S, s, S', A, e, k⟩ := q
    obtain ⟨⟨d, S1⟩, e1, e⟩ := bindE e
    cases d <;> simp only at e <;> try cases e
    split at e
    · rename_i hb; cases e
      refine goA (d := [.int _]) A (by show (fa τ S).bind _ = _; rw [e1]; rfl) fun ρ1 vs H1 A1 P1 r1 => ?_
      simp only [RelDs] at r1
      obtain ⟨x, ys, rfl, q, rfl⟩ := r1
      rw [q.int_]
      obtain ⟨b1, b2⟩ := big62_ok hb
      exact ⟨_, rfl, b1, b2, k _ _ _ P1 walk_rng⟩
    · cases e
/-! for -/
def loE (s : Src) (g : D → Tau → Option Tau) (b : EvS) : Nat → Nat → Tau → Sto → Option (Out × Sto)
  | 0, _, τ, S => if s.fin S then some (.nx τ, S) else none
  | m + 1, i, τ, S => (s.get S i).bind fun d => (g d τ).bind fun τ1 => (b τ1 S).bind fun q => (match q.1 with
      | .nx τ2 => loE s g b m (i + 1) τ2 q.2
      | .ct τ2 => loE s g b m (i + 1) τ2 q.2
      | .bk τ2 => some (.nx τ2, q.2)
      | .rt d => some (.rt d, q.2)
      | .ex c fs τ2 => some (.ex c fs τ2, q.2))
def forS (f : EvI) (p : Pat) (b : EvS) : EvS := fun τ S => (f τ S).bind fun r => loE r.1 p.bind b r.1.len 0 τ r.2
theorem es_for {iter : Expr} {body : List Stmt} {fi : EvI} {p : Pat} {fb : EvS} {pos : Pos} (hp : PassesOwn (model X.prog X.w) X.A X.env X.xe) (hc : X.calm = true) (hi : EI X tg iter fi) (hg : PG X tg (trP X.K p)) (hb : ESs W X body fb)
    (hs : ∀ x, foldedSetIterable iter X.env x = pure x := by intro _; rfl) : ES W X (.For tg iter body [] pos) (forS fi p fb) := wkS (ps_for hp hc hi hg hb hs) fun D σ H q => by
  obtain ⟨ρ, τ, S, o, S', A, e, k⟩ := q
  obtain ⟨⟨s, S1⟩, e1, e⟩ := bindE e
  refine ⟨ρ, τ, S, s, S1, A, e1, fun ρ1 J H1 P1 wk => ?_⟩
  refine ⟨fun i m σ2 H2 => ∃ ρ2 τ2 S2, At X.K ρ2 τ2 S2 σ2 H2 ∧ Post X.K ρ H ρ2 H2 S2 ∧ ρ1 <+: ρ2 ∧ ImmL H1 H2 ∧ i + m = s.len ∧ loE s p.bind fb m i τ2 S2 = some (o, S'),
    ⟨s.len, ρ1, τ, S1, A.go P1, P1, List.prefix_rfl, ImmL.refl _, by omega, e⟩, ?_⟩
  rintro i m σ2 H2 ⟨ρ2, τ2, S2, A2, P2, pr, im, hl, e2⟩
  cases m with
  | zero =>
    simp only [loE] at e2
    split at e2
    · rename_i hf; cases e2
      have hi : i = s.len := by omega
      subst hi
      exact .inl ⟨wk.stop ρ2 _ H2 A2.s pr im hf, k ρ2 H2 P2 σ2 A2.t⟩
    · cases e2
  | succ m =>
    obtain ⟨d, e3, e2⟩ := bindE e2
    obtain ⟨τ3, e4, e2⟩ := bindE e2
    obtain ⟨⟨o5, S5⟩, e5, e2⟩ := bindE e2
    obtain ⟨g1, g2⟩ := wk.go ρ2 S2 H2 i d A2.s pr im (by omega) e3
    refine .inr ⟨g1, fun σ' H' => ∃ ρ2 τ2 S2, At X.K ρ2 τ2 S2 σ' H' ∧ Post X.K ρ H ρ2 H' S2 ∧ ρ1 <+: ρ2 ∧ ImmL H1 H' ∧ i + 1 + m = s.len ∧ loE s p.bind fb m (i + 1) τ2 S2 = some (o, S'),
      fun σ' H' q => ⟨m, Nat.lt_succ_self m, q⟩, fun x H3 y => ?_⟩
    obtain ⟨P3, r3⟩ := g2 x H3 y
    obtain ⟨σ4, k1, k2, _⟩ := pat_ok p d x τ2 τ3 σ2 r3 e4 (A2.t.mono (P3.imm A2.s) P3.pre)
    refine k1 _ ⟨ρ2, τ3, S2, o5, S5, ⟨P3.rel, k2⟩, e5, fun ρ6 H6 P6 => ?_⟩
    have PP := (P2.trans P3).trans P6
    have im' := (im.trans (P3.immL A2.s)).trans (P6.immL P3.rel)
    cases o5 with
    | nx τ6 => exact fun σ6 t6 => ⟨ρ6, τ6, S5, ⟨P6.rel, t6⟩, PP, pr.trans P6.pre, im', by omega, e2⟩
    | ct τ6 => exact fun σ6 t6 => ⟨ρ6, τ6, S5, ⟨P6.rel, t6⟩, PP, pr.trans P6.pre, im', by omega, e2⟩
    | bk τ6 => cases e2; exact fun σ6 t6 => k ρ6 H6 PP σ6 t6
    | rt d => cases e2; exact fun v r => k ρ6 H6 PP v r
    | ex c fs τ6 => cases e2; exact fun σ6 t6 => k ρ6 H6 PP σ6 t6
/-! comprehensions -/
def lcL (s : Src) (g : D → Tau → Option Tau) (t : EvT) (f : EvE) (τ : Tau) : Nat → Nat → List D → Sto → Option (List D × Sto)
  | 0, _, acc, S => if s.fin S then some (acc, S) else none
  | m + 1, i, acc, S => (s.get S i).bind fun d => (g d τ).bind fun τ1 => (t τ1 S).bind fun q => if q.1 then (f τ1 q.2).bind fun r => if acc.length ≤ 10000000 then lcL s g t f τ m (i + 1) (acc ++ [r.1]) r.2 else none
      else lcL s g t f τ m (i + 1) acc q.2
def lcE (fi : EvI) (p : Pat) (t : EvT) (f : EvE) (vs : List Nat) : EvE := fun τ S => (fi τ S).bind fun r => (lcL r.1 p.bind t f (wipeT τ vs) r.1.len 0 [] r.2).map fun q => newD (.lst q.1) q.2
def yesT : EvT := fun _ S => some (true, S)
theorem et_yes : PTs X [] (tT X.K yesT) := ⟨fun pins s σ H Q I q => pts_nil.run pins s σ H Q I (by
  obtain ⟨ρ, τ, S, d, S', A, e, k⟩ := q
  cases e
  exact k ρ H A.refl)⟩
theorem et_one {c : Expr} {f : EvT} (h : ET X c f) : PTs X [c] (tT X.K f) := pts_one h
/-- a list beside the store that is grown -/
theorem RelS.beside (R : RelS K ρ S H) {p : Addr} {xs ys : List V} (hp : p ∉ ρ) (h : H p = some (.lst xs)) : RelS K ρ S (upd H p (.lst ys)) ∧ Imm H (upd H p (.lst ys)) := by
  have im : Imm H (upd H p (.lst ys)) := ⟨fun a zs q => by
      have ne : a ≠ p := fun e => by rw [e, h] at q; cases q
      rw [upd_ne ne]; exact q, fun a o u _ q => by
      have ne : a ≠ p := fun e => by rw [e, h] at q; cases q
      rw [upd_ne ne]; exact q⟩
  refine ⟨⟨R.len, R.nd, fun n ob e => ?_⟩, im⟩
  obtain ⟨a, ha, q⟩ := R.obj n ob e
  have ne : a ≠ p := fun e => hp (by rw [← e]; exact List.mem_of_getElem? ha)
  exact ⟨a, ha, q.mono im List.prefix_rfl (upd_ne ne)⟩
/-- .. becomes an object of the store -/
theorem RelS.adopt (R : RelS K ρ S H) {p : Addr} {ds : List D} {xs : List V} (hp : p ∉ ρ) (h : H p = some (.lst xs)) (r : RelDs K ρ H ds xs) : RelS K (ρ ++ [p]) (S ++ [.lst ds]) H := by
  refine ⟨by simp [R.len], ?_, fun n ob e => ?_⟩
  · rw [List.nodup_append]
    refine ⟨R.nd, by simp, fun a ha b hb => ?_⟩
    simp at hb; subst hb
    exact fun e => hp (e ▸ ha)
  · rw [List.getElem?_append] at e
    split at e
    · obtain ⟨a, ha, q'⟩ := R.obj n ob e
      exact ⟨a, prefix_get (List.prefix_append _ _) ha, q'.mono (Imm.refl _) (List.prefix_append _ _) rfl⟩
    · rename_i hn
      have hn' : n = S.length := by
        cases hk : n - S.length with
        | zero => omega
        | succ k => rw [hk] at e; simp at e
      subst hn'
      simp at e; subst e
      exact ⟨p, by rw [← R.len]; simp, xs, h, r.mono (Imm.refl _) (List.prefix_append _ _)⟩
theorem lc_ok {fi : EvI} {p : Pat} {t : EvT} {f : EvE} {vs : List Nat} (hv : ∀ i ∈ p.slots, i ∈ vs) (σ : St) (H : Hp) (Q : VK) (q : tE K (lcE fi p t f vs) σ H Q) : tLc (tI K fi) (trP K p) (tT K t) (tE K f) vs σ H Q := by
  obtain ⟨ρ, τ, S, o, S', A, e, k⟩ := q
  obtain ⟨⟨s, S1⟩, e1, e⟩ := bindE e
  obtain ⟨⟨res, S2⟩, e2, e⟩ := Option.map_eq_some_iff.mp e
  simp only [newD, Prod.mk.injEq] at e
  obtain ⟨rfl, rfl⟩ := e
  refine ⟨ρ, τ, S, s, S1, A, e1, fun ρ1 J H1 P1 wk Dd hD => ?_⟩
  have A1 := A.go P1
  have P1' := A1.s.side hD (.lst [])
  have hDρ : Dd ∉ ρ1 := fun m => A1.s.ne_n m hD
  refine ⟨fun i m H2 => ∃ ρ2 S2' acc xs, RelS K ρ2 S2' H2 ∧ Post K ρ1 H1 ρ2 H2 S2' ∧ H2 Dd = some (.lst xs) ∧ Dd ∉ ρ2 ∧ RelDs K ρ2 H2 acc xs ∧ i + m = s.len ∧ lcL s p.bind t f (wipeT τ vs) m i acc S2' = some (res, S2),
    ⟨s.len, ρ1, S1, [], [], P1'.rel, P1', upd_same, hDρ, .nil, by omega, e2⟩, ?_⟩
  rintro i m H2 ⟨ρ2, S3, acc, xs, R2, P2, h2, hn2, q2, hl, e3⟩
  have im2 := P2.imm A1.s
  cases m with
  | zero =>
    simp only [lcL] at e3
    split at e3
    · rename_i hf; cases e3
      have hi : i = s.len := by omega
      subst hi
      refine .inl ⟨wk.stop ρ2 _ H2 R2 P2.pre (P2.immL A1.s) hf, ?_⟩
      have R3 := R2.adopt hn2 h2 q2
      refine k (ρ2 ++ [Dd]) _ H2 (P1.trans ⟨R3, P2.pre.trans (List.prefix_append _ _), fun a ob hna h => ?_, P2.lck⟩) (RelD.loc (by rw [← R2.len]; simp))
      obtain ⟨n1, h1⟩ := P2.keep a ob hna h
      refine ⟨?_, h1⟩
      rw [List.mem_append]; rintro (m | m)
      · exact n1 m
      · simp at m; rw [m, hD] at h; cases h
    · cases e3
  | succ m =>
    obtain ⟨d, e4, e3⟩ := bindE e3
    obtain ⟨τ4, e5, e3⟩ := bindE e3
    obtain ⟨⟨b, S5⟩, e6, e3⟩ := bindE e3
    obtain ⟨g1, g2⟩ := wk.go ρ2 S3 H2 i d R2 P2.pre (P2.immL A1.s) (by omega) e4
    refine .inr ⟨g1, fun H' => ∃ ρ2 S2' acc xs, RelS K ρ2 S2' H' ∧ Post K ρ1 H1 ρ2 H' S2' ∧ H' Dd = some (.lst xs) ∧ Dd ∉ ρ2 ∧ RelDs K ρ2 H' acc xs ∧ i + 1 + m = s.len ∧ lcL s p.bind t f (wipeT τ vs) m (i + 1) acc S2' = some (res, S2),
      fun H' q => ⟨m, Nat.lt_succ_self m, q⟩, fun x H3 y => ?_⟩
    obtain ⟨P3, r3⟩ := g2 x H3 y
    have im3 := P3.imm R2
    have T3 : RelT K ρ2 H3 (wipeT τ vs) (wipe σ vs) := ((A1.t.mono (im2.trans im3) (P2.pre.trans P3.pre)).wipe vs)
    obtain ⟨σ4, k1, k2, k3⟩ := pat_ok p d x _ τ4 _ r3 e5 T3
    obtain ⟨hn3, h3⟩ := P3.keep Dd _ hn2 h2
    refine k1 _ ⟨by rw [k3 vs hv]; exact wipe_wipe σ vs vs fun _ h => h, ρ2, τ4, S3, b, S5, ⟨P3.rel, k2⟩, e6, fun ρ6 H6 P6 => ?_⟩
    obtain ⟨hn6, h6⟩ := P6.keep Dd _ hn3 h3
    have P26 := (P2.trans P3).trans P6
    have im6 := im3.trans (P6.imm P3.rel)
    have pr6 := P3.pre.trans P6.pre
    cases b with
    | false => exact ⟨ρ6, S5, acc, xs, P6.rel, P26, h6, hn6, q2.mono im6 pr6, by omega, e3⟩
    | true =>
      rw [if_pos rfl] at e3 ⊢
      obtain ⟨⟨z, S7⟩, e7, e3⟩ := bindE e3
      split at e3
      · rename_i hl2
        refine ⟨ρ6, τ4, S5, z, S7, ⟨P6.rel, k2.mono (P6.imm P3.rel) P6.pre⟩, e7, fun ρ8 v8 H8 P8 r8 => ?_⟩
        obtain ⟨hn8, h8⟩ := P8.keep Dd _ hn6 h6
        have q8 := q2.mono (im6.trans (P8.imm P6.rel)) (pr6.trans P8.pre)
        have P28 := P26.trans P8
        obtain ⟨R9, im9⟩ := P8.rel.beside (ys := xs ++ [v8]) hn8 h8
        refine ⟨xs, h8, line_lt (by rw [q8.len]; exact hl2), ρ8, S7, acc ++ [z], xs ++ [v8], R9, ⟨R9, P28.pre, fun a ob hna h => ?_, fun a ob u h => by rw [upd_ne (fun e => by rw [e, hD] at h; cases h)]; exact P28.lck a ob u h⟩, upd_same, hn8, (q8.app (.one r8)).mono im9 List.prefix_rfl, by omega, e3⟩
        obtain ⟨n1, h1⟩ := P28.keep a ob hna h
        have ne : a ≠ Dd := fun e => by rw [e, hD] at h; cases h
        exact ⟨n1, by rw [upd_ne ne]; exact h1⟩
      · cases e3
theorem ee_lc {elt tg iter : Expr} {ifs : List Expr} {scope : Scope} {own : List (Str × Nat)} {pos : Pos} {fi : EvI} {p : Pat} {t : EvT} {f : EvE} (hc : X.calm = true) (hN : X.N.Nodup) (hi : EI X tg iter fi) (ok : BlkOk X.N X.env.scope scope own) (hv : ∀ i ∈ p.slots, i ∈ own.map (·.2))
    (hg : ∀ (s : Shared) (H : Hp) (C : Addr) (cl : List (Str × Addr)) (fp : List Addr), PG (X.blk s H scope (compEnvC scope cl C X.env) fp) tg (trP X.K p)) (ht : ∀ (s : Shared) (H : Hp) (C : Addr) (cl : List (Str × Addr)) (fp : List Addr), PTs (X.blk s H scope (compEnvC scope cl C X.env) fp) ifs (tT X.K t))
    (he : ∀ (s : Shared) (H : Hp) (C : Addr) (cl : List (Str × Addr)) (fp : List Addr), PE (X.blk s H scope (compEnvC scope cl C X.env) fp) elt (tE X.K f)) (hs : ∀ x, foldedSetIterable iter X.env x = pure x := by intro _; rfl) :
    EE X (.ListComp elt [⟨tg, iter, ifs, 0⟩] scope pos) (lcE fi p t f (own.map (·.2))) := wkE (pe_lc hc hN hi ok hg ht he hs) fun σ H Q q => lc_ok hv σ H Q q
theorem es_setLc {i : Nat} {y : Str} {py : Pos} {elt tg iter : Expr} {ifs : List Expr} {scope : Scope} {own : List (Str × Nat)} {pos spos : Pos} {fi : EvI} {p : Pat} {t : EvT} {f : EvE} (hc : X.calm = true) (hN : X.N.Nodup) (hy : X.N[i]? = some y) (hyl : X.env.scope.names.lookup y = some .local)
    (hsw : swapsWith (.ListComp elt [⟨tg, iter, ifs, 0⟩] scope pos) (some (.Name y py)) spos.line X.env = pure true) (hi : EI X tg iter fi) (ok : BlkOk X.N X.env.scope scope own) (hv : ∀ i ∈ p.slots, i ∈ own.map (·.2))
    (hg : ∀ (s : Shared) (H : Hp) (C : Addr) (cl : List (Str × Addr)) (fp : List Addr), PG (X.blk s H scope (compEnvC scope cl C X.env) fp) tg (trP X.K p)) (ht : ∀ (s : Shared) (H : Hp) (C : Addr) (cl : List (Str × Addr)) (fp : List Addr), PTs (X.blk s H scope (compEnvC scope cl C X.env) fp) ifs (tT X.K t))
    (he : ∀ (s : Shared) (H : Hp) (C : Addr) (cl : List (Str × Addr)) (fp : List Addr), PE (X.blk s H scope (compEnvC scope cl C X.env) fp) elt (tE X.K f)) (hs : ∀ x, foldedSetIterable iter X.env x = pure x := by intro _; rfl) :
    ES W X (.Assign [.Name y py] (.ListComp elt [⟨tg, iter, ifs, 0⟩] scope pos) spos) (stS i (lcE fi p t f (own.map (·.2)))) := wkS (ps_setLc hc hN hy hyl hsw hi ok hg ht he hs) fun D σ H q => by
  have h : tAsg (tE X.K (lcE fi p t f (own.map (·.2)))) (tG X.K (patG (.nm i))) D σ H := asS_ok (fun _ _ _ z => z) q
  exact lc_ok hv σ H _ (tE_mono σ H _ _ (fun v H' q => nameG q) h)
end
end SW
/-! enumerate over a tuple, in a for: as the layer's own turn_enum, over Draws. -/
namespace SW
open PySem L2 PyProof.Rows

set_option maxHeartbeats 1000000 in
theorem meets_enum1 {v : Value} {o : Obj} {H : Heap → Prop} (B : Begins v o H) :
    Meets (Builtin.«enumerate.__new__» ⟨[.type "enumerate", v], []⟩) (fun _ R s => H s.heap ∧
      R (.ok (.ret (.ref (s.heap.push o).objs.size))) { s with heap := (s.heap.push o).push { cls := .type "enumerate", data := .fields #[.none, .bool false, .ref s.heap.objs.size, rawInt 0, .none, .none] } }) :=
  .of_wp fun prog w A R s h => by
    obtain ⟨hp, g, d, tk, os⟩ := s; obtain ⟨h1, h⟩ := h
    have hsub := sub_enumerate
    have q1 : ∀ {A' : Around} {E : Value → Shared → Prop} {Q : Value → Shared → Prop}, Q (.ref hp.objs.size) ⟨hp.push o, g, d, tk, os⟩ → wpAny (model prog w) A' (pyIter v) Q E ⟨hp, g, d, tk, os⟩ :=
      fun q => B.iter prog w _ _ ⟨hp, g, d, tk, os⟩ _ h1 q
    wp_walk using q1
    refine wpAny_stack_any fun st => wpAny_pure ?_
    split
    · rename_i c _ _ _ _ _
      cases (c == Value.type "enumerate")
      · wp_walk using q1
        exact ⟨_, rfl, h⟩
      · wp_walk using q1
        exact ⟨_, rfl, h⟩
    · wp_walk using q1
      exact ⟨_, rfl, h⟩
section
variable {prog : Program} {w : World} {A : Around} {E : Value → Shared → Prop} {s : Shared}
theorem enum_begins1 {v : Value} {o : Obj} {H : Heap → Prop} {Q : Value → Shared → Prop} (B : Begins v o H) (h1 : H s.heap)
    (h : ∀ h', IsEnum h' (s.heap.objs.size + 1) s.heap.objs.size 0 .none → h'.get? s.heap.objs.size = some o → h'.objs.size = s.heap.objs.size + 2 →
      (∀ b o, s.heap.get? b = some o → h'.get? b = some o) → Q (.ref (s.heap.objs.size + 1)) { s with heap := h' }) :
    wpAny (model prog w) A (call (.type "enumerate") [v]) Q E s := by
  refine callType_new F.called_enumerate (by decide) (F.typeCall_enumerate_1 _) (F.newCall_enumerate_1 _) (fun obj => F.args_object_init_2 obj _) F.entry_enumerate_new
    (meets_enum1 B) ⟨h1, ?_⟩
  have hz : (s.heap.push o).objs.size = s.heap.objs.size + 1 := Heap.size_push ..
  show _ ∧ _
  rw [hz]
  have he : IsEnum ((s.heap.push o).push { cls := .type "enumerate", data := .fields #[.none, .bool false, .ref s.heap.objs.size, rawInt 0, .none, .none] }) (s.heap.objs.size + 1) s.heap.objs.size 0 .none := by
    have := Heap.get?_push_size (s.heap.push o) (o := { cls := .type "enumerate", data := .fields #[.none, .bool false, .ref s.heap.objs.size, rawInt 0, .none, .none] }) rfl
    rw [hz] at this; exact this
  refine ⟨⟨_, he, rfl⟩, h _ he (Heap.get?_push_of_some _ (Heap.get?_push_size _ B.free)) (by rw [Heap.size_push, hz]) fun b o x => Heap.get?_push_of_some _ (Heap.get?_push_of_some _ x)⟩
end

theorem pyNext_enumT_end {prog : Program} {w : World} {A : Around} {E : Value → Shared → Prop} {s : Shared} {e it l : Addr} {i : Nat} {items : Array Value} {old : Value} {Q : Option Value → Shared → Prop} (hh : A.handled = none)
    (he : IsEnum s.heap e it i old) (hit : s.heap.IsTupleIter it l i) (hl : s.heap.IsTuple l items) (hx : items[i]? = none)
    (hQ : ∀ h', Heap.ExtBut it s.heap h' → Q none { s with heap := h' }) : wpAny (model prog w) A (pyNext (.ref e)) Q E s := by
  have hT : s.TypeIs (.ref e) "enumerate" := ⟨_, he, rfl⟩
  unfold pyNext
  refine wpAny_bind (wpAny_attempt (wpAny_callSpecial?_slot (name := Str.ofString "__next__") hT F.slot_enumerate_next
    (wpAny_call_entry F.slot_enumerate_next hT F.entry_enumerate_next ?_ (F.args_enumerate_next_1 _))))
  show wpAny _ _ (field (.ref e) 2 >>= _) _ _ _
  refine wpAny_bind (wpAny_field he rfl (x := .ref it) rfl ?_)
  refine wpAny_bind (wpAny_nextOf_tuple_end hh hit hl hx fun h' x he' hx' => ?_)
  obtain ⟨o, ho, hc⟩ := hx'
  refine wpAny_bind (wpAny_isInstance (T := "StopIteration") (b := true) ⟨o, ho, hc⟩ isSubtype_stop ?_)
  exact wpAny_pure (hQ _ he')
/-- the tuple at a, its items with their places in new pairs -/
def IteT (K : PySem.W.Frag) (a : Addr) : It :=
  ⟨fun i H => ∃ (xs : List V) (x : V), SqT K H a xs ∧ xs[i]? = some x, fun i H v H' => ∃ T x, v = .ref T ∧ H T = none ∧ H' = upd H T (.tup [.int (i : Nat), x]) ∧ ∀ xs, SqT K H a xs → xs[i]? = some x, fun i H => ∃ xs : List V, SqT K H a xs ∧ xs.length ≤ i⟩
theorem turn_enumT {P : Program} {w : World} {K : PySem.W.Frag} {elts : List Expr} {kk : Nat} {tpos : Pos} (a e it : Addr) (hai : a ≠ it) :
    Turn P w K (.Tuple elts kk tpos) (IteT K a) [e, it] e (fun i h => (∃ old, IsEnum h e it ((i : Nat) : Int) old) ∧ h.IsTupleIter it a i ∧ e ≠ it) where
  mem := by simp
  obj := fun i h st b hb => by
    obtain ⟨⟨old, he⟩, ⟨o, ho, hc, hd⟩, _⟩ := st
    have e' : b = e ∨ b = it := by simpa using hb
    rcases e' with z | z
    · rw [z]; exact ⟨_, he, fun v q => nomatch q⟩
    · rw [z]; exact ⟨o, ho, fun v q => by rw [hd] at q; cases q⟩
  keep := fun i h h' st k => let ⟨⟨old, he⟩, hi, hne⟩ := st; ⟨⟨old, k e (by simp) _ he⟩, hi.at fun o q => k it (by simp) o q, hne⟩
  item := by
    intro X hP hw hK hc i pins s σ H E I hf st hg
    subst hP hw hK
    obtain ⟨⟨old, he⟩, hit, hne⟩ := st
    obtain ⟨xs, x, hq, hx⟩ := hg
    obtain ⟨its, rv, p, hz⟩ := I.tuple hq
    obtain ⟨u, hu, ru⟩ := rv.get hx
    have hel : e < s.heap.objs.size := Heap.lt_size he
    have hil : it < s.heap.objs.size := by obtain ⟨_, q, _⟩ := hit; exact Heap.lt_size q
    have hea : e ≠ a := fun z => by
      obtain ⟨o, ho, hc', _⟩ := p
      rw [← z, he] at ho; cases ho
      exact absurd (Value.type.inj hc') (by decide)
    have hlt : i < its.toArray.size := by
      have := (List.getElem?_eq_some_iff.mp hu).1; simpa using this
    refine wpAny_pyNext_enum_itemD (Draws.tuple (A := X.A.in1) (by exact I.ok.hd hc) it a hai its.toArray) he ⟨hit, p⟩ hlt hne (by simp [hne, hea]) fun y h' tk hy ho hst hT hsz hk => ?_
    obtain ⟨hit', _⟩ := hst
    have hy' : y = u := by
      have h2 : its.toArray[i]? = some u := by simpa using hu
      rw [h2] at hy; exact (Option.some.inj hy).symm
    subst hy'
    refine ⟨_, rfl, wpAny_letOwnedTupleGo_enum (s := { s with heap := h', toks := tk + 1 }) ho fun h'' he' sb => ?_⟩
    have hT2 : h''.get? s.heap.objs.size = some { cls := .type "tuple", data := .seq #[.int i tk, y] } := (sb.2 _ (Nat.ne_of_gt hel)).trans hT
    have new : ObjOk X.prog X.w (upd H s.heap.objs.size (.tup [.int (i : Nat), x])) h'' s.heap.objs.size (.tup [.int (i : Nat), x]) :=
      ⟨by show 2 ≤ sizeLine; decide, [.int i tk, y], .cons ⟨_, rfl⟩ (.cons ru .nil), ⟨_, hT2, rfl, _, rfl⟩⟩
    have I1 : Inv X pins σ (upd H s.heap.objs.size (.tup [.int (i : Nat), x])) { s with heap := h'', toks := tk + 1 } :=
      I.turnedNew (ch := [e, it]) (fun b ob hb q => (sb.2 b (fun z => hb (by simp [z]))).trans (hk b ob (fun z => hb (by simp [z])) (fun z => hb (by simp [z])) q)) hf (Nat.le_refl _) new
    refine ⟨.ref s.heap.objs.size, _, I1, rfl, ⟨_, x, rfl, I.hok.fresh (Nat.le_refl _), rfl, fun ys hy => by rw [I.tuple_inj hy hq]; exact hx⟩, ⟨⟨y, ?_⟩, hit'.at fun o q => (sb.2 it (Ne.symm hne)).trans q, hne⟩, fun b hb => ?_⟩
    · have e1 : ((i + 1 : Nat) : Int) = (i : Int) + 1 := by omega
      rw [e1]; exact he'
    · have hb' : b < s.heap.objs.size := by
        have e' : b = e ∨ b = it := by simpa using hb
        rcases e' with z | z
        · rw [z]; exact hel
        · rw [z]; exact hil
      rw [upd_ne (Nat.ne_of_lt hb')]
      exact (hf b hb).1
  done := by
    intro X hP hw hK hc i pins s σ H E I hf st hg
    subst hP hw hK
    obtain ⟨⟨old, he⟩, hit, hne⟩ := st
    obtain ⟨xs, hq, hx⟩ := hg
    obtain ⟨its, rv, p, hz⟩ := I.tuple hq
    obtain ⟨f0, f1, f2, f3, f4, f5⟩ := hf it (by simp)
    have hl := rv.length
    exact pyNext_enumT_end (I.ok.hd hc) he hit p (by simp; omega) fun h' eb => ⟨rfl, I.turned (t' := s.toks) (fun b o hb q => eb b o hb q) f0 f1 f3 f4 f5⟩
  self := fun A i s Q E st h => let ⟨⟨_, he⟩, _⟩ := st; wpAny_pyIter_enum he h
def iEnumT (K : PySem.W.Frag) (ta : TA) : TI := fun σ H R => ta σ H fun vs H1 => ∃ a xs, vs = [.ref a] ∧ SqT K H1 a xs ∧ R (IteT K a) H1
theorem pi_enumT {X : Cx} {e : Expr} {ta : TA} {p pos tpos : Pos} {elts : List Expr} {kk : Nat} (hg : Gl X "enumerate") (hm : X.mg "enumerate" = none) (ha : PA X [e] ta) (hs : starEach [e] X.env = [(false, eval e X.env)] := by rfl) :
    PI X (.Tuple elts kk tpos) (.Call (.Name "enumerate" p) [e] [] pos) (iEnumT X.K ta) := by
  refine ⟨fun pins s σ H R I h => ?_⟩
  refine Call_ (ld_blt I hg hm boot_enumerate (PyProof.Rows.callWith_type1 (thn (ha.run pos pins s σ H _ I h) fun us s1 ⟨vs, H1, I1, r1, q1⟩ => ?_) hs rfl))
  obtain ⟨a, xs, ex, hq, q⟩ := q1
  subst ex
  cases r1 with
  | cons r rr =>
    cases rr
    cases r
    obtain ⟨its, rv, p', hz⟩ := I1.tuple hq
    refine enum_begins1 (begins_tuple a its.toArray) p' fun h' he hit hsz hk => wpAny_pyIter_enum he ?_
    have I2 : Inv X pins σ H1 { s1 with heap := h' } := I1.kept (t' := s1.toks) hk
    have hal : a ≠ s1.heap.objs.size := Nat.ne_of_lt (by obtain ⟨_, q, _⟩ := p'; exact Heap.lt_size q)
    refine ⟨s1.heap.objs.size + 1, [s1.heap.objs.size + 1, s1.heap.objs.size], _, _, H1, rfl, I2, turn_enumT a (s1.heap.objs.size + 1) s1.heap.objs.size hal, ⟨⟨.none, he⟩, ⟨_, hit, rfl, rfl⟩, Nat.succ_ne_self _⟩, fun b hb => ?_, q⟩
    have e' : b = s1.heap.objs.size + 1 ∨ b = s1.heap.objs.size := by simpa using hb
    have hle : s1.heap.objs.size ≤ b := by
      rcases e' with z | z
      · rw [z]; exact Nat.le_add_right _ _
      · rw [z]; exact Nat.le_refl _
    exact I1.fpOk hle (I1.hok.fresh hle)
end SW
namespace SW
open PySem L2

section
variable {X : Cx} {K : PySem.W.Frag} {ρ ρ' : List Addr} {S S' : Sto} {H H' : Hp} {τ : Tau} {σ : St} {tg e : Expr}
/-! ### slices -/
def tO (K : PySem.W.Frag) (f : Tau → Sto → Option (Option Int × Sto)) : TO := fun σ H Q => ∃ ρ τ S d S', At K ρ τ S σ H ∧ f τ S = some (d, S') ∧ ∀ ρ' H', Post K ρ H ρ' H' S' → Q d H'
abbrev EvO := Tau → Sto → Option (Option Int × Sto)
def noO : EvO := fun _ S => some (none, S)
def someO (f : EvE) : EvO := fun τ S => (f τ S).bind fun p => match p.1 with | .int i => some (some i, p.2) | _ => none
theorem eo_some {f : EvE} (h : EE X e f) : PO X (some e) (tO X.K (someO f)) := ⟨fun pins s σ H Q I q => (po_some h).run pins s σ H Q I (by
  obtain ⟨ρ, τ, S, d, S', A, e, k⟩ := q
  obtain ⟨⟨x, S1⟩, e1, e⟩ := bindE e
  refine goE A e1 fun ρ1 v1 H1 A1 P1 r1 => ?_
  cases x <;> cases e
  exact ⟨_, r1.int_, k _ _ P1⟩)⟩
def cutD (xs : List D) (lo hi : Option Int) : List D := (xs.drop (HT.sIx xs.length 0 lo)).take (HT.sIx xs.length xs.length hi - HT.sIx xs.length 0 lo)
theorem cut_rel {ds : List D} {xs : List V} (q : RelDs K ρ H ds xs) (lo hi : Option Int) : RelDs K ρ H (cutD ds lo hi) (cutV xs lo hi) := by
  unfold cutD cutV
  rw [q.len]
  exact (q.drop _).take _
def slD (x : D) (lo hi : Option Int) (S : Sto) : Option (D × Sto) := match x with
  | .tup ds => some (.tup (cutD ds lo hi), S)
  | .fl ds => some (newD (.lst (cutD ds lo hi)) S)
  | .loc n => match S[n]? with
    | some (.lst ds) => some (newD (.lst (cutD ds lo hi)) S)
    | _ => none
  | _ => none
def slE (f : EvE) (a b : EvO) : EvE := fun τ S => (f τ S).bind fun p => (a τ p.2).bind fun q => (b τ q.2).bind fun r => slD p.1 q.1 r.1 r.2
theorem ee_slice {lo hi : Option Expr} {f : EvE} {a b : EvO} {p2 pos : Pos} (he : EE X e f) (hl : PO X lo (tO X.K a)) (hh : PO X hi (tO X.K b)) : EE X (.Subscript e (.Slice lo hi none p2) pos) (slE f a b) :=
  wkE (pe_slice (sl_list.or sl_tupA) he hl hh) fun σ H Q q => by
    obtain ⟨ρ, τ, S, d, S', A, e, k⟩ := q
    obtain ⟨⟨x, S1⟩, e1, e⟩ := bindE e
    obtain ⟨⟨l, S2⟩, e2, e⟩ := bindE e
    obtain ⟨⟨h, S3⟩, e3, e⟩ := bindE e
    refine goE A e1 fun ρ1 v1 H1 A1 P1 r1 => ⟨ρ1, τ, S1, l, S2, A1, e2, fun ρ2 H2 P2 => ?_⟩
    have A2 := A1.go P2
    refine ⟨ρ2, τ, S2, h, S3, A2, e3, fun ρ3 H3 P3 => ?_⟩
    have A3 := A2.go P3
    have P13 := P2.trans P3
    have r3 := r1.mono (P13.imm A1.s) P13.pre
    have PP := P1.trans P13
    cases x <;> simp only [slD] at e <;> try cases e
    · obtain ⟨c, xs, rfl, hc, q⟩ := r3.tup_
      have cr := cut_rel q l h
      refine .inr ⟨c, xs, rfl, SqT.of hc, fun w => ?_, fun w p hp => ?_⟩
      · refine k ρ3 _ H3 PP (RelD.tup hc ?_)
        have : cutV xs l h = xs := by
          unfold cutV
          rw [w.1, w.2]; simp
        rw [this] at cr; exact cr
      · obtain ⟨P, r⟩ := A3.s.new_tup hp cr
        exact k _ _ _ (PP.trans P) r
    · obtain ⟨c, xs, rfl, hc, q⟩ := r3.fl_
      refine .inl ⟨c, xs, rfl, hc.sqL, fun p hp => ?_⟩
      obtain ⟨P, r⟩ := new_lst A3.s hp (cut_rel q l h)
      exact k _ _ _ (PP.trans P) r
    · split at e
      · rename_i ds eo; cases e
        obtain ⟨c, xs, rfl, _, hc, q⟩ := A3.s.lst eo r3
        refine .inl ⟨c, xs, rfl, SqL.of hc, fun p hp => ?_⟩
        obtain ⟨P, r⟩ := new_lst A3.s hp (cut_rel q l h)
        exact k _ _ _ (PP.trans P) r
      · cases e

/-! ### built-in functions -/
theorem ee_cb {es : List Expr} {e0 : Expr} {id : String} {x : Str} {r : List V → Hp → VK → Prop} {g : List D → Sto → Option (D × Sto)} {fa : EvA} {p pos : Pos} (hc : CallR X (.builtin id) r) (hg : OpA X.K r g) (hgl : Gl X x) (hm : X.mg x = none) (hv : bootBuiltins x = some (.builtin id)) (ha : EA X (e0 :: es) fa) (hn : x ≠ "__name__" := by decide) (hdb : (x == ("__debug__" : Str)) = false := by decide)
    (he : starEach (e0 :: es) X.env = (false, eval e0 X.env) :: starEach es X.env := by rfl) (hpl : (backTo pos (starEach es X.env)).any (·.1) = false := by rfl) : EE X (.Call (.Name x p) (e0 :: es) [] pos) (aE g fa) :=
  wkE (pe_callB hc hgl hm hv ha hn hdb he hpl) fun σ H Q q => by
    obtain ⟨ρ, τ, S, d, S', A, e, k⟩ := q
    obtain ⟨⟨x, S1⟩, e1, e⟩ := bindE e
    exact goA A e1 fun ρ1 v1 H1 A1 P1 r1 => hg ρ1 S1 H1 x v1 d S' A1.s r1 e Q fun ρ3 u H3 P3 r3 => k ρ3 u H3 (P1.trans P3) r3
theorem ee_ct {es : List Expr} {e0 : Expr} {T : String} {x : Str} {r : List V → Hp → VK → Prop} {g : List D → Sto → Option (D × Sto)} {fa : EvA} {p pos : Pos} (hc : CallR X (.type T) r) (hg : OpA X.K r g) (hgl : Gl X x) (hm : X.mg x = none) (hv : bootBuiltins x = some (.type T)) (ha : EA X (e0 :: es) fa) (hn : x ≠ "__name__" := by decide) (hdb : (x == ("__debug__" : Str)) = false := by decide)
    (he : starEach (e0 :: es) X.env = (false, eval e0 X.env) :: starEach es X.env := by rfl) (hpl : (backTo pos (starEach es X.env)).any (·.1) = false := by rfl) : EE X (.Call (.Name x p) (e0 :: es) [] pos) (aE g fa) :=
  wkE (pe_callTy hc hgl hm hv ha hn hdb he hpl) fun σ H Q q => by
    obtain ⟨ρ, τ, S, d, S', A, e, k⟩ := q
    obtain ⟨⟨x, S1⟩, e1, e⟩ := bindE e
    exact goA A e1 fun ρ1 v1 H1 A1 P1 r1 => hg ρ1 S1 H1 x v1 d S' A1.s r1 e Q fun ρ3 u H3 P3 r3 => k ρ3 u H3 (P1.trans P3) r3
theorem RelDs.one_ {d : D} {vs : List V} (h : RelDs K ρ H [d] vs) : ∃ v, vs = [v] ∧ RelD K ρ H d v := by
  simp only [RelDs] at h
  obtain ⟨x, ys, rfl, r, rfl⟩ := h
  exact ⟨x, rfl, r⟩
theorem RelDs.two_ {d e : D} {vs : List V} (h : RelDs K ρ H [d, e] vs) : ∃ v w, vs = [v, w] ∧ RelD K ρ H d v ∧ RelD K ρ H e w := by
  simp only [RelDs] at h
  obtain ⟨x, ys, rfl, r, y, zs, rfl, r2, rfl⟩ := h
  exact ⟨x, y, rfl, r, r2⟩
/-- what a list or a tuple holds -/
def itemsOf (d : D) (S : Sto) : Option (List D) := match d with
  | .tup ds => some ds
  | .fl ds => some ds
  | .loc n => match S[n]? with
    | some (.lst ds) => some ds
    | _ => none
  | _ => none
theorem itemsOf_rel (R : RelS K ρ S H) {d : D} {v : V} {ds : List D} (r : RelD K ρ H d v) (e : itemsOf d S = some ds) :
    ∃ a xs, v = .ref a ∧ RelDs K ρ H ds xs ∧ ((SqL K H a xs ∧ ∀ es, d ≠ .tup es) ∨ (SqT K H a xs ∧ d = .tup ds)) := by
  cases d <;> simp only [itemsOf] at e <;> try cases e
  · obtain ⟨a, xs, rfl, h, q⟩ := r.tup_
    exact ⟨a, xs, rfl, q, .inr ⟨SqT.of h, rfl⟩⟩
  · obtain ⟨a, xs, rfl, h, q⟩ := r.fl_
    exact ⟨a, xs, rfl, q, .inl ⟨h.sqL, fun _ => nofun⟩⟩
  · split at e
    · rename_i es eo; cases e
      obtain ⟨a, xs, rfl, _, h, q⟩ := R.lst eo r
      exact ⟨a, xs, rfl, q, .inl ⟨SqL.of h, fun _ => nofun⟩⟩
    · cases e
def lenD (as : List D) (S : Sto) : Option (D × Sto) := match as with
  | [.str x] => if x.length ≤ 10000000 then some (.int x.length, S) else none
  | [.loc n] => match S[n]? with
    | some (.lst ds) => some (.int ds.length, S)
    | some (.dK kvs) => some (.int kvs.length, S)
    | some (.dT kvs) => some (.int kvs.length, S)
    | some (.dN kvs) => some (.int kvs.length, S)
    | _ => none
  | [.tup ds] => some (.int ds.length, S)
  | [.fl ds] => some (.int ds.length, S)
  | _ => none
def rLenN : List V → Hp → VK → Prop := fun xs H Q => ∃ p ns, xs = [.ref p] ∧ DN H p ns ∧ Q (.int ns.length) H
theorem call_len_dN {X : Cx} : CallR X (.builtin "len") rLenN := by
  intro pins s σ H xs us Q I r h
  obtain ⟨p, ns, rfl, D, q⟩ := h
  obtain ⟨u, rfl, rx⟩ := vals1 r
  obtain rfl : u = .ref p := rx
  exact n_len I D fun t s' I' => ⟨.int ((ns.length : Nat) : Int), H, I', ⟨_, rfl⟩, q⟩
def rLenE (K : PySem.W.Frag) : List V → Hp → VK → Prop := fun xs H Q => (∃ x n, xs = [x] ∧ LenV K x H n ∧ Q (.int n) H) ∨ ((∃ p kvs, xs = [.ref p] ∧ H p = some (.dK kvs) ∧ Q (.int kvs.length) H) ∨ (rLenT xs H Q ∨ rLenN xs H Q))

theorem opr_len : CallR X (.builtin "len") (rLenE X.K) := orC call_len (orC call_lenD (orC call_len_dT call_len_dN))
theorem opa_len : OpA K (rLenE K) lenD := fun ρ S H x v d S' R r e Q k => by
  unfold lenD at e
  split at e
  · split at e
    · rename_i hl; cases e
      obtain ⟨w, rfl, q⟩ := r.one_
      rw [q.str_]
      exact .inl ⟨_, _, rfl, ⟨line_of hl, rfl⟩, kRefl R k (RelD.int _)⟩
    · cases e
  · obtain ⟨w, rfl, q⟩ := r.one_
    split at e
    · rename_i ds eo; cases e
      obtain ⟨a, xs, rfl, _, h, q⟩ := R.lst eo q
      exact .inl ⟨_, _, rfl, .inl ⟨xs, SqL.of h, q.len.symm⟩, kRefl R k (RelD.int _)⟩
    · rename_i ds eo; cases e
      obtain ⟨a, xs, rfl, _, h, q⟩ := R.dK eo q
      exact .inr (.inl ⟨a, xs, rfl, h, by rw [q.len]; exact kRefl R k (RelD.int _)⟩)
    · rename_i ds eo; cases e
      obtain ⟨a, xs, rfl, _, h, q⟩ := R.dT eo q
      exact .inr (.inr (.inl ⟨a, xs, rfl, h, by rw [q.len]; exact kRefl R k (RelD.int _)⟩))
    · rename_i ds eo; cases e
      obtain ⟨a, xs, rfl, _, h, q⟩ := R.dN eo q
      exact .inr (.inr (.inr ⟨a, xs, rfl, q.dn (.inl h), by rw [q.len]; exact kRefl R k (RelD.int _)⟩))
    · cases e
  · obtain ⟨w, rfl, q⟩ := r.one_
    cases e
    obtain ⟨a, xs, rfl, h, q⟩ := q.tup_
    exact .inl ⟨_, _, rfl, .inr ⟨xs, SqT.of h, q.len.symm⟩, kRefl R k (RelD.int _)⟩
  · obtain ⟨w, rfl, q⟩ := r.one_
    cases e
    obtain ⟨a, xs, rfl, h, q⟩ := q.fl_
    exact .inl ⟨_, _, rfl, .inl ⟨xs, h.sqL, q.len.symm⟩, kRefl R k (RelD.int _)⟩
  · cases e
def absD (as : List D) (S : Sto) : Option (D × Sto) := match as with
  | [.int i] => some (.int (if i < 0 then -i else i), S)
  | _ => none
theorem opa_abs : OpA K (fun xs H Q => ∃ i, xs = [.int i] ∧ Q (.int (if i < 0 then -i else i)) H) absD := fun ρ S H x v d S' R r e Q k => by
  unfold absD at e
  split at e
  · cases e
    obtain ⟨w, rfl, q⟩ := r.one_
    exact ⟨_, by rw [q.int_], kRefl R k (RelD.int _)⟩
  · cases e
def max2D (as : List D) (S : Sto) : Option (D × Sto) := match as with
  | [.int i, .int j] => some (.int (if j > i then j else i), S)
  | _ => none
theorem opa_max2 : OpA K (fun xs H Q => ∃ i j, xs = [.int i, .int j] ∧ Q (.int (if j > i then j else i)) H) max2D := fun ρ S H x v d S' R r e Q k => by
  unfold max2D at e
  split at e
  · cases e
    obtain ⟨w, w2, rfl, q, q2⟩ := r.two_
    exact ⟨_, _, by rw [q.int_, q2.int_], kRefl R k (RelD.int _)⟩
  · cases e
def min2D (as : List D) (S : Sto) : Option (D × Sto) := match as with
  | [.int i, .int j] => some (.int (if j < i then j else i), S)
  | _ => none
def intD (as : List D) (S : Sto) : Option (D × Sto) := match as with
  | [.int i] => some (.int i, S)
  | [.bl b] => some (.int (if b then 1 else 0), S)
  | _ => none
theorem opa_int : OpA K (fun xs H Q => (∃ i, xs = [.int i] ∧ Q (.int i) H) ∨ ∃ k, xs = [.bl k] ∧ Q (.int (if k then 1 else 0)) H) intD := fun ρ S H x v d S' R r e Q k => by
  unfold intD at e
  split at e
  · cases e
    obtain ⟨w, rfl, q⟩ := r.one_
    exact .inl ⟨_, by rw [q.int_], kRefl R k (RelD.int _)⟩
  · cases e
    obtain ⟨w, rfl, q⟩ := r.one_
    exact .inr ⟨_, by rw [q.bl_], kRefl R k (RelD.int _)⟩
  · cases e
def divmodD (as : List D) (S : Sto) : Option (D × Sto) := match as with
  | [.int i, .int j] => if 0 < j ∧ j < 1073741824 then some (.tup [.int (i / j), .int (i % j)], S) else none
  | _ => none
theorem opa_divmod : OpA K (fun xs H Q => ∃ i j, xs = [.int i, .int j] ∧ CDiv i j ∧ ∀ p, H p = none → Q (.ref p) (upd H p (.tup [.int (i / j), .int (i % j)]))) divmodD := fun ρ S H x v d S' R r e Q k => by
  unfold divmodD at e
  split at e
  · split at e
    · rename_i hl; cases e
      obtain ⟨w, w2, rfl, q, q2⟩ := r.two_
      refine ⟨_, _, by rw [q.int_, q2.int_], hl, fun p hp => ?_⟩
      obtain ⟨P, r⟩ := R.new_tup (ds := [.int _, .int _]) (xs := [.int _, .int _]) hp (.cons (RelD.int _) (.one (RelD.int _)))
      exact k _ _ _ P r
    · cases e
  · cases e
/-- what a list holds -/
def lsOf (d : D) (S : Sto) : Option (List D) := match d with
  | .fl ds => some ds
  | .loc n => match S[n]? with
    | some (.lst ds) => some ds
    | _ => none
  | _ => none
theorem lsOf_rel (R : RelS K ρ S H) {d : D} {v : V} {ds : List D} (r : RelD K ρ H d v) (e : lsOf d S = some ds) :
    ∃ a xs, v = .ref a ∧ RelDs K ρ H ds xs ∧ SqL K H a xs := by
  cases d <;> simp only [lsOf] at e <;> try cases e
  · obtain ⟨a, xs, rfl, h, q⟩ := r.fl_
    exact ⟨a, xs, rfl, q, h.sqL⟩
  · split at e
    · rename_i es eo; cases e
      obtain ⟨a, xs, rfl, _, h, q⟩ := R.lst eo r
      exact ⟨a, xs, rfl, q, SqL.of h⟩
    · cases e
def blsOf : List D → Option (List Bool)
  | [] => some []
  | .bl i :: ds => (blsOf ds).map (i :: ·)
  | _ => none
def anyD (as : List D) (S : Sto) : Option (D × Sto) := match as with
  | [x] => (lsOf x S).bind fun ds => (blsOf ds).map fun (bs : List Bool) => (.bl (bs.any id), S)
  | _ => none
/-! list(x), tuple(x) -/
def listD (as : List D) (S : Sto) : Option (D × Sto) := match as with
  | [x] => (itemsOf x S).map fun ds => newD (.lst ds) S
  | _ => none
def tupleD (as : List D) (S : Sto) : Option (D × Sto) := match as with
  | [x] => (itemsOf x S).map fun ds => (.tup ds, S)
  | _ => none
theorem opa_tuple : OpA K (fun xs H Q => ∃ p ys, xs = [.ref p] ∧ ((SqL K H p ys ∧ ∀ l, H l = none → Q (.ref l) (upd H l (.tup ys))) ∨ (SqT K H p ys ∧ Q (.ref p) H))) tupleD := fun ρ S H x v d S' R r e Q k => by
  unfold tupleD at e
  split at e
  · obtain ⟨w, rfl, q⟩ := r.one_
    obtain ⟨ds, e1, e⟩ := Option.map_eq_some_iff.mp e
    cases e
    obtain ⟨a, xs, rfl, q1, h | h⟩ := itemsOf_rel R q e1
    · refine ⟨a, xs, rfl, .inl ⟨h.1, fun p hp => ?_⟩⟩
      obtain ⟨P, r⟩ := R.new_tup hp q1
      exact k _ _ _ P r
    · refine ⟨a, xs, rfl, .inr ⟨h.1, ?_⟩⟩
      have q' := q
      rw [h.2] at q'
      exact kRefl R k q'
  · cases e
/-! ### a list's methods -/
def OpM (K : PySem.W.Frag) (r : V → List V → Hp → VK → Prop) (g : D → List D → Sto → Option (D × Sto)) : Prop :=
  ∀ (ρ : List Addr) (S : Sto) (H : Hp) (o : D) (x : List D) (u : V) (v : List V) (d : D) (S' : Sto), RelS K ρ S H → RelD K ρ H o u → RelDs K ρ H x v → g o x S = some (d, S') →
    ∀ Q : VK, (∀ ρ' w H', Post K ρ H ρ' H' S' → RelD K ρ' H' d w → Q w H') → r u v H Q
def isLst (d : D) (S : Sto) : Bool := match d with
  | .fl _ => true
  | .loc n => (lenAt S n).isSome
  | _ => false
def mE (g : D → List D → Sto → Option (D × Sto)) (fo : EvE) (fa : EvA) : EvE := fun τ S => (fo τ S).bind fun p => if isLst p.1 p.2 then (fa τ p.2).bind fun q => g p.1 q.1 q.2 else none
theorem isLst_rel (R : RelS K ρ S H) {d : D} {v : V} (r : RelD K ρ H d v) (e : isLst d S = true) : tyV K "list" v H := by
  cases d <;> simp only [isLst] at e <;> try cases e
  · obtain ⟨a, xs, rfl, h, q⟩ := r.fl_
    exact .inl ⟨rfl, xs, h.sqL⟩
  · rename_i n
    cases el : lenAt S n with
    | none => rw [el] at e; cases e
    | some l =>
      obtain ⟨ds, e1, e2⟩ := lenAt_some el
      obtain ⟨a, xs, rfl, _, h, _⟩ := R.lst e1 r
      exact .inl ⟨rfl, xs, SqL.of h⟩
theorem ee_m {o e0 : Expr} {es : List Expr} {name : Str} {r : V → List V → Hp → VK → Prop} {g : D → List D → Sto → Option (D × Sto)} {fo : EvE} {fa : EvA} {apos cpos : Pos}
    (h : PE X (.Call (.Attribute o name apos) (e0 :: es) [] cpos) (tBM X.K "list" r (tE X.K fo) (tA X.K fa))) (hg : OpM X.K r g) : EE X (.Call (.Attribute o name apos) (e0 :: es) [] cpos) (mE g fo fa) := wkE h fun σ H Q q => by
  obtain ⟨ρ, τ, S, d, S', A, e, k⟩ := q
  obtain ⟨⟨x, S1⟩, e1, e⟩ := bindE e
  split at e
  · rename_i hi
    obtain ⟨⟨ys, S2⟩, e2, e⟩ := bindE e
    refine goE A e1 fun ρ1 v1 H1 A1 P1 r1 => ⟨isLst_rel A1.s r1 hi, goA A1 e2 fun ρ2 v2 H2 A2 P2 r2 => ?_⟩
    exact hg ρ2 S2 H2 x ys v1 v2 d S' A2.s (r1.mono (P2.imm A1.s) P2.pre) r2 e Q fun ρ3 u H3 P3 r3 => k ρ3 u H3 ((P1.trans P2).trans P3) r3
  · cases e
def lstAt (d : D) (S : Sto) : Option (Nat × List D) := match d with
  | .loc n => match S[n]? with
    | some (.lst ds) => some (n, ds)
    | _ => none
  | _ => none
theorem lstAt_rel (R : RelS K ρ S H) {d : D} {v : V} {n : Nat} {ds : List D} (r : RelD K ρ H d v) (e : lstAt d S = some (n, ds)) : S[n]? = some (.lst ds) ∧ ∃ a xs, v = .ref a ∧ ρ[n]? = some a ∧ H a = some (.lst xs) ∧ RelDs K ρ H ds xs := by
  cases d <;> simp only [lstAt] at e <;> try cases e
  split at e
  · rename_i eo; cases e
    exact ⟨eo, R.lst eo r⟩
  · cases e
def appendM (o : D) (as : List D) (S : Sto) : Option (D × Sto) := (lstAt o S).bind fun p => match as with
  | [y] => if p.2.length ≤ 10000000 then some (.non, S.set p.1 (.lst (p.2 ++ [y]))) else none
  | _ => none
theorem opm_append : OpM K rAppend appendM := fun ρ S H o x u v d S' R r1 r2 e Q k => by
  obtain ⟨⟨n, ds⟩, e1, e⟩ := bindE e
  obtain ⟨eo, a, xs, rfl, hn, h, q⟩ := lstAt_rel R r1 e1
  split at e
  · split at e
    · rename_i hl; cases e
      obtain ⟨w, rfl, q2⟩ := r2.one_
      refine ⟨a, xs, w, rfl, rfl, h, line_lt (by rw [q.len]; exact hl), ?_⟩
      exact k _ _ _ (put_lst R hn (by rw [h]; trivial) (q.app (.one q2))) RelD.non
    · cases e
  · cases e
def extendM (o : D) (as : List D) (S : Sto) : Option (D × Sto) := (lstAt o S).bind fun p => match as with
  | [y] => (lstAt y S).bind fun q => if p.2.length + q.2.length ≤ 10000000 then some (.non, S.set p.1 (.lst (p.2 ++ q.2))) else none
  | _ => none
theorem opm_extend : OpM K rExtend extendM := fun ρ S H o x u v d S' R r1 r2 e Q k => by
  obtain ⟨⟨n, ds⟩, e1, e⟩ := bindE e
  obtain ⟨eo, a, xs, rfl, hn, h, q⟩ := lstAt_rel R r1 e1
  split at e
  · obtain ⟨⟨m, es⟩, e2, e⟩ := bindE e
    split at e
    · rename_i hl; cases e
      obtain ⟨w, rfl, q2⟩ := r2.one_
      obtain ⟨eo2, b, ys, rfl, hm, h2, q3⟩ := lstAt_rel R q2 e2
      refine ⟨a, b, xs, ys, rfl, rfl, h, h2, line_of (by rw [q.len, q3.len]; exact hl), ?_⟩
      exact k _ _ _ (put_lst R hn (by rw [h]; trivial) (q.app q3)) RelD.non
    · cases e
  · cases e
end
end SW
namespace SW
open PySem L2

section
variable {X : Cx} {K : PySem.W.Frag} {ρ ρ' : List Addr} {S S' : Sto} {H H' : Hp} {τ : Tau} {σ : St} {tg e : Expr}
/-! ### sources -/
/-- a list as it stands, of that length -/
def lsN (d : D) (n : Nat) (S : Sto) : Option (List D) := (lsOf d S).bind fun ds => if ds.length = n then some ds else none
theorem lsN_rel (R : RelS K ρ S H) {d : D} {v : V} {n : Nat} {ds : List D} (r : RelD K ρ H d v) (e : lsN d n S = some ds) : ds.length = n ∧ ∃ a xs, v = .ref a ∧ RelDs K ρ H ds xs ∧ SqL K H a xs := by
  obtain ⟨es, e1, e⟩ := bindE e
  split at e
  · cases e; exact ⟨by assumption, lsOf_rel R r e1⟩
  · cases e
def pr (i : Int) (d : D) : D := .tup [.int i, d]
def enumsT : Nat → List D → List D
  | _, [] => []
  | i, d :: ds => pr (i : Int) d :: enumsT (i + 1) ds
theorem enumsT_len (i : Nat) (ds : List D) : (enumsT i ds).length = ds.length := by
  induction ds generalizing i with
  | nil => rfl
  | cons d ds ih => simp [enumsT, ih]
theorem enumsT_get : ∀ (ds : List D) (j i : Nat), (enumsT j ds)[i]? = (ds[i]?).map (pr ((j + i : Nat) : Int))
  | [], j, i => by simp [enumsT]
  | d :: ds, j, 0 => by simp [enumsT]
  | d :: ds, j, i + 1 => by
    simp only [enumsT, List.getElem?_cons_succ]
    rw [enumsT_get ds (j + 1) i]
    congr 2
    omega
def srcEnum (d : D) (S : Sto) : Option Src := match d with
  | .tup ds => some (.fixed (enumsT 0 ds))
  | d => (lsOf d S).map fun ds => ⟨ds.length, fun S i => (lsN d ds.length S).bind fun es => (es[i]?).map (pr (i : Int)), fun S => (lsN d ds.length S).isSome⟩
def enI (f : EvE) : EvI := fun τ S => (f τ S).bind fun p => (srcEnum p.1 p.2).map fun s => (s, p.2)
/-- a pair is made anew -/
theorem yld_pair (R : RelS K ρ S H) {T : Addr} (hT : H T = none) {d1 d2 : D} {x1 x2 : V} (r1 : RelD K ρ H d1 x1) (r2 : RelD K ρ H d2 x2) : Post K ρ H ρ (upd H T (.tup [x1, x2])) S ∧ RelD K ρ (upd H T (.tup [x1, x2])) (.tup [d1, d2]) (.ref T) :=
  R.new_tup hT (.cons r1 (.one r2))
theorem walk_enumT {a : Addr} {xs : List V} {ds : List D} (h : H a = some (.tup xs)) (q : RelDs K ρ H ds xs) : Walks K ρ H (IteT K a) (.fixed (enumsT 0 ds)) where
  go := fun ρ1 S1 H1 i d R1 p1 i1 hi hg => by
    simp only [Src.fixed, enumsT_get] at hg
    obtain ⟨d', hd, e⟩ := Option.map_eq_some_iff.mp hg
    subst e
    obtain ⟨v, hv, r⟩ := (q.mono i1.toImm p1).get hd
    have h1 := i1.tup _ _ h
    refine ⟨⟨xs, v, SqT.of h1, hv⟩, fun x H' ⟨T, y, ex, hT, eH, k⟩ => ?_⟩
    subst ex eH
    have := k xs (SqT.of h1)
    rw [hv] at this; cases this
    rw [Nat.zero_add]
    exact yld_pair R1 hT (RelD.int _) r
  stop := fun ρ1 S1 H1 R1 p1 i1 hf => ⟨xs, SqT.of (i1.tup _ _ h), by simp only [Src.fixed, enumsT_len]; rw [q.len]; exact Nat.le_refl _⟩
theorem walk_enumL {a : Addr} {d : D} {n : Nat} (hd : RelD K ρ H d (.ref a)) : Walks K ρ H (Ite K a) ⟨n, fun S i => (lsN d n S).bind fun es => (es[i]?).map (pr (i : Int)), fun S => (lsN d n S).isSome⟩ where
  go := fun ρ1 S1 H1 i d' R1 p1 i1 hi hg => by
    obtain ⟨es, e1, hg⟩ := bindE hg
    obtain ⟨d2, e2, e⟩ := Option.map_eq_some_iff.mp hg
    subst e
    obtain ⟨_, b, xs, eb, q, h1⟩ := lsN_rel R1 (hd.mono i1.toImm p1) e1
    cases eb
    obtain ⟨v, hv, r⟩ := q.get e2
    refine ⟨⟨xs, v, h1, hv⟩, fun x H' ⟨T, y, ex, hT, eH, k⟩ => ?_⟩
    subst ex eH
    have := k xs h1
    rw [hv] at this; cases this
    exact yld_pair R1 hT (RelD.int _) r
  stop := fun ρ1 S1 H1 R1 p1 i1 hf => by
    simp only [Option.isSome_iff_exists] at hf
    obtain ⟨es, e1⟩ := hf
    obtain ⟨hl, b, xs, eb, q, h1⟩ := lsN_rel R1 (hd.mono i1.toImm p1) e1
    cases eb
    exact ⟨xs, h1, by rw [q.len, hl]; exact Nat.le_refl _⟩
theorem ei_enum {elts : List Expr} {kk : Nat} {tpos p pos : Pos} {f : EvE} (hg : Gl X "enumerate") (hm : X.mg "enumerate" = none) (h : EE X e f) (hs : starEach [e] X.env = [(false, eval e X.env)] := by rfl) :
    EI X (.Tuple elts kk tpos) (.Call (.Name "enumerate" p) [e] [] pos) (enI f) := wkI (orI (pi_enum hg hm (ea_cons h ea_nil hs) hs) (pi_enumT hg hm (ea_cons h ea_nil hs) hs)) fun σ H R q => by
  obtain ⟨ρ, τ, S, s, S', A, e, k⟩ := q
  obtain ⟨⟨d, S1⟩, e1, e⟩ := bindE e
  obtain ⟨s', e2, e⟩ := Option.map_eq_some_iff.mp e
  cases e
  have ea : (consA f nilA) τ S = some ([d], S1) := by show (f τ S).bind _ = _; rw [e1]; rfl
  have lst : ∀ (ds : List D), lsOf d S1 = some ds → s = ⟨ds.length, fun S i => (lsN d ds.length S).bind fun es => (es[i]?).map (pr (i : Int)), fun S => (lsN d ds.length S).isSome⟩ → iEnum X.K (tA X.K (consA f nilA)) σ H R := fun ds e3 es => by
    subst es
    refine goA A ea fun ρ1 v1 H1 A1 P1 r1 => ?_
    obtain ⟨v, rfl, r⟩ := r1.one_
    obtain ⟨a, xs, rfl, q, h⟩ := lsOf_rel A1.s r e3
    exact ⟨a, xs, rfl, h, k _ _ _ P1 (walk_enumL r)⟩
  cases d with
  | tup ds =>
    cases e2
    refine .inr (goA A ea fun ρ1 v1 H1 A1 P1 r1 => ?_)
    obtain ⟨v, rfl, r⟩ := r1.one_
    obtain ⟨a, xs, rfl, h, q⟩ := r.tup_
    exact ⟨a, xs, rfl, SqT.of h, k _ _ _ P1 (walk_enumT h q)⟩
  | _ =>
    simp only [srcEnum] at e2
    obtain ⟨ds, e3, e4⟩ := Option.map_eq_some_iff.mp e2
    exact .inl (lst ds e3 e4.symm)
/-! zip -/
def zipsT : List D → List D → List D
  | a :: as, b :: bs => .tup [a, b] :: zipsT as bs
  | _, _ => []
theorem zipsT_len : ∀ (as bs : List D), (zipsT as bs).length = min as.length bs.length
  | [], _ => by simp [zipsT]
  | _ :: _, [] => by simp [zipsT]
  | a :: as, b :: bs => by
    simp only [zipsT, List.length_cons, zipsT_len as bs]; omega
theorem zipsT_get : ∀ (as bs : List D) (i : Nat) (d : D), (zipsT as bs)[i]? = some d → ∃ a b, as[i]? = some a ∧ bs[i]? = some b ∧ d = .tup [a, b]
  | [], _, _, _, h => by simp [zipsT] at h
  | _ :: _, [], _, _, h => by simp [zipsT] at h
  | a :: as, b :: bs, 0, d, h => by simp [zipsT] at h; exact ⟨a, b, rfl, rfl, h.symm⟩
  | a :: as, b :: bs, i + 1, d, h => by
    simp only [zipsT, List.getElem?_cons_succ] at h ⊢
    exact zipsT_get as bs i d h
def srcZip (x y : D) (S : Sto) : Option Src := match x, y with
  | .tup as, .tup bs => some (.fixed (zipsT as bs))
  | x, y => (lsOf x S).bind fun as => (lsOf y S).map fun bs => ⟨min as.length bs.length, fun S i => (lsN x as.length S).bind fun es => (lsN y bs.length S).bind fun fs => (es[i]?).bind fun a => (fs[i]?).map fun b => .tup [a, b],
      fun S => (lsN x as.length S).isSome && (lsN y bs.length S).isSome⟩
def ziI (f g : EvE) : EvI := fun τ S => (f τ S).bind fun p => (g τ p.2).bind fun q => (srcZip p.1 q.1 q.2).map fun s => (s, q.2)
theorem walk_zipT {a b : Addr} {xs ys : List V} {ds es : List D} (h : H a = some (.tup xs)) (q : RelDs K ρ H ds xs) (h2 : H b = some (.tup ys)) (q2 : RelDs K ρ H es ys) : Walks K ρ H (RZ.ItzT K a b) (.fixed (zipsT ds es)) where
  go := fun ρ1 S1 H1 i d R1 p1 i1 hi hg => by
    obtain ⟨d1, d2, g1, g2, rfl⟩ := zipsT_get _ _ _ _ hg
    obtain ⟨v, hv, r⟩ := (q.mono i1.toImm p1).get g1
    obtain ⟨w, hw, r2⟩ := (q2.mono i1.toImm p1).get g2
    have h1 := i1.tup _ _ h
    have h3 := i1.tup _ _ h2
    refine ⟨⟨xs, ys, v, w, SqT.of h1, SqT.of h3, hv, hw⟩, fun x H' ⟨T, y, z, ex, hT, eH, k, k2⟩ => ?_⟩
    subst ex eH
    have := k xs (SqT.of h1)
    rw [hv] at this; cases this
    have := k2 ys (SqT.of h3)
    rw [hw] at this; cases this
    exact yld_pair R1 hT r r2
  stop := fun ρ1 S1 H1 R1 p1 i1 hf => ⟨xs, ys, SqT.of (i1.tup _ _ h), SqT.of (i1.tup _ _ h2), by simp only [Src.fixed, zipsT_len]; rw [q.len, q2.len]; omega⟩
theorem walk_zipL {a b : Addr} {d1 d2 : D} {n m : Nat} (hd : RelD K ρ H d1 (.ref a)) (hd2 : RelD K ρ H d2 (.ref b)) : Walks K ρ H (Itz K a b) ⟨min n m, fun S i => (lsN d1 n S).bind fun es => (lsN d2 m S).bind fun fs => (es[i]?).bind fun a => (fs[i]?).map fun b => .tup [a, b],
      fun S => (lsN d1 n S).isSome && (lsN d2 m S).isSome⟩ where
  go := fun ρ1 S1 H1 i d' R1 p1 i1 hi hg => by
    obtain ⟨es, e1, hg⟩ := bindE hg
    obtain ⟨fs, e2, hg⟩ := bindE hg
    obtain ⟨u1, e3, hg⟩ := bindE hg
    obtain ⟨u2, e4, e⟩ := Option.map_eq_some_iff.mp hg
    subst e
    obtain ⟨_, _, xs, eb, q, h1⟩ := lsN_rel R1 (hd.mono i1.toImm p1) e1
    cases eb
    obtain ⟨_, _, ys, eb, q2, h2⟩ := lsN_rel R1 (hd2.mono i1.toImm p1) e2
    cases eb
    obtain ⟨v, hv, r⟩ := q.get e3
    obtain ⟨w, hw, r2⟩ := q2.get e4
    refine ⟨⟨xs, ys, v, w, h1, h2, hv, hw⟩, fun x H' ⟨T, y, z, ex, hT, eH, k, k2⟩ => ?_⟩
    subst ex eH
    have := k xs h1
    rw [hv] at this; cases this
    have := k2 ys h2
    rw [hw] at this; cases this
    exact yld_pair R1 hT r r2
  stop := fun ρ1 S1 H1 R1 p1 i1 hf => by
    simp only [Bool.and_eq_true, Option.isSome_iff_exists] at hf
    obtain ⟨⟨es, e1⟩, fs, e2⟩ := hf
    obtain ⟨hl, _, xs, eb, q, h1⟩ := lsN_rel R1 (hd.mono i1.toImm p1) e1
    cases eb
    obtain ⟨hl2, _, ys, eb, q2, h2⟩ := lsN_rel R1 (hd2.mono i1.toImm p1) e2
    cases eb
    exact ⟨xs, ys, h1, h2, by rw [q.len, q2.len, hl, hl2]; show n ≤ min n m ∨ m ≤ min n m; omega⟩
theorem ei_zip {e2 : Expr} {elts : List Expr} {kk : Nat} {tpos p pos : Pos} {f g : EvE} (h1 : EE X e f) (h2 : EE X e2 g)
    (h : PA X [e, e2] (tA X.K (consA f (consA g nilA))) → PI X (.Tuple elts kk tpos) (.Call (.Name "zip" p) [e, e2] [] pos) (RZ.iZipA X.K (tA X.K (consA f (consA g nilA)))))
    (hs : starEach [e, e2] X.env = (false, eval e X.env) :: starEach [e2] X.env := by rfl) (hs2 : starEach [e2] X.env = (false, eval e2 X.env) :: starEach [] X.env := by rfl) :
    EI X (.Tuple elts kk tpos) (.Call (.Name "zip" p) [e, e2] [] pos) (ziI f g) := wkI (h (ea_cons h1 (ea_cons h2 ea_nil hs2) hs)) fun σ H R q => by
  obtain ⟨ρ, τ, S, s, S', A, e, k⟩ := q
  obtain ⟨⟨d, S1⟩, e1, e⟩ := bindE e
  obtain ⟨⟨d2, S2⟩, e2, e⟩ := bindE e
  obtain ⟨s', e3, e⟩ := Option.map_eq_some_iff.mp e
  cases e
  have ea : (consA f (consA g nilA)) τ S = some ([d, d2], S2) := by show (f τ S).bind _ = _; rw [e1]; show ((g τ S1).bind _).bind _ = _; rw [e2]; rfl
  refine goA A ea fun ρ1 v1 H1 A1 P1 r1 => ?_
  obtain ⟨v, w, rfl, r, r2⟩ := r1.two_
  have lst : ∀ as bs : List D, lsOf d S2 = some as → lsOf d2 S2 = some bs → s = ⟨min as.length bs.length, fun S i => (lsN d as.length S).bind fun es => (lsN d2 bs.length S).bind fun fs => (es[i]?).bind fun a => (fs[i]?).map fun b => .tup [a, b],
      fun S => (lsN d as.length S).isSome && (lsN d2 bs.length S).isSome⟩ → ∃ a b xs ys, [v, w] = [.ref a, .ref b] ∧ ((SqL X.K H1 a xs ∧ SqL X.K H1 b ys ∧ R (Itz X.K a b) H1) ∨ (SqT X.K H1 a xs ∧ SqT X.K H1 b ys ∧ R (RZ.ItzT X.K a b) H1)) := fun as bs g1 g2 es => by
    subst es
    obtain ⟨a, xs, rfl, q, h⟩ := lsOf_rel A1.s r g1
    obtain ⟨b, ys, rfl, q2, h2⟩ := lsOf_rel A1.s r2 g2
    exact ⟨a, b, xs, ys, rfl, .inl ⟨h, h2, k _ _ _ P1 (walk_zipL r r2)⟩⟩
  have gen : (lsOf d S2).bind (fun as => (lsOf d2 S2).map fun bs => (⟨min as.length bs.length, fun S i => (lsN d as.length S).bind fun es => (lsN d2 bs.length S).bind fun fs => (es[i]?).bind fun a => (fs[i]?).map fun b => .tup [a, b],
      fun S => (lsN d as.length S).isSome && (lsN d2 bs.length S).isSome⟩ : Src)) = some s → ∃ a b xs ys, [v, w] = [.ref a, .ref b] ∧ ((SqL X.K H1 a xs ∧ SqL X.K H1 b ys ∧ R (Itz X.K a b) H1) ∨ (SqT X.K H1 a xs ∧ SqT X.K H1 b ys ∧ R (RZ.ItzT X.K a b) H1)) := fun z => by
    obtain ⟨as, g1, z⟩ := bindE z
    obtain ⟨bs, g2, z⟩ := Option.map_eq_some_iff.mp z
    exact lst as bs g1 g2 z.symm
  cases d with
  | tup as =>
    cases d2 with
    | tup bs =>
      cases e3
      obtain ⟨a, xs, rfl, h, q⟩ := r.tup_
      obtain ⟨b, ys, rfl, h2, q2⟩ := r2.tup_
      exact ⟨a, b, xs, ys, rfl, .inr ⟨SqT.of h, SqT.of h2, k _ _ _ P1 (walk_zipT h q h2 q2)⟩⟩
    | _ => exact gen e3
  | _ => exact gen e3
/-! reversed -/
def srcRev (d : D) (S : Sto) : Option Src := match d with
  | .tup ds => some (.fixed ds.reverse)
  | d => (lsOf d S).map fun ds => ⟨ds.length, fun S i => (lsOf d S).bind fun es => es[ds.length - 1 - i]?, fun S => true⟩
def reI (f : EvE) : EvI := fun τ S => (f τ S).bind fun p => (srcRev p.1 p.2).map fun s => (s, p.2)
/-! a < b < c -/
def chE (g g' : D → D → Sto → Option (D × Sto)) (fa fb fc : EvE) : EvE := fun τ S => (fa τ S).bind fun p => (fb τ p.2).bind fun q => (g p.1 q.1 q.2).bind fun r => match r.1 with
  | .bl b => if b then (fc τ r.2).bind fun z => g' q.1 z.1 z.2 else some (.bl false, r.2)
  | _ => none
theorem ch_ok {r r' : R2} {g g' : D → D → Sto → Option (D × Sto)} {fa fb fc : EvE} (hg : Op2 K r g) (hg' : Op2 K r' g') {σ : St} {H : Hp} {Q : VK} (q : tE K (chE g g' fa fb fc) σ H Q) : tChain r r' (tE K fa) (tE K fb) (tE K fc) σ H Q := by
  obtain ⟨ρ, τ, S, d, S', A, e, k⟩ := q
  obtain ⟨⟨x, S1⟩, e1, e⟩ := bindE e
  obtain ⟨⟨y, S2⟩, e2, e⟩ := bindE e
  obtain ⟨⟨z, S3⟩, e3, e⟩ := bindE e
  refine goE A e1 fun ρ1 v1 H1 A1 P1 r1 => goE A1 e2 fun ρ2 v2 H2 A2 P2 r2 => ?_
  refine hg ρ2 S2 H2 x y v1 v2 z S3 A2.s (r1.mono (P2.imm A1.s) P2.pre) r2 e3 _ fun ρ3 u H3 P3 r3 => ?_
  have PP := (P1.trans P2).trans P3
  cases z <;> try cases e
  rename_i b
  refine ⟨b, r3.bl_, ?_⟩
  cases b with
  | false => cases e; exact k _ _ _ PP (RelD.bl _)
  | true =>
    obtain ⟨⟨z, S4⟩, e4, e⟩ := bindE e
    have A3 := A2.go P3
    refine goE A3 e4 fun ρ4 v4 H4 A4 P4 r4 => ?_
    exact hg' ρ4 S4 H4 y z v2 v4 d S' A4.s (r2.mono ((P3.trans P4).imm A2.s) (P3.trans P4).pre) r4 e Q fun ρ5 u H5 P5 r5 => k ρ5 u H5 ((PP.trans P4).trans P5) r5
theorem et_chain {a b c : Expr} {op op' : CmpOp} {r r' : R2} {g g' : D → D → Sto → Option (D × Sto)} {fa fb fc : EvE} {pos : Pos} (ho : OpR X (compareOp op) r) (ho' : OpR X (compareOp op') r') (hg : Op2 X.K r g) (hg' : Op2 X.K r' g') (ha : EE X a fa) (hb : EE X b fb) (hc : EE X c fc)
    (hm : lastMarks [op, op'] [b, c] = false := by with_unfolding_all rfl) : ET X (.Compare a [op, op'] [b, c] pos) (tB (chE g g' fa fb fc)) :=
  wkT (pt_chain ho ho' ha hb hc hm) fun σ H Q q => by
    obtain ⟨ρ, τ, S, d, S', A, e, k⟩ := q
    obtain ⟨⟨x, S1⟩, e1, e⟩ := bindE e
    refine ch_ok hg hg' (goE A e1 fun ρ1 v1 H1 A1 P1 r1 => ?_)
    cases x with
    | bl b => cases e; exact ⟨_, r1.bl_, k _ _ P1⟩
    | _ => cases e

/-! ### defs -/
abbrev Fn := List D → Sto → Option (D × Sto)
def spE (K : PySem.W.Frag) (g : Fn) : Sp := fun vs H Q _ => ∃ ρ S ds d S', RelS K ρ S H ∧ RelDs K ρ H ds vs ∧ g ds S = some (d, S') ∧ ∀ ρ' v H', Post K ρ H ρ' H' S' → RelD K ρ' H' d v → Q v H'
def fnD (n m : Nat) (b : EvS) : Fn := fun ds S => if ds.length = n then (b (ds.map some ++ List.replicate (m - n) none) S).bind fun p => match p.1 with
  | .rt d => some (d, p.2)
  | .nx _ => some (.non, p.2)
  | _ => none else none
structure Cal (P : Program) (w : World) (K : PySem.W.Frag) (mg : Str → Option Value) (base : Heap) (k : Nat) (x : Str) (g : Fn) : Prop where
  ex : ∃ (f : Addr) (fd : FuncData) (ps : List Str), FnOk P w K mg base CX0 k f fd ps (spE K g) ∧ mg x = some (.ref f) ∧ PySem.W.keepIn K (.ref f) = true ∧ Binds K fd ps []
theorem ee_call {k j : Nat} {x : Str} {g : Fn} {e0 : Expr} {es : List Expr} {fa : EvA} {p pos : Pos} (c : Cal X.prog X.w X.K X.mg X.base k x g) (hc : Ok X j) (hk : k ≤ j) (hg : Gl X x) (ha : EA X (e0 :: es) fa)
    (hdb : (x == ("__debug__" : Str)) = false := by decide) (he : starEach (e0 :: es) X.env = (false, eval e0 X.env) :: starEach es X.env := by rfl) (hpl : (backTo pos (starEach es X.env)).any (·.1) = false := by rfl) : EE X (.Call (.Name x p) (e0 :: es) [] pos) (aE g fa) := by
  obtain ⟨f, fd, ps, F, hm, hkp, hb⟩ := c.ex
  exact wkE (pe_call F (hc.room.mono hk) hg hm hkp hb .nil pass0 ha hdb he hpl) fun σ H Q q => by
    obtain ⟨ρ, τ, S, d, S', A, e, k⟩ := q
    obtain ⟨⟨x, S1⟩, e1, e⟩ := bindE e
    refine goA A e1 fun ρ1 v1 H1 A1 P1 r1 => ?_
    rw [List.append_nil]
    exact ⟨ρ1, S1, x, d, S', A1.s, r1, e, fun ρ2 v H2 P2 r2 => k ρ2 v H2 (P1.trans P2) r2⟩
end
section
variable {P : Program} {w : World} {K : PySem.W.Frag} {mg : Str → Option Value} {base : Heap}
theorem start_rel {ρ : List Addr} {H : Hp} {ds : List D} {vs : List V} (r : RelDs K ρ H ds vs) (m : Nat) : RelT K ρ H (ds.map some ++ List.replicate m none) (vs.map some ++ List.replicate m none) := by
  refine ⟨by simp [r.len], fun i d e => ?_⟩
  rw [List.getElem?_append] at e
  split at e
  · rename_i hi
    rw [List.getElem?_map] at e
    cases h : ds[i]? with
    | none => rw [h] at e; cases e
    | some d' =>
      rw [h] at e; cases e
      obtain ⟨v, hv, q⟩ := r.get h
      refine ⟨v, ?_, q⟩
      rw [List.getElem?_append_left (by simpa [r.len] using hi), List.getElem?_map, hv]; rfl
  · rw [List.getElem?_replicate] at e
    split at e <;> cases e
/-- THE RULE of a def -/
theorem fn_mk {x qual : Str} {st : Stmt} {f : Addr} {fd : FuncData} {N ps : List Str} {k : Nat} {b : EvS} (F : Fun K x qual st f fd) (S : FnScope N ps (defScope st))
    (hb : ∀ (cdv : Value) (A : Around) (outer : List Env) (s : Shared) (H : Hp) (E : XK), Ok (cxOf CX0 P w K mg base N qual (defScope st) f cdv A outer s H E).nox k → ESs (fun _ _ _ _ => False) (cxOf CX0 P w K mg base N qual (defScope st) f cdv A outer s H E).nox (defBody st) b) :
    FnOk P w K mg base CX0 (k + 1) f fd ps (spE K (fnD ps.length N.length b)) := by
  refine F.ok S (fun vs H Q E h => ?_) (fun cdv A outer s H vs Q E hr h => ?_)
  · obtain ⟨ρ, S, ds, d, S', R, r, e, _⟩ := h
    unfold fnD at e
    split at e
    · rename_i hl; rw [r.len, hl]
    · cases e
  · obtain ⟨ρ, S, ds, d, S', R, r, e, kk⟩ := h
    refine ⟨_, hb cdv A outer s H E ⟨rfl, hr⟩, ?_⟩
    unfold fnD at e
    split at e
    · rename_i hl
      obtain ⟨⟨o, S1⟩, e1, e⟩ := bindE e
      have T := start_rel r (N.length - ps.length)
      have hv : vs.length = ps.length := by rw [r.len, hl]
      refine ⟨ρ, _, S, o, S1, ⟨R, ?_⟩, e1, fun ρ1 H1 P1 => ?_⟩
      · unfold L2.start; rw [hv]; exact T
      · cases o with
        | rt d1 => cases e; exact fun v r1 => kk ρ1 v H1 P1 r1
        | nx τ1 => cases e; exact fun σ1 t1 => kk ρ1 .non H1 P1 RelD.non
        | bk _ => cases e
        | ct _ => cases e
        | ex _ _ _ => cases e
    · cases e
end
end SW
namespace SW
open PySem L2

/-- the built-ins' names are the built-ins' still -/
structure Bi (mg : Str → Option Value) : Prop where
  n_len : mg "len" = none
  n_abs : mg "abs" = none
  n_max : mg "max" = none
  n_min : mg "min" = none
  n_divmod : mg "divmod" = none
  n_sum : mg "sum" = none
  n_all : mg "all" = none
  n_any : mg "any" = none
  n_isinstance : mg "isinstance" = none
  n_sorted : mg "sorted" = none
  n_int : mg "int" = none
  n_bool : mg "bool" = none
  n_str : mg "str" = none
  n_list : mg "list" = none
  n_tuple : mg "tuple" = none
  n_dict : mg "dict" = none
  n_set : mg "set" = none
  n_range : mg "range" = none
  n_enumerate : mg "enumerate" = none
  n_zip : mg "zip" = none
  n_reversed : mg "reversed" = none
/-- a def of the text stands where its name says -/
structure DefAt (K : PySem.W.Frag) (mg : Str → Option Value) (x : Str) (st : Stmt) (ps : List Str) : Prop where
  ex : ∃ (f : Addr) (fd : FuncData), Fun K x x st f fd ∧ mg x = some (.ref f) ∧ Binds K fd ps []
theorem defAt {K : PySem.W.Frag} {h : Heap} {mg : Str → Option Value} (X : K.In h) (G : h.Ns mainGlobals mg) {x : Str} {st : Stmt} {ps : List Str} {f : Addr} {oc : Value} {od an : Option Addr} {osl : Array (Option Value)} {kV doc pm cdv ct : Value}
    (hb : ∀ (kV doc pm : Value) (an : Option Addr) (cdv ct : Value) (us : List Value), us.length = ps.length → bindArgs (PySem.W.fnOf x x (defArgs st) (defBody st) (defScope st) .none kV doc pm an cdv ct) ⟨us, []⟩ = pure (ps.zip us))
    (a : PySem.W.nsIn K mainGlobals x = some (some (.ref f)))
    (l : K.lookup f = some ⟨oc, od, .func (PySem.W.fnOf x x (defArgs st) (defBody st) (defScope st) .none kV doc pm an cdv ct), osl⟩)
    (c : PySem.W.codeIn K cdv x = true) (k : PySem.W.keepIn K (.ref f) = true) : DefAt K mg x st ps :=
  have F := fun_mk (st := st) l c k
  ⟨f, _, F, PySem.W.mg_of X G a, F.binds hb⟩
section
variable {X : Cx} {K : PySem.W.Frag}
def addI : D → D → Sto → Option (D × Sto)
  | .int i, .int j, S => some (.int (i + j), S)
  | _, _, _ => none
end
theorem ints_rel {K : PySem.W.Frag} {ρ : List Addr} {H : Hp} : ∀ ns : List Int, RelDs K ρ H (ns.map D.int) (ns.map V.int)
  | [] => .nil
  | n :: ns => .cons (RelD.int n) (ints_rel ns)
/-- the law's end: a script's ints as a list that nobody writes at -/
theorem fz_of {K : PySem.W.Frag} {H : Hp} {a : Addr} {xs : List V} (hO : Only H) (h : SqL K H a xs) : FzL K H a xs := by
  rcases h with (h | ⟨o, h⟩) | h
  · rcases hO a with q | ⟨o, ys, q⟩
    · rw [q] at h; cases h
    · rw [q] at h; cases h
  · exact .inl ⟨o, h⟩
  · exact .inr h
theorem walk {l : PySem.W.OpenLaw} {q : Program} {loose : List Str} {XP : (Str → Option Value) → Heap → Prop} {YP : World → Heap → Prop} {d : DefRec} {K : Params → PySem.W.Frag} {k : Nat} {g : Fn} {x : Str} (hn : l.most = some 63) (hdf : d.params.defaults = []) (hr : Room k callerA)
    (hY : ∀ (w : World) (h : Heap), YP w h → (K w.params).In h)
    (hg : ∀ ns : List Int, ns.length ≤ 63 → ∃ S', g [.fl (ns.map D.int)] [] = some (.bl true, S'))
    (F : ∀ (w : World) (mg : Str → Option Value) (fa : Addr) (h : Heap), (K w.params).In h → h.Ns mainGlobals mg → mg d.name = some (.ref fa) →
      ∃ fd : FuncData, (∀ (s : Shared) (u : Value), BindsTo s fd ⟨[u], []⟩ [(x, u)]) ∧ ∀ base : Heap, (K w.params).In base → base.Ns mainGlobals mg → FnOk l.prog w (K w.params) mg base CX0 k fa fd [x] (spE (K w.params) g)) :
    PySem.W.WalkO q loose XP YP l.row.toRowW d [] (fun f vs => PySem.call f vs) :=
  L2.walk_of (n := 63) (k := k) (x := x) (CX := fun _ => CX0) (sp := fun w => spE (K w.params) g) hn (by decide) hdf hr hY F (fun w H a ns hl hO hS => by
    obtain ⟨S', e⟩ := hg ns hl
    refine ⟨[], [], [.fl (ns.map D.int)], .bl true, S', ⟨rfl, List.nodup_nil, fun n o h => by simp at h⟩, ?_, e, fun ρ' v H' P r => r.bl_⟩
    refine .one ?_
    simp only [RelD]
    exact ⟨a, _, rfl, fz_of hO hS, ints_rel ns⟩) fun _ _ _ _ _ z => z
end SW
namespace SW
open PySem L2
section
variable {K : PySem.W.Frag}
end
section
variable {X : Cx} {pos : Pos}
/-- {k: v}, the key a number or a text -/
def d1E (fk fv : EvE) : EvE := fun τ S => (fk τ (S ++ [.dK []])).bind fun p => (fv τ p.2).bind fun q => match q.2[S.length]? with
  | some (.dK []) => (kOf p.1).map fun k => (.loc S.length, q.2.set S.length (.dK [(k, q.1)]))
  | _ => none
theorem ee_d1 {a b : Expr} {fk fv : EvE} (hk : EE X a fk) (hv : EE X b fv) : EE X (.Dict [some a] [b] pos) (d1E fk fv) := wkE (pe_disp (pps_cons hk hv pps_nil) rfl rfl (by simp) (by simp)) fun σ H Q q => by
  obtain ⟨ρ, τ, S, d, S', A, e, kk⟩ := q
  intro p hp
  obtain ⟨P1, r1⟩ := A.s.new (o := .dK []) (ho := .dK []) hp ⟨[], upd_same, rfl, .nil⟩
  have A1 := A.go P1
  obtain ⟨⟨x, S1⟩, e1, e⟩ := bindE e
  obtain ⟨⟨y, S2⟩, e2, e⟩ := bindE e
  refine goE A1 e1 fun ρ2 v2 H2 A2 P2 r2 => goE A2 e2 fun ρ3 v3 H3 A3 P3 r3 => ?_
  split at e
  · rename_i eo
    obtain ⟨kx, ek, e⟩ := Option.map_eq_some_iff.mp e
    cases e
    have rl := r1.mono ((P2.trans P3).imm A1.s) (P2.trans P3).pre
    obtain ⟨a, xs, hra, hn, h, q⟩ := A3.s.dK eo rl
    cases hra
    have q0 := q.nil_
    subst q0
    refine ⟨h, [(kx, v3)], by rw [kOf_rel r2 ek]; rfl, by simp, ?_⟩
    exact kk _ _ _ (((P1.trans P2).trans P3).trans (A3.s.put hn (by rw [h]; trivial) ⟨_, upd_same, ((RelKV.nil).cons (k := kx) r3).mono (immPut A3.s hn _) List.prefix_rfl⟩)) rl
  · cases e
end
end SW
namespace SW
open PySem L2
section
variable {X : Cx} {W : WX} {K : PySem.W.Frag} {ρ : List Addr} {S S' : Sto} {H : Hp} {pos apos cpos : Pos} {o e f : Expr} {fo fe ff : EvE}
theorem RelN.nil : RelN K ρ H [] [] := ⟨rfl, .nil, fun x hx => by simp at hx⟩
/-! methods of dicts -/
/-- is it a dict, of which kind -/
def isKT (d : D) (S : Sto) : Bool := match d with
  | .loc n => match S[n]? with
    | some (.dK _) => true
    | some (.dT _) => true
    | some (.lK _) => true
    | some (.lT _) => true
    | _ => false
  | _ => false
def isNd (d : D) (S : Sto) : Bool := match d with
  | .loc n => match (S[n]?).bind nAt with
    | some _ => true
    | _ => false
  | _ => false
theorem isKT_rel (R : RelS K ρ S H) {d : D} {v : V} (r : RelD K ρ H d v) (e : isKT d S = true) : ∃ a, v = .ref a ∧ IsD H a := by
  cases d <;> simp only [isKT] at e <;> try cases e
  split at e
  · rename_i eo; obtain ⟨a, xs, rfl, _, h, _⟩ := R.dK eo r; exact ⟨a, rfl, .inl ⟨xs, .inl h⟩⟩
  · rename_i eo; obtain ⟨a, xs, rfl, _, h, _⟩ := R.dT eo r; exact ⟨a, rfl, .inr ⟨xs, .inl h⟩⟩
  · rename_i eo; obtain ⟨a, xs, od, rfl, _, h, _⟩ := R.lK eo r; exact ⟨a, rfl, .inl ⟨xs, .inr ⟨od, h⟩⟩⟩
  · rename_i eo; obtain ⟨a, xs, od, rfl, _, h, _⟩ := R.lT eo r; exact ⟨a, rfl, .inr ⟨xs, .inr ⟨od, h⟩⟩⟩
  · cases e
theorem isNd_rel (R : RelS K ρ S H) {d : D} {v : V} (r : RelD K ρ H d v) (e : isNd d S = true) : ∃ a xs, v = .ref a ∧ DN H a xs := by
  cases d <;> simp only [isNd] at e <;> try cases e
  split at e
  · rename_i kvs eo
    obtain ⟨o, e1, e2⟩ := bindE eo
    obtain ⟨a, xs, rfl, dn, _⟩ := nAt_rel R e1 e2 r
    exact ⟨a, xs, rfl, dn⟩
  · cases e
def hasK (b : Bool) (d y : D) (S : Sto) : Option (Option D) := match d with
  | .loc n => if b then dHas n y S else none
  | _ => none
def hasN (b : Bool) (d y : D) (S : Sto) : Option (Option D) := match d with
  | .loc n => if b then nHas n y S else none
  | _ => none
theorem hasK_rel (R : RelS K ρ S H) {b : Bool} {x y : D} {v w : V} {o : Option D} (r1 : RelD K ρ H x v) (r2 : RelD K ρ H y w) (e : hasK b x y S = some o) {z : V} {dz : D} (rz : RelD K ρ H dz z) :
    b = true ∧ ∃ a u, v = .ref a ∧ DGet H a w u ∧ RelD K ρ H (o.getD dz) (u.getD z) := by
  cases x <;> simp only [hasK] at e <;> try cases e
  split at e
  · rename_i hb
    obtain ⟨a, u, rfl, g, hs, hz⟩ := dHas_rel R r1 r2 e
    refine ⟨hb, a, u, rfl, g, ?_⟩
    cases o with
    | some d => obtain ⟨t, rfl, r⟩ := hz d rfl; exact r
    | none =>
      have : u = none := by cases u with | none => rfl | some z => simp at hs
      subst this; exact rz
  · cases e
theorem hasN_rel (R : RelS K ρ S H) {b : Bool} {x y : D} {v w : V} {o : Option D} (r1 : RelD K ρ H x v) (r2 : RelD K ρ H y w) (e : hasN b x y S = some o) {z : V} {dz : D} (rz : RelD K ρ H dz z) :
    b = true ∧ ∃ a u, v = .ref a ∧ DGN H a w u ∧ RelD K ρ H (o.getD dz) (u.getD z) := by
  cases x <;> simp only [hasN] at e <;> try cases e
  split at e
  · rename_i hb
    obtain ⟨a, u, rfl, g, hs, hz⟩ := nHas_rel R r1 r2 e
    refine ⟨hb, a, u, rfl, g, ?_⟩
    cases o with
    | some d => obtain ⟨t, rfl, r⟩ := hz d rfl; exact r
    | none =>
      have : u = none := by cases u with | none => rfl | some z => simp at hs
      subst this; exact rz
  · cases e
/-- o.get(e), o.get(e, f) -/
def getE (fo fe : EvE) : EvE := fun τ S => (fo τ S).bind fun p => (fe τ p.2).bind fun q => ((hasK (isKT p.1 p.2) p.1 q.1 q.2).orElse fun _ => hasN (isNd p.1 p.2) p.1 q.1 q.2).map fun o => (o.getD .non, q.2)
def getE2 (fo fe ff : EvE) : EvE := fun τ S => (fo τ S).bind fun p => (fe τ p.2).bind fun q => (ff τ q.2).bind fun t => ((hasK (isKT p.1 p.2) p.1 q.1 t.2).orElse fun _ => hasN (isNd p.1 p.2) p.1 q.1 t.2).map fun o => (o.getD t.1, t.2)
theorem ee_get {k : Nat} (hc : Ok X k) (ho : EE X o fo) (he : EE X e fe) (m : M1 X o "get" apos e cpos := by exact ⟨rfl, rfl, rfl, rfl⟩) : EE X (.Call (.Attribute o "get" apos) [e] [] cpos) (getE fo fe) :=
  wkE (orE (pe_dget1 (by have := hc.units; omega) ho he m) (pe_nget1 hc.units ho he m)) fun σ H Q q => by
  obtain ⟨ρ, τ, S, d, S', A, e, k⟩ := q
  obtain ⟨⟨x, S1⟩, e1, f1⟩ := bindE e
  obtain ⟨⟨y, S2⟩, e2, f2⟩ := bindE f1
  obtain ⟨ov, e3, f3⟩ := Option.map_eq_some_iff.mp f2
  cases f3
  rcases orElse_some e3 with e3 | e3
  · refine .inl (goE A e1 fun ρ1 v1 H1 A1 P1 r1 => ?_)
    have hb : isKT x S1 = true := by cases x <;> simp only [hasK] at e3 <;> first | cases e3 | (split at e3 <;> first | assumption | cases e3)
    obtain ⟨a, rfl, isd⟩ := isKT_rel A1.s r1 hb
    refine ⟨a, rfl, isd, goE A1 e2 fun ρ2 v2 H2 A2 P2 r2 => ?_⟩
    obtain ⟨_, b, u, eb, g, hz⟩ := hasK_rel A2.s (r1.mono (P2.imm A1.s) P2.pre) r2 e3 (RelD.non)
    cases eb
    exact ⟨u, g, k ρ2 _ _ (P1.trans P2) hz⟩
  · refine .inr (goE A e1 fun ρ1 v1 H1 A1 P1 r1 => ?_)
    have hb : isNd x S1 = true := by cases x <;> simp only [hasN] at e3 <;> first | cases e3 | (split at e3 <;> first | assumption | cases e3)
    obtain ⟨a, xs, rfl, dn⟩ := isNd_rel A1.s r1 hb
    refine ⟨a, xs, rfl, dn, goE A1 e2 fun ρ2 v2 H2 A2 P2 r2 => ?_⟩
    obtain ⟨_, b, u, eb, g, hz⟩ := hasN_rel A2.s (r1.mono (P2.imm A1.s) P2.pre) r2 e3 (RelD.non)
    cases eb
    exact ⟨u, g, k ρ2 _ _ (P1.trans P2) hz⟩
theorem ee_get2 {k : Nat} (hc : Ok X k) (ho : EE X o fo) (he : EE X e fe) (hf : EE X f ff) (m : M2 X o "get" apos e f cpos := by exact ⟨rfl, rfl, rfl, rfl⟩) : EE X (.Call (.Attribute o "get" apos) [e, f] [] cpos) (getE2 fo fe ff) :=
  wkE (orE (pe_dget2 (by have := hc.units; omega) ho he hf m) (pe_nget2 hc.units ho he hf m)) fun σ H Q q => by
  obtain ⟨ρ, τ, S, d, S', A, e, k⟩ := q
  obtain ⟨⟨x, S1⟩, e1, f1⟩ := bindE e
  obtain ⟨⟨y, S2⟩, e2, f2⟩ := bindE f1
  obtain ⟨⟨w, S3⟩, e4, f4⟩ := bindE f2
  obtain ⟨ov, e3, f3⟩ := Option.map_eq_some_iff.mp f4
  cases f3
  rcases orElse_some e3 with e3 | e3
  · refine .inl (goE A e1 fun ρ1 v1 H1 A1 P1 r1 => ?_)
    have hb : isKT x S1 = true := by cases x <;> simp only [hasK] at e3 <;> first | cases e3 | (split at e3 <;> first | assumption | cases e3)
    obtain ⟨a, rfl, isd⟩ := isKT_rel A1.s r1 hb
    refine ⟨a, rfl, isd, goE A1 e2 fun ρ2 v2 H2 A2 P2 r2 => goE A2 e4 fun ρ3 v3 H3 A3 P3 r3 => ?_⟩
    have P23 := P2.trans P3
    obtain ⟨_, b, u, eb, g, hz⟩ := hasK_rel A3.s (r1.mono (P23.imm A1.s) P23.pre) (r2.mono (P3.imm A2.s) P3.pre) e3 r3
    cases eb
    exact ⟨u, g, k ρ3 _ _ (P1.trans P23) hz⟩
  · refine .inr (goE A e1 fun ρ1 v1 H1 A1 P1 r1 => ?_)
    have hb : isNd x S1 = true := by cases x <;> simp only [hasN] at e3 <;> first | cases e3 | (split at e3 <;> first | assumption | cases e3)
    obtain ⟨a, xs, rfl, dn⟩ := isNd_rel A1.s r1 hb
    refine ⟨a, xs, rfl, dn, goE A1 e2 fun ρ2 v2 H2 A2 P2 r2 => goE A2 e4 fun ρ3 v3 H3 A3 P3 r3 => ?_⟩
    have P23 := P2.trans P3
    obtain ⟨_, b, u, eb, g, hz⟩ := hasN_rel A3.s (r1.mono (P23.imm A1.s) P23.pre) (r2.mono (P3.imm A2.s) P3.pre) e3 r3
    cases eb
    exact ⟨u, g, k ρ3 _ _ (P1.trans P23) hz⟩
end
section
variable {X : Cx} {W : WX}
end
end SW
/-! sorted: lists of pairs of any length, dicts with pairs as keys -/
namespace SW
open PySem L2 PyProof.Rows

def sortPL (ps : List (Int × Int)) : List (Int × Int) := ps.mergeSort fun p q => !SrtO.lexB q p
abbrev LexS (l : List (Int × Int)) : Prop := l.Pairwise fun p q => SrtO.lexB q p = false
theorem sortPL_perm (ps : List (Int × Int)) : (sortPL ps).Perm ps := List.mergeSort_perm _ _
theorem sortPL_pw (ps : List (Int × Int)) : LexS (sortPL ps) := by
  have := List.pairwise_mergeSort (le := fun p q : Int × Int => !SrtO.lexB q p) (fun a b c h1 h2 => by
    simp only [Bool.not_eq_true'] at h1 h2 ⊢
    rw [SrtO.lexB_no] at h1 h2 ⊢
    omega) (fun a b => by
    simp only [Bool.or_eq_true, Bool.not_eq_true']
    rw [SrtO.lexB_no, SrtO.lexB_no]
    omega) ps
  exact this.imp fun h => by simpa using h
theorem lex_uniq {l m : List (Int × Int)} (p : l.Perm m) (h1 : LexS l) (h2 : LexS m) : l = m :=
  p.eq_of_pairwise (fun a b _ _ x y => by
    rw [SrtO.lexB_no] at x y
    exact Prod.ext (by omega) (by omega)) h1 h2
section
variable {K : PySem.W.Frag} {ρ : List Addr} {S : Sto} {H : Hp}
end
end SW
/-! a dict is locked while a loop walks its keys -/
namespace SW
open PySem L2 PyProof.Rows

def isX : Out → Bool
  | .ex _ _ _ => true
  | _ => false
section
variable {K : PySem.W.Frag} {ρ ρ' : List Addr} {S S' : Sto} {H H' : Hp}
end
section
variable {X : Cx} {W : WX}
end
section
variable {X : Cx} {W : WX} {tg e : Expr} {td : TE}
end
end SW
/-! dict(list of pairs), the keys tuples -/
namespace SW
open PySem L2 PyProof.Rows

section
variable {K : PySem.W.Frag} {ρ : List Addr} {S : Sto} {H : Hp}
end
end SW
/-! slices of lists with a step -/
namespace SW
open PySem L2 PyProof.Rows

section
variable {X : Cx} {W : WX}
end
end SW
/-! zip of a tuple and a list -/
namespace SW
open PySem L2
section
variable {X : Cx} {K : PySem.W.Frag} {ρ : List Addr} {S : Sto} {H : Hp} {e e2 : Expr}
end
end SW
/-! sorted(set(xs)), xs a list of numbers or of tuples of any depth -/
namespace SW
open PySem L2 PyProof.Rows

mutual
theorem bare_plain : ∀ k : NestedKey, bareK k = plainK k
  | .none => rfl
  | .num _ => rfl
  | .text _ => rfl
  | .tup ks => by simp only [bareK, plainK, bares_plain ks]
theorem bares_plain : ∀ ks : List NestedKey, bareKs ks = plainKs ks
  | [] => rfl
  | k :: ks => by simp only [bareKs, plainKs, bare_plain k, bares_plain ks]
end
section
variable {P : Program} {w : World} {H : Hp} {h : Heap}
mutual
theorem NkV.rk (ok : HOk P w H h) : ∀ {k : NestedKey} {v : V} {u : Value}, NkV H k v → RelV v u → NkR h k u
  | .none, v, u, q, r => by
    simp only [NkV] at q
    subst q
    obtain rfl : u = Value.none := r
    simp only [NkR]
  | .num i, v, u, q, r => by
    simp only [NkV] at q
    subst q
    obtain ⟨t, rfl⟩ := r
    simp only [NkR]
    exact ⟨t, rfl⟩
  | .text x, v, u, q, r => by
    simp only [NkV] at q
    subst q
    obtain ⟨t, rfl⟩ := r
    simp only [NkR]
    exact ⟨t, rfl⟩
  | .tup ks, v, u, q, r => by
    simp only [NkV] at q
    obtain ⟨b, xs, rfl, e, q⟩ := q
    obtain rfl : u = Value.ref b := r
    obtain ⟨_, its, rs, o, h1, h2, n, h3⟩ := (show ObjOk P w H h b (.tup xs) from ok b _ e)
    simp only [NkR]
    exact ⟨b, o, its.toArray, n, rfl, h1, h2, h3, by simpa using NkVs.rk ok q rs⟩
theorem NkVs.rk (ok : HOk P w H h) : ∀ {ks : List NestedKey} {vs : List V} {us : List Value}, NkVs H ks vs → Vals vs us → NkRs h ks us
  | [], vs, us, q, r => by
    simp only [NkVs] at q
    subst q
    cases r
    simp only [NkRs]
  | k :: ks, vs, us, q, r => by
    simp only [NkVs] at q
    obtain ⟨y, ys, rfl, q1, q2⟩ := q
    cases r with
    | cons r1 r2 =>
      simp only [NkRs]
      exact ⟨_, _, rfl, NkV.rk ok q1 r1, NkVs.rk ok q2 r2⟩
end
end
theorem KN.nt {P : Program} {w : World} {H : Hp} {h : Heap} {k : NestedKey} {y : V} {b : Addr} (q : KN H k y b) (ok : HOk P w H h) : NtK h k b := ⟨NkV.rk ok q.nk rfl, q.dep, by rw [bare_plain]; exact q.pl⟩
/-- the set at a, whatever its members are -/
def SetN0 (w : World) (h : Heap) (a : Addr) (L : List KA) : Prop :=
  ∃ (es : Array (Int × Value)) (ep : Nat) (t : SetTable), (∃ o, h.get? a = some o ∧ o.ExactSet ∧ o.data = .set es ep t) ∧ es.toList = rowsN w L ∧ TabOk t (L.map fun p => nkh w p.2) ∧ (L.map (·.2)).Nodup ∧ t.plain = true ∧
    (w.params.followText "set-order" = true ∨ t.led = true) ∧ L.length * 5 < t.mask * 3 ∧ L.length < 64
theorem SetN0.full {w : World} {h : Heap} {a : Addr} {L : List KA} (R : SetN0 w h a L) (all : ∀ p ∈ L, NtK h p.2 p.1) : ∃ es ep t, SetNR w h a L es ep t :=
  let ⟨es, ep, t, h1, h2, h3, h4, h5, h6, h7, h8⟩ := R
  ⟨es, ep, t, h1, h2, h3, h4, all, h5, h6, h7, h8⟩
section
variable {X : Cx}
end
section
variable {K : PySem.W.Frag} {ρ : List Addr} {S : Sto} {H : Hp}
end
section
variable {X : Cx} {e : Expr} {f : EvE} {p p2 pos pos2 : Pos}
end
/-! xs.index(x), the items tuples of any depth -/
section
variable {X : Cx}
end
end SW
/-! list(range(a, b)), xs.pop(i), reversed(range(..)), len(set(xs)) -/
namespace SW
open PySem L2 PyProof.Rows
section
variable {X : Cx}
end
section
variable {K : PySem.W.Frag} {ρ : List Addr} {S : Sto} {H : Hp}
end
/-! len(set(xs)) -/
section
variable {X : Cx}
end
section
variable {X : Cx} {e : Expr} {f : EvE} {p p2 pos pos2 : Pos}
end
end SW
/-! Instances: attributes read and written, methods, new ones. -/
namespace SW
open PySem L2

section
variable {K : PySem.W.Frag} {ρ : List Addr} {H : Hp}
theorem RelKV.lookup {f : Str} : ∀ {kds : List (Str × D)} {kvs : List (Str × V)}, RelKV K ρ H kds kvs → (∀ d, kds.lookup f = some d → ∃ v, kvs.lookup f = some v ∧ RelD K ρ H d v) ∧ (kds.lookup f = none → kvs.lookup f = none)
  | [], kvs, h => by
    have := RelKV.nil_ h
    subst this
    exact ⟨fun d e => by simp at e, fun _ => rfl⟩
  | (g, d0) :: kds, kvs, h => by
    obtain ⟨v0, r, rfl, r0, hr⟩ := RelKV.split h
    have ih := RelKV.lookup (f := f) hr
    by_cases e : f = g
    · subst e
      have hb : (f == f) = true := beq_self_eq_true f
      refine ⟨fun d e => ?_, fun e => ?_⟩
      · simp only [List.lookup, hb, Option.some.injEq] at e
        subst e
        exact ⟨v0, by simp only [List.lookup, hb], r0⟩
      · simp only [List.lookup, hb] at e; cases e
    · have hb : (f == g) = false := beq_eq_false_iff_ne.mpr e
      refine ⟨fun d e => ?_, fun e => ?_⟩
      · simp only [List.lookup, hb] at e ⊢
        exact ih.1 d e
      · simp only [List.lookup, hb] at e ⊢
        exact ih.2 e
/-- an attribute put -/
def pF (f : Str) (d : D) : List (Str × D) → List (Str × D)
  | [] => [(f, d)]
  | (g, x) :: r => if g = f then (g, d) :: r else (g, x) :: pF f d r
theorem RelKV.putF {f : Str} {d : D} {v : V} (r : RelD K ρ H d v) : ∀ {kds : List (Str × D)} {kvs : List (Str × V)}, RelKV K ρ H kds kvs → RelKV K ρ H (pF f d kds) (L2.putF f v kvs)
  | [], kvs, h => by
    have := RelKV.nil_ h
    subst this
    exact RelKV.cons r RelKV.nil
  | (g, d0) :: kds, kvs, h => by
    obtain ⟨v0, w, rfl, r0, hr⟩ := RelKV.split h
    unfold pF L2.putF
    by_cases e : g = f
    · rw [if_pos e, if_pos e]; exact RelKV.cons r hr
    · rw [if_neg e, if_neg e]; exact RelKV.cons r0 (RelKV.putF r hr)
end
/-- what the class of that name is; it has no attribute f of its own -/
structure ClsA (K : PySem.W.Frag) (c : String) (f : Str) : Prop where
  ex : ∃ C, PySem.W.nsIn K mainGlobals c = some (some (.ref C)) ∧ Cls K C ∧ NoAttr K C f
theorem ClsA.at_ {K : PySem.W.Frag} {c : String} {f : Str} (h : ClsA K c f) {C : Addr} (e : PySem.W.nsIn K mainGlobals c = some (some (.ref C))) : Cls K C ∧ NoAttr K C f := by
  obtain ⟨C', e', a, b⟩ := h.ex
  rw [e] at e'
  simp only [Option.some.injEq, Value.ref.injEq] at e'
  subst e'
  exact ⟨a, b⟩
def ClsAs (K : PySem.W.Frag) (cs : List String) (f : Str) : Prop := ∀ c ∈ cs, ClsA K c f
theorem ClsAs.nil {K : PySem.W.Frag} {f : Str} : ClsAs K [] f := fun c h => by simp at h
theorem ClsAs.cons {K : PySem.W.Frag} {c : String} {cs : List String} {f : Str} (h : ClsA K c f) (g : ClsAs K cs f) : ClsAs K (c :: cs) f := fun x hx => by
  rcases List.mem_cons.mp hx with rfl | hx
  · exact h
  · exact g x hx
/-! e.f -/
def fldD (cs : List String) (f : Str) (d : D) (S : Sto) : Option (D × Sto) := match d with
  | .loc n => match S[n]? with
    | some (.ins c fs) => if c ∈ cs then (fs.lookup f).map fun v => (v, S) else none
    | _ => none
  | _ => none
def fstD (cs : List String) (f : Str) (o d : D) (S : Sto) : Option Sto := match o with
  | .loc n => match S[n]? with
    | some (.ins c fs) => if c ∈ cs ∧ fs.length < 999 then some (S.set n (.ins c (pF f d fs))) else none
    | _ => none
  | _ => none
section
variable {X : Cx} {W : WX} {cs : List String} {f : Str}
theorem fld_rel {K : PySem.W.Frag} {ρ : List Addr} {S S' : Sto} {H : Hp} {o d : D} {v : V} (h : ClsAs K cs f) (R : RelS K ρ S H) (r : RelD K ρ H o v) (e : fldD cs f o S = some (d, S')) :
    S' = S ∧ ∃ a C dx fs u, v = .ref a ∧ H a = some (.ins C dx fs) ∧ Cls K C ∧ NoAttr K C f ∧ fs.lookup f = some u ∧ RelD K ρ H d u := by
  unfold fldD at e
  split at e
  · rename_i n
    split at e
    · rename_i c fs hn
      split at e
      · rename_i hc
        obtain ⟨d', e1, e2⟩ := Option.map_eq_some_iff.mp e
        cases e2
        obtain ⟨a, C, dx, kvs, rfl, _, hns, ha, q⟩ := R.ins hn r
        obtain ⟨h1, h2⟩ := (h c hc).at_ hns
        obtain ⟨u, e3, q3⟩ := q.lookup.1 _ e1
        exact ⟨rfl, a, C, dx, kvs, u, rfl, ha, h1, h2, e3, q3⟩
      · cases e
    · cases e
  · cases e
theorem fst_rel {K : PySem.W.Frag} {ρ : List Addr} {S S' : Sto} {H : Hp} {o d : D} {v u : V} (h : ClsAs K cs f) (R : RelS K ρ S H) (r : RelD K ρ H o v) (rd : RelD K ρ H d u) (e : fstD cs f o d S = some S') :
    ∃ a C dx fs, v = .ref a ∧ H a = some (.ins C dx fs) ∧ Cls K C ∧ NoAttr K C f ∧ fs.length < 999 ∧ Post K ρ H ρ (upd H a (.ins C dx (putF f u fs))) S' := by
  unfold fstD at e
  split at e
  · rename_i n
    split at e
    · rename_i c fs hn
      split at e
      · rename_i hc
        cases e
        obtain ⟨a, C, dx, kvs, rfl, hra, hns, ha, q⟩ := R.ins hn r
        obtain ⟨h1, h2⟩ := (h c hc.1).at_ hns
        have hl : kvs.length < 999 := by rw [q.len]; exact hc.2
        refine ⟨a, C, dx, kvs, rfl, ha, h1, h2, hl, ?_⟩
        have mu : Mut (H a) := by rw [ha]; trivial
        exact R.put hra mu ⟨C, dx, _, hns, upd_same, (RelKV.putF rd q).mono (immPut R hra _) List.prefix_rfl⟩
      · cases e
    · cases e
  · cases e
theorem ee_fld {e : Expr} {fe : EvE} {pos : Pos} (hc : ClsAs X.K cs f) (h : EE X e fe) (hb : attributeBase e f X.env (eval e X.env) = eval e X.env := by rfl) : EE X (.Attribute e f pos) (u1E (fldD cs f) fe) := wkE (pe_fld h hb) fun σ H Q q => by
  obtain ⟨ρ, τ, S, d, S', A, e, k⟩ := q
  obtain ⟨⟨x, S1⟩, e1, e⟩ := bindE e
  refine goE A e1 fun ρ1 v1 H1 A1 P1 r1 => ?_
  obtain ⟨rfl, a, C, dx, fs, u, rfl, ha, h1, h2, e3, q3⟩ := fld_rel hc A1.s r1 e
  exact ⟨a, C, dx, fs, u, rfl, ha, h1, h2, e3, k ρ1 u H1 P1 q3⟩
/-! e.f = value -/
def fstS (cs : List String) (f : Str) (fo fv : EvE) : EvS := fun τ S => (fv τ S).bind fun p => (fo τ p.2).bind fun q => (fstD cs f q.1 p.1 q.2).map fun S3 => (.nx τ, S3)
theorem es_fld {o value : Expr} {fo fv : EvE} {pos pos' : Pos} (hc : ClsAs X.K cs f) (ho : EE X o fo) (hv : EE X value fv) (hs : swapsWith value (some (.Attribute o f pos')) pos.line X.env = pure false := by rfl) : ES W X (.Assign [.Attribute o f pos'] value pos) (fstS cs f fo fv) := wkS (ps_fld ho hv hs) fun D σ H q => by
  obtain ⟨ρ, τ, S, d, S', A, e, k⟩ := q
  obtain ⟨⟨x, S1⟩, e1, e⟩ := bindE e
  obtain ⟨⟨y, S2⟩, e2, e⟩ := bindE e
  obtain ⟨S3, e3, e⟩ := Option.map_eq_some_iff.mp e
  cases e
  refine goE A e1 fun ρ1 v1 H1 A1 P1 r1 => goE A1 e2 fun ρ2 v2 H2 A2 P2 r2 => ?_
  obtain ⟨a, C, dx, fs, rfl, ha, h1, h2, hl, P3⟩ := fst_rel hc A2.s r2 (r1.mono (P2.imm A1.s) P2.pre) e3
  exact ⟨a, C, dx, fs, rfl, ha, h1, h2, by omega, k ρ2 _ ((P1.trans P2).trans P3) σ (A2.t.mono (P3.imm A2.s) P3.pre)⟩
/-- .. as a target -/
def fldG (cs : List String) (f : Str) (fo : EvE) : EvG := fun d τ S => (fo τ S).bind fun q => (fstD cs f q.1 d q.2).map fun S3 => (τ, S3)
/-! e.f op= value -/
def clsD (o : D) (S : Sto) : Option String := match o with
  | .loc n => match S[n]? with
    | some (.ins c _) => some c
    | _ => none
  | _ => none
def fagS (cs : List String) (f : Str) (g : D → D → Sto → Option (D × Sto)) (fo fv : EvE) : EvS := fun τ S => (fo τ S).bind fun p => (fldD cs f p.1 p.2).bind fun x => (fv τ x.2).bind fun q => (g x.1 q.1 q.2).bind fun r => (clsD p.1 p.2).bind fun c => (fstD [c] f p.1 r.1 r.2).map fun S3 => (.nx τ, S3)
def ixLD : D → D → Sto → Option (D × Sto)
  | .loc n, .int i, S => match S[n]? with
    | some (.lst ds) => (atI ds i).map fun d => (d, S)
    | _ => none
  | _, _, _ => none
def sagS (g : D → D → Sto → Option (D × Sto)) (fo fi fv : EvE) : EvS := fun τ S => (fo τ S).bind fun p => (fi τ p.2).bind fun q => (ixLD p.1 q.1 q.2).bind fun x => (fv τ x.2).bind fun y => (g x.1 y.1 y.2).bind fun z => (stD p.1 q.1 z.1 z.2).map fun S6 => (.nx τ, S6)
/-! methods -/
/-- method m of the class of that name is g -/
structure Mt (P : Program) (w : World) (K : PySem.W.Frag) (mg : Str → Option Value) (base : Heap) (k : Nat) (c : String) (m : Str) (g : Fn) : Prop where
  ex : ∃ (C f : Addr) (fd : FuncData) (ps : List Str), PySem.W.nsIn K mainGlobals c = some (some (.ref C)) ∧ Cls K C ∧ Meth K C m f ∧ FnOk P w K mg base CX0 k f fd ps (spE K g) ∧ Binds K fd ps []
/-- the instance that is asked -/
def selfD (c : String) (m : Str) (d : D) (S : Sto) : Bool := match d with
  | .loc n => match S[n]? with
    | some (.ins c' fs) => decide (c' = c) && (fs.lookup m).isNone
    | _ => false
  | _ => false
theorem selfD_rel {K : PySem.W.Frag} {ρ : List Addr} {S : Sto} {H : Hp} {c : String} {m : Str} {d : D} {v : V} {C : Addr} (hn : PySem.W.nsIn K mainGlobals c = some (some (.ref C))) (R : RelS K ρ S H) (r : RelD K ρ H d v) (e : selfD c m d S = true) :
    ∃ a dx fs, v = .ref a ∧ H a = some (.ins C dx fs) ∧ fs.lookup m = none := by
  unfold selfD at e
  split at e
  · split at e
    · rename_i n c' fs hs
      rw [Bool.and_eq_true, decide_eq_true_eq, Option.isNone_iff_eq_none] at e
      obtain ⟨rfl, e2⟩ := e
      obtain ⟨a, C', dx, kvs, rfl, _, hns, ha, q⟩ := R.ins hs r
      rw [hn] at hns
      simp only [Option.some.injEq, Value.ref.injEq] at hns
      subst hns
      exact ⟨a, dx, kvs, rfl, ha, q.lookup.2 e2⟩
    · cases e
  · cases e
def mtE (c : String) (m : Str) (g : Fn) (fo : EvE) (fa : EvA) : EvE := fun τ S => (fo τ S).bind fun p => if selfD c m p.1 p.2 = true then (fa τ p.2).bind fun q => g (p.1 :: q.1) q.2 else none
theorem ee_mt {k j : Nat} {c : String} {m : Str} {g : Fn} {o e0 : Expr} {es : List Expr} {fo : EvE} {fa : EvA} {pos apos : Pos} {pl : Sem Bool} (M : Mt X.prog X.w X.K X.mg X.base k c m g) (hc : Ok X j) (hk : k ≤ j) (ho : EE X o fo) (ha : EA X (e0 :: es) fa)
    (hst : starEach (e0 :: es) X.env = (false, eval e0 X.env) :: starEach es X.env := by rfl) (hpl : (backTo pos (starEach es X.env)).any (·.1) = false := by rfl)
    (ht : eval (.Call (.Attribute o m apos) (e0 :: es) [] pos) X.env = (do
      let ov ← eval o X.env
      standAt apos.atName
      let (f, first) ← holding [ov] (getMethod ov m pl)
      callWith pos f first (backTo pos (starEach (e0 :: es) X.env)) (backToKw pos (keywordEach [] X.env))) := by rfl) :
    EE X (.Call (.Attribute o m apos) (e0 :: es) [] pos) (mtE c m g fo fa) := by
  obtain ⟨C, f, fd, ps, hn, cl, me, F, hb⟩ := M.ex
  exact wkE (pe_meth (pl := pl) ho cl me F (hc.room.mono hk) hb .nil pass0 ha hst hpl ht) fun σ H Q q => by
    obtain ⟨ρ, τ, S, d, S', A, e, k⟩ := q
    obtain ⟨⟨x, S1⟩, e1, e⟩ := bindE e
    split at e
    · rename_i hs
      obtain ⟨⟨ys, S2⟩, e2, e⟩ := bindE e
      refine goE A e1 fun ρ1 v1 H1 A1 P1 r1 => ?_
      obtain ⟨a, dx, fs, rfl, ha1, hl⟩ := selfD_rel hn A1.s r1 hs
      refine ⟨a, dx, fs, rfl, ha1, hl, goA A1 e2 fun ρ2 v2 H2 A2 P2 r2 => ?_⟩
      rw [List.append_nil]
      exact ⟨ρ2, S2, x :: ys, d, S', A2.s, .cons (r1.mono (P2.imm A1.s) P2.pre) r2, e, fun ρ3 v H3 P3 r3 => k ρ3 v H3 ((P1.trans P2).trans P3) r3⟩
    · cases e
theorem ee_mt0 {k j : Nat} {c : String} {m : Str} {g : Fn} {o : Expr} {fo : EvE} {pos apos : Pos} {pl : Sem Bool} (M : Mt X.prog X.w X.K X.mg X.base k c m g) (hc : Ok X j) (hk : k ≤ j) (ho : EE X o fo)
    (ht : eval (.Call (.Attribute o m apos) [] [] pos) X.env = (do
      let ov ← eval o X.env
      standAt apos.atName
      let (f, first) ← holding [ov] (getMethod ov m pl)
      callWith pos f first (backTo pos (starEach [] X.env)) (backToKw pos (keywordEach [] X.env))) := by rfl) :
    EE X (.Call (.Attribute o m apos) [] [] pos) (mtE c m g fo nilA) := by
  obtain ⟨C, f, fd, ps, hn, cl, me, F, hb⟩ := M.ex
  exact wkE (pe_meth0 (pl := pl) ho cl me F (hc.room.mono hk) hb .nil pass0 ht) fun σ H Q q => by
    obtain ⟨ρ, τ, S, d, S', A, e, k⟩ := q
    obtain ⟨⟨x, S1⟩, e1, e⟩ := bindE e
    split at e
    · rename_i hs
      obtain ⟨⟨ys, S2⟩, e2, e⟩ := bindE e
      cases e2
      refine goE A e1 fun ρ1 v1 H1 A1 P1 r1 => ?_
      obtain ⟨a, dx, fs, rfl, ha1, hl⟩ := selfD_rel hn A1.s r1 hs
      refine ⟨a, dx, fs, rfl, ha1, hl, ?_⟩
      exact ⟨ρ1, S1, [x], d, S', A1.s, .cons r1 .nil, e, fun ρ3 v H3 P3 r3 => k ρ3 v H3 (P1.trans P3) r3⟩
    · cases e
/-! new instances -/
structure MkC (P : Program) (w : World) (K : PySem.W.Frag) (mg : Str → Option Value) (base : Heap) (k : Nat) (c : String) (x : Str) (g : Fn) : Prop where
  ex : ∃ (C f : Addr) (fd : FuncData) (ps : List Str), PySem.W.nsIn K mainGlobals c = some (some (.ref C)) ∧ Mk K C f ∧ FnOk P w K mg base CX0 k f fd ps (spE K g) ∧ mg x = some (.ref C) ∧ Binds K fd ps []
def mkE (c : String) (g : Fn) (fa : EvA) : EvE := fun τ S => (fa τ S).bind fun p => (g (.loc p.2.length :: p.1) (p.2 ++ [.ins c []])).bind fun q => match q.1 with | .non => some (.loc p.2.length, q.2) | _ => none
theorem mk_rel {K : PySem.W.Frag} {ρ : List Addr} {S S' : Sto} {H : Hp} {c : String} {g : Fn} {ds : List D} {vs : List V} {d : D} {C : Addr} (hn : PySem.W.nsIn K mainGlobals c = some (some (.ref C))) (R : RelS K ρ S H) (r : RelDs K ρ H ds vs)
    (e : ((g (.loc S.length :: ds) (S ++ [.ins c []])).bind fun q => match q.1 with | .non => some (D.loc S.length, q.2) | _ => none) = some (d, S')) {Q : VK} (k : ∀ ρ' v H', Post K ρ H ρ' H' S' → RelD K ρ' H' d v → Q v H') :
    ∀ x dx, H x = none → H dx = none → dx ≠ x → spE K g (.ref x :: (vs ++ [])) (upd (upd H dx (.own x)) x (.ins C dx [])) (fun v H2 => v = .non ∧ Q (.ref x) H2) E0 := by
  intro x dx hx hdx hne
  obtain ⟨⟨u, S2⟩, e1, e⟩ := bindE e
  have P1 := R.side hdx (.own x)
  have hx1 : (upd H dx (.own x)) x = none := by rw [upd_ne (Ne.symm hne)]; exact hx
  obtain ⟨P2, r2⟩ := P1.rel.new (o := .ins c []) (ho := .ins C dx []) hx1 ⟨C, dx, [], hn, upd_same, RelKV.nil⟩
  have im := (P1.trans P2).imm R
  have hu : u = .non ∧ D.loc S.length = d ∧ S2 = S' := by
    cases u <;> cases e
    exact ⟨rfl, rfl, rfl⟩
  obtain ⟨rfl, rfl, rfl⟩ := hu
  rw [List.append_nil]
  refine ⟨_, _, .loc S.length :: ds, .non, S2, P2.rel, .cons r2 (r.mono im (List.prefix_append _ _)), e1, fun ρ' v H' P3 r3 => ⟨r3.non_, ?_⟩⟩
  exact k ρ' (.ref x) H' ((P1.trans P2).trans P3) (r2.mono (P3.imm P2.rel) P3.pre)
theorem ee_mk {k j : Nat} {c : String} {x : Str} {g : Fn} {e0 : Expr} {es : List Expr} {fa : EvA} {p pos : Pos} (M : MkC X.prog X.w X.K X.mg X.base k c x g) (hc : Ok X j) (hk : k + 1 ≤ j) (hg : Gl X x) (ha : EA X (e0 :: es) fa)
    (hdb : (x == ("__debug__" : Str)) = false := by decide) (he : starEach (e0 :: es) X.env = (false, eval e0 X.env) :: starEach es X.env := by rfl) (hpl : (backTo pos (starEach es X.env)).any (·.1) = false := by rfl) : EE X (.Call (.Name x p) (e0 :: es) [] pos) (mkE c g fa) := by
  obtain ⟨C, f, fd, ps, hn, mk, F, hm, hb⟩ := M.ex
  exact wkE (pe_make mk F (hc.room.mono hk) hg hm hb .nil pass0 ha hdb he hpl) fun σ H Q q => by
    obtain ⟨ρ, τ, S, d, S', A, e, k⟩ := q
    obtain ⟨⟨ys, S1⟩, e1, e⟩ := bindE e
    exact goA A e1 fun ρ1 v1 H1 A1 P1 r1 => mk_rel hn A1.s r1 e fun ρ2 v H2 P2 r2 => k ρ2 v H2 (P1.trans P2) r2
end
/-! the end: what stands in the text -/
structure MtAt (K : PySem.W.Frag) (c : String) (m qual : Str) (st : Stmt) (ps : List Str) : Prop where
  ex : ∃ (C f : Addr) (fd : FuncData), PySem.W.nsIn K mainGlobals c = some (some (.ref C)) ∧ Cls K C ∧ Meth K C m f ∧ Fun K m qual st f fd ∧ Binds K fd ps []
structure MkAt (K : PySem.W.Frag) (mg : Str → Option Value) (c : String) (x qual : Str) (st : Stmt) (ps : List Str) : Prop where
  ex : ∃ (C f : Addr) (fd : FuncData), PySem.W.nsIn K mainGlobals c = some (some (.ref C)) ∧ Mk K C f ∧ Fun K "__init__" qual st f fd ∧ mg x = some (.ref C) ∧ Binds K fd ps []
theorem mtAt {K : PySem.W.Frag} {c : String} {C : Addr} {m qual : Str} {st : Stmt} {ps : List Str} {f : Addr} {oc : Value} {od an : Option Addr} {osl : Array (Option Value)} {kV doc pm cdv ct : Value}
    (hb : ∀ (kV doc pm : Value) (an : Option Addr) (cdv ct : Value) (us : List Value), us.length = ps.length → bindArgs (PySem.W.fnOf m qual (defArgs st) (defBody st) (defScope st) .none kV doc pm an cdv ct) ⟨us, []⟩ = pure (ps.zip us))
    (n : PySem.W.nsIn K mainGlobals c = some (some (.ref C))) (cl : Cls K C) (a : PySem.W.findIn K (.ref C) m = some (some (.ref f))) (i : PySem.W.isFn K (.ref f) = true)
    (l : K.lookup f = some ⟨oc, od, .func (PySem.W.fnOf m qual (defArgs st) (defBody st) (defScope st) .none kV doc pm an cdv ct), osl⟩)
    (cc : PySem.W.codeIn K cdv qual = true) (k : PySem.W.keepIn K (.ref f) = true) : MtAt K c m qual st ps :=
  have F := fun_mk (st := st) l cc k
  ⟨C, f, _, n, cl, ⟨a, i, k⟩, F, F.binds hb⟩
theorem mkAt {K : PySem.W.Frag} {h : Heap} {mg : Str → Option Value} (X : K.In h) (G : h.Ns mainGlobals mg) {x : String} {C : Addr} {qual : Str} {st : Stmt} {ps : List Str} {f : Addr} {oc : Value} {od an : Option Addr} {osl : Array (Option Value)} {kV doc pm cdv ct : Value}
    (hb : ∀ (kV doc pm : Value) (an : Option Addr) (cdv ct : Value) (us : List Value), us.length = ps.length → bindArgs (PySem.W.fnOf "__init__" qual (defArgs st) (defBody st) (defScope st) .none kV doc pm an cdv ct) ⟨us, []⟩ = pure (ps.zip us))
    (n : PySem.W.nsIn K mainGlobals x = some (some (.ref C))) (mk : PySem.W.makesIn K C = true) (kc : PySem.W.keepIn K (.ref C) = true) (a : PySem.W.findIn K (.ref C) "__init__" = some (some (.ref f))) (i : PySem.W.isFn K (.ref f) = true)
    (l : K.lookup f = some ⟨oc, od, .func (PySem.W.fnOf "__init__" qual (defArgs st) (defBody st) (defScope st) .none kV doc pm an cdv ct), osl⟩)
    (cc : PySem.W.codeIn K cdv qual = true) (k : PySem.W.keepIn K (.ref f) = true) : MkAt K mg x x qual st ps :=
  have F := fun_mk (st := st) l cc k
  ⟨C, f, _, n, ⟨mk, a, i, kc⟩, F, PySem.W.mg_of X G n, F.binds hb⟩
end SW
namespace SW
open PySem L2

/-! xs.index(x), the items trees of any kind -/
def indexG (o : D) (as : List D) (S : Sto) : Option (D × Sto) := match as with
  | [d] => (pyOf S o).bind fun p => match p with
    | .list ds => (pyOf S d).bind fun q => (ds.findIdx? fun z => PyData.eqv z q).map fun j => (.int (j : Nat), S)
    | _ => none
  | _ => none
theorem opm_indexG {K : PySem.W.Frag} : OpM K (rIndexD K) indexG := fun ρ S H o x u v d S' R r1 r2 e Q k => by
  unfold indexG at e
  split at e
  · rename_i d0
    obtain ⟨p, e1, e⟩ := bindE e
    split at e
    · rename_i ds
      obtain ⟨q, e2, e⟩ := bindE e
      obtain ⟨j, e3, e⟩ := Option.map_eq_some_iff.mp e
      cases e
      obtain ⟨w, rfl, q2⟩ := r2.one_
      obtain ⟨h1, s1⟩ := dp_py R r1 e1
      obtain ⟨h2, s2⟩ := dp_py R q2 e2
      obtain ⟨hj, h3, h4⟩ := List.findIdx?_eq_some_iff_getElem.mp e3
      have ex : ∃ a, u = V.ref a := by
        cases h1 with
        | lst hs ha => exact ⟨_, rfl⟩
      obtain ⟨a, rfl⟩ := ex
      refine ⟨a, w, q, ds, j, ds[j], rfl, rfl, h1, h2, s1, s2, List.getElem?_eq_getElem hj, h3, fun m z hm hz => ?_, kRefl R k (RelD.int _)⟩
      have hml := (List.getElem?_eq_some_iff.mp hz)
      obtain ⟨hml, rfl⟩ := hml
      simpa using h4 m hm
    · cases e
  · cases e
end SW
/-! slices of tuples with a step (not 1) -/
namespace SW
open PySem PySem.Spec L2 PyProof.Rows HT

section
variable {prog : Program} {w : World} {A : Around} {E : Value → Shared → Prop} {s : Shared}
end
section
variable {X : Cx}
end
end SW
/-! zip of a list and a tuple, or of two tuples -/
namespace SW
open PySem PySem.Spec PyProof.Rows L2

section
variable {X : Cx} {K : PySem.W.Frag} {ρ : List Addr} {S : Sto} {H : Hp} {e e2 : Expr}
end
end SW
/-! sorted(d), a dict of ints -/
namespace SW
open PySem PySem.Spec PyProof.Rows L2

end SW
/-! repr of data, in the law's own def: no repr is under way where the law is asked -/
namespace SW
open PySem L2 PyProof.Rows

section
variable {X : Cx} {K : PySem.W.Frag} {ρ : List Addr} {S : Sto} {H : Hp}
/-- data that repr tells by itself -/
def tells (p : PyData) : Bool := p.showable && !p.hasDict && decide (p.shown.length ≤ 10000000)
end
/-! a def that is called where no repr is under way -/
structure FnG (P : Program) (w : World) (K : PySem.W.Frag) (mg : Str → Option Value) (base : Heap) (k : Nat) (f : Addr) (fd : FuncData) (ps : List Str) (sp : Sp) : Prop where
  len : ∀ vs H Q E, sp vs H Q E → vs.length = ps.length
  run : ∀ (A : Around) (outer : List Env) (s : Shared) (H : Hp) (args : Args) (us : List Value) (vs : List V) (Q : VK) (E : XK), Room k A → A.guards = some [] → Env0 P w K mg base A outer s H → BindsTo s fd args (ps.zip us) → Vals vs us → sp vs H Q E →
    codeAny (model P w) A (.call (.ref f) args) (CR CX0 outer P w H s Q E) s
theorem FnG.mono {P : Program} {w : World} {K : PySem.W.Frag} {mg : Str → Option Value} {base : Heap} {j k : Nat} {f : Addr} {fd : FuncData} {ps : List Str} {sp : Sp} (F : FnG P w K mg base j f fd ps sp) (h : j ≤ k) : FnG P w K mg base k f fd ps sp :=
  ⟨F.len, fun A outer s H args us vs Q E room => F.run A outer s H args us vs Q E (room.mono h)⟩
section
variable {P : Program} {w : World} {K : PySem.W.Frag} {mg : Str → Option Value} {base : Heap}
end
end SW
namespace SW
open PySem L2
section
variable {X : Cx} {pos : Pos}
end
end SW
/-! sorted(t), a tuple of ints -/
namespace PySem
open Sem (wp)
open PyProof.Rows
open AutoSeq1
section
variable {prog : Program} {w : World} {A : Around} {E : Value → Shared → Prop} {s : Shared}
end
end PySem
namespace SrtO
open PySem PyProof.Rows Srt
variable {prog : Program} {w : World} {A : Around} {E : Value → Shared → Prop} {s : Shared}
end SrtO
namespace SW
open PySem PySem.Spec PyProof.Rows L2
end SW
/-! dict(list of pairs), the keys ints -/
namespace SW
open PySem L2 PyProof.Rows

section
variable {K : PySem.W.Frag} {ρ : List Addr} {S : Sto} {H : Hp}
end
end SW
/-! list(d.values()), the keys ints and texts -/
namespace SW
open PySem PySem.Spec PyProof.Rows L2

section
variable {X : Cx} {e : Expr} {f : EvE} {p pos apos pos2 : Pos}
end
end SW
/-! d.setdefault(k, v), the keys ints and texts -/
namespace SW
open PySem PySem.Spec PyProof.Rows L2

section
variable {X : Cx} {o e f : Expr} {fo fe ff : EvE} {apos cpos : Pos}
end
end SW
/-! defs that may raise; raise; calls of such defs -/
namespace SW
open PySem PySem.Spec PyProof.Rows L2

/-- what a call comes to -/
inductive Rs where
  | val (d : D)
  | exc (c : String) (fs : List (Str × D))
abbrev FnX := List D → Sto → Option (Rs × Sto)
abbrev EvX := Tau → Sto → Option (Rs × Sto)
def RsOk (K : PySem.W.Frag) (Q : VK) (E : XK) (ρ' : List Addr) (H' : Hp) : Rs → Prop
  | .val d => ∀ v, RelD K ρ' H' d v → Q v H'
  | .exc c fs => ExOk K E ρ' H' c fs
def spX (K : PySem.W.Frag) (g : FnX) : Sp := fun vs H Q E => ∃ ρ S ds r S', RelS K ρ S H ∧ RelDs K ρ H ds vs ∧ g ds S = some (r, S') ∧ ∀ ρ' H', Post K ρ H ρ' H' S' → RsOk K Q E ρ' H' r
def fnX (n m : Nat) (b : EvS) : FnX := fun ds S => if ds.length = n then (b (ds.map some ++ List.replicate (m - n) none) S).bind fun p => match p.1 with
  | .rt d => some (.val d, p.2)
  | .nx _ => some (.val .non, p.2)
  | .ex c fs _ => some (.exc c fs, p.2)
  | _ => none else none
structure MtX (P : Program) (w : World) (K : PySem.W.Frag) (mg : Str → Option Value) (base : Heap) (k : Nat) (c : String) (m : Str) (g : FnX) : Prop where
  ex : ∃ (C f : Addr) (fd : FuncData) (ps : List Str), PySem.W.nsIn K mainGlobals c = some (some (.ref C)) ∧ Cls K C ∧ Meth K C m f ∧ FnOk P w K mg base (L2.CX P w) k f fd ps (spX K g) ∧ Binds K fd ps []
section
variable {P : Program} {w : World} {K : PySem.W.Frag} {mg : Str → Option Value} {base : Heap}
/-- THE RULE of a def that may raise -/
theorem fnX_mk {x qual : Str} {st : Stmt} {f : Addr} {fd : FuncData} {N ps : List Str} {k : Nat} {b : EvS} (F : Fun K x qual st f fd) (S : FnScope N ps (defScope st))
    (hb : ∀ (cdv : Value) (A : Around) (outer : List Env) (s : Shared) (H : Hp) (E : XK), Takes (cxOf (L2.CX P w) P w K mg base N qual (defScope st) f cdv A outer s H E) (fun cls d _ H2 => E cls d H2) →
      PassesOwn (model P w) (cxOf (L2.CX P w) P w K mg base N qual (defScope st) f cdv A outer s H E).A (cxOf (L2.CX P w) P w K mg base N qual (defScope st) f cdv A outer s H E).env (cxOf (L2.CX P w) P w K mg base N qual (defScope st) f cdv A outer s H E).xe →
      Ok (cxOf (L2.CX P w) P w K mg base N qual (defScope st) f cdv A outer s H E) k → ESs (fun cls d _ H2 => E cls d H2) (cxOf (L2.CX P w) P w K mg base N qual (defScope st) f cdv A outer s H E) (defBody st) b) :
    FnOk P w K mg base (L2.CX P w) (k + 1) f fd ps (spX K (fnX ps.length N.length b)) := by
  refine F.okX S (fun vs H Q E h => ?_) (fun cdv A outer s H vs Q E hr h => ?_)
  · obtain ⟨ρ, S, ds, d, S', R, r, e, _⟩ := h
    unfold fnX at e
    split at e
    · rename_i hl; rw [r.len, hl]
    · cases e
  · obtain ⟨ρ, S, ds, d, S', R, r, e, kk⟩ := h
    refine ⟨_, hb cdv A outer s H E (takes_of rfl rfl rfl rfl) PassesOwn.leaving ⟨rfl, hr⟩, ?_⟩
    unfold fnX at e
    split at e
    · rename_i hl
      obtain ⟨⟨o, S1⟩, e1, e⟩ := bindE e
      have T := start_rel r (N.length - ps.length)
      have hv : vs.length = ps.length := by rw [r.len, hl]
      refine ⟨ρ, _, S, o, S1, ⟨R, ?_⟩, e1, fun ρ1 H1 P1 => ?_⟩
      · unfold L2.start; rw [hv]; exact T
      · cases o with
        | rt d1 => cases e; exact fun v r1 => kk ρ1 H1 P1 v r1
        | nx τ1 => cases e; exact fun σ1 t1 => kk ρ1 H1 P1 .non RelD.non
        | bk _ => cases e
        | ct _ => cases e
        | ex c fs τ1 => cases e; exact fun σ1 t1 => kk ρ1 H1 P1
    · cases e
end
/-- an exception's class: over ValueError, with no __init__ -/
structure XcC (K : PySem.W.Frag) (mg : Str → Option Value) (c : String) : Prop where
  ex : ∃ C, PySem.W.nsIn K mainGlobals c = some (some (.ref C)) ∧ mg c = some (.ref C) ∧ PySem.W.excIn K C [.type "ValueError", .type "Exception", .type "BaseException", .type "object"] "ValueError.__new__" = true ∧ PySem.W.keepIn K (.ref C) = true ∧
    PySem.W.subIn K (.ref C) (.type "BaseException") = some true ∧ PySem.W.typeIn K (.ref C) = some (.type "type")
def raiseS (c : String) : EvS := fun τ S => some (.ex c [] τ, S)
def tX (K : PySem.W.Frag) (W : WX) (f : EvX) : TE := fun σ H Q => ∃ ρ τ S r S', At K ρ τ S σ H ∧ f τ S = some (r, S') ∧ ∀ ρ' H', Post K ρ H ρ' H' S' → RsOk K Q (fun cls d H2 => W cls d σ H2) ρ' H' r
abbrev EX (W : WX) (X : Cx) (e : Expr) (f : EvX) : Prop := PE X e (tX X.K W f)
def aX (g : FnX) (fa : EvA) : EvX := fun τ S => (fa τ S).bind fun p => g p.1 p.2
def mtX (c : String) (m : Str) (g : FnX) (fo : EvE) (fa : EvA) : EvX := fun τ S => (fo τ S).bind fun p => if selfD c m p.1 p.2 = true then (fa τ p.2).bind fun q => g (p.1 :: q.1) q.2 else none
section
variable {X : Cx} {W : WX}
theorem es_raise {c : String} {m : Str} {p p2 pos pos' : Pos} {j} (f : XcC X.K X.mg c) (hcalm : X.calm = true) (tk : Takes X W) (hg : Gl X (c : Str)) (hd : ((c : Str) == ("__debug__" : Str)) = false := by rfl) : ES W X (.Raise (some (.Call (.Name c p) [.Constant (.str m) j p2] [] pos)) none pos') (raiseS c) := by
  obtain ⟨C, h0, gC, q, kC, b, t⟩ := f.ex
  exact wkS (ps_raise hcalm tk (pmk_own PySem.F.excBase_ValueError q gC kC (raises_own b t) hg hd)) fun D σ H q => by
    obtain ⟨ρ, τ, S, o, S', A, e, k⟩ := q
    cases e
    exact ((k ρ H A.refl) σ A.t C h0).1 rfl
/-- a method that may raise -/
def tMethS (C : Addr) (m : Str) (sp : Sp) (E : L2.St → XK) (ta : TE) (t : TA) : TE := fun σ H Q => ta σ H fun x H1 => ∃ a dx fs, x = V.ref a ∧ H1 a = some (HO.ins C dx fs) ∧ List.lookup m fs = none ∧ t σ H1 fun vs H2 => sp (x :: vs) H2 Q (E σ)
theorem pe_methS {CX : CXT} {k : Nat} {f C : Addr} {fd : FuncData} {ps : List Str} {sp : Sp} {E : L2.St → XK} {m : Str} {pos apos : Pos} {e o : Expr} {es : List Expr} {ta : TE} {t : TA} {pl : Sem Bool} (he : PE X o ta) (c : Cls X.K C) (hm : Meth X.K C m f) (F : FnOk X.prog X.w X.K X.mg X.base CX k f fd ps sp) (hr : Room k X.A) (hb : Binds X.K fd ps []) (hx : ∀ σ, PassesAt CX X σ (E σ)) (ha : PA X (e :: es) t)
    (hst : starEach (e :: es) X.env = (false, eval e X.env) :: starEach es X.env) (hpl : (backTo pos (starEach es X.env)).any (·.1) = false)
    (ht : eval (.Call (.Attribute o m apos) (e :: es) [] pos) X.env = (do
      let ov ← eval o X.env
      standAt apos.atName
      let (f, first) ← holding [ov] (getMethod ov m pl)
      callWith pos f first (backTo pos (starEach (e :: es) X.env)) (backToKw pos (keywordEach [] X.env)))) :
    PE X (.Call (.Attribute o m apos) (e :: es) [] pos) (tMethS C m sp E ta t) := ⟨fun pins s σ H Q I h => PySem.W.methodCall_KW (thn (he.run pins s σ H _ I h) fun u s1 ⟨x, H1, I1, rx, a, dx, fs, ex, ea, l, q⟩ => by
      subst ex
      obtain rfl : u = Value.ref a := rx
      exact getmeth_ok I1 ea c hm l (PySem.W.callWith_K I.ok.mod.kin hm.kp (thn (ha.run pos pins s1 σ H1 _ I1 q) fun us s2 ⟨vs, H2, I2, r, q2⟩ => ⟨Inv.kIn I2, run_fnS F hr hb (hx σ) I2 (Paired.cons (show RelV (V.ref a) (Value.ref a) from rfl) r) q2⟩) hst hpl)) ht⟩
theorem ee_mtX {k j : Nat} {c : String} {m : Str} {g : FnX} {o e0 : Expr} {es : List Expr} {fo : EvE} {fa : EvA} {pos apos : Pos} {pl : Sem Bool} (tk : Takes X W) (M : MtX X.prog X.w X.K X.mg X.base k c m g) (hc : Ok X j) (hk : k ≤ j) (ho : EE X o fo) (ha : EA X (e0 :: es) fa)
    (hst : starEach (e0 :: es) X.env = (false, eval e0 X.env) :: starEach es X.env := by rfl) (hpl : (backTo pos (starEach es X.env)).any (·.1) = false := by rfl)
    (ht : eval (.Call (.Attribute o m apos) (e0 :: es) [] pos) X.env = (do
      let ov ← eval o X.env
      standAt apos.atName
      let (f, first) ← holding [ov] (getMethod ov m pl)
      callWith pos f first (backTo pos (starEach (e0 :: es) X.env)) (backToKw pos (keywordEach [] X.env))) := by rfl) :
    EX W X (.Call (.Attribute o m apos) (e0 :: es) [] pos) (mtX c m g fo fa) := by
  obtain ⟨C, f, fd, ps, hn, cl, me, F, hb⟩ := M.ex
  exact wkE (pe_methS (pl := pl) ho cl me F (hc.room.mono hk) hb (fun σ => passAt tk σ) ha hst hpl ht) fun σ H Q q => by
    obtain ⟨ρ, τ, S, d, S', A, e, k⟩ := q
    obtain ⟨⟨x, S1⟩, e1, e⟩ := bindE e
    split at e
    · rename_i hs
      obtain ⟨⟨ys, S2⟩, e2, e⟩ := bindE e
      refine goE A e1 fun ρ1 v1 H1 A1 P1 r1 => ?_
      obtain ⟨a, dx, fs, rfl, ha1, hl⟩ := selfD_rel hn A1.s r1 hs
      refine ⟨a, dx, fs, rfl, ha1, hl, goA A1 e2 fun ρ2 v2 H2 A2 P2 r2 => ?_⟩
      exact ⟨ρ2, S2, x :: ys, d, S', A2.s, .cons (r1.mono (P2.imm A1.s) P2.pre) r2, e, fun ρ3 H3 P3 => k ρ3 H3 ((P1.trans P2).trans P3)⟩
    · cases e
/-! statements -/
def exX (f : EvX) : EvS := fun τ S => (f τ S).map fun p => match p.1 with
  | .val _ => (.nx τ, p.2)
  | .exc c fs => (.ex c fs τ, p.2)
def rtX (f : EvX) : EvS := fun τ S => (f τ S).map fun p => match p.1 with
  | .val d => (.rt d, p.2)
  | .exc c fs => (.ex c fs τ, p.2)
def stX (i : Nat) (f : EvX) : EvS := fun τ S => (f τ S).map fun p => match p.1 with
  | .val d => (.nx (τ.set i (some d)), p.2)
  | .exc c fs => (.ex c fs τ, p.2)
theorem es_exprX {e : Expr} {f : EvX} {pos : Pos} (h : EX W X e f) (hs : swapsWith e none pos.line X.env = pure false := by rfl) : ES W X (.Expr e pos) (exX f) := wkS (ps_expr h hs) fun D σ H q => by
  obtain ⟨ρ, τ, S, o, S', A, e, k⟩ := q
  obtain ⟨⟨r, S1⟩, e1, e⟩ := Option.map_eq_some_iff.mp e
  refine ⟨ρ, τ, S, r, S1, A, e1, fun ρ1 H1 P1 => ?_⟩
  cases r with
  | val d => cases e; exact fun v r => k ρ1 H1 P1 σ (A.t.mono (P1.imm A.s) P1.pre)
  | exc c fs => cases e; exact k ρ1 H1 P1 σ (A.t.mono (P1.imm A.s) P1.pre)
end
end SW
/-! try: .. except X as n: y = n -- the exception is held -/
namespace SW
open PySem PySem.Spec PyProof.Rows L2

theorem paired_imp {α β : Type} {R R' : α → β → Prop} (h : ∀ a b, R a b → R' a b) : ∀ {xs : List α} {ys : List β}, Paired R xs ys → Paired R' xs ys
  | _, _, .nil => .nil
  | _, _, .cons r t => .cons (h _ _ r) (paired_imp h t)
/-- an object's description asks of H only what is there -/
theorem objOk_upd {P : Program} {w : World} {H : Hp} {h : Heap} {a : Addr} {o : HO} (hn : H a = none) : ∀ {b : Addr} {x : HO}, ObjOk P w H h b x → ObjOk P w (upd H a o) h b x := by
  have st : ∀ b u, H b = some u → upd H a o b = some u := fun b u e => by
    rw [upd_ne fun z => by rw [z, hn] at e; cases e]; exact e
  intro b x
  induction x with
  | dT kvs =>
    simp only [ObjOk]
    rintro ⟨h1, h2, xs, pr, r⟩
    exact ⟨h1, h2, xs, paired_imp (fun p q z => ⟨z.1, st _ _ z.2.1, z.2.2⟩) pr, r⟩
  | ins C dx fs =>
    simp only [ObjOk]
    rintro ⟨h1, r⟩
    exact ⟨st _ _ h1, r⟩
  | frz od u ih =>
    simp only [ObjOk]
    rintro ⟨h1, r⟩
    exact ⟨h1, ih r⟩
  | _ => simp only [ObjOk]; exact id
/-- what is there is tracked from here on -/
theorem inv_track {X : Cx} {pins : List (Addr × Obj)} {σ : L2.St} {H : Hp} {s : Shared} {a : Addr} {o : HO} (I : Inv X pins σ H s) (hn : H a = none) (ok : ObjOk X.prog X.w (upd H a o) s.heap a o) (hl : a ≠ X.env.locals)
    (hc : ∀ (x : Str) (c : Addr), List.lookup x X.env.cells = some c → c ≠ a) (hp : ∀ p ∈ X.pn ++ pins, p.1 ≠ a) (h0 : ∀ o, X.s_0.heap.get? a = some o → a ∈ X.ex) : Inv X pins σ (upd H a o) s := by
  have st : ∀ b u, H b = some u → upd H a o b = some u := fun b u e => by
    rw [upd_ne fun z => by rw [z, hn] at e; cases e]; exact e
  refine ⟨I.ok, I.os, I.bare, ?_, I.loc, I.cell, ?_, fun x c e => ?_, fun p hm => ?_, fun b x e => ?_, I.len⟩
  · refine ⟨I.base.keep, I.base.slot, fun b u e e1 e2 => ?_, I.base.there, fun b xs e => st _ _ (I.base.tups b xs e), fun b u v e => st _ _ (I.base.frzs b u v e), fun b ps e => ?_⟩
    · rw [upd_ne fun z => e2 (by rw [z] at e ⊢; exact h0 u e)]
      exact I.base.free b u e e1 e2
    · obtain ⟨more, e'⟩ := I.base.tbls b ps e
      exact ⟨more, st _ _ e'⟩
  · rw [upd_ne (Ne.symm hl)]; exact I.free
  · rw [upd_ne (hc x c e)]; exact I.freeC x c e
  · obtain ⟨e1, e2, e3⟩ := I.pin p hm
    exact ⟨e1, by rw [upd_ne (hp p hm)]; exact e2, e3⟩
  · by_cases z : b = a
    · subst z
      rw [upd_same] at e
      cases e
      exact ok
    · rw [upd_ne z] at e
      exact objOk_upd hn (I.hok b x e)
theorem inv_pin {X : Cx} {pins : List (Addr × Obj)} {σ : L2.St} {H : Hp} {s : Shared} {a : Addr} {oe : Obj} (I : Inv X pins σ H s) (h1 : s.heap.get? a = some oe) (h2 : H a = none) (h3 : a ≠ X.env.locals) (h4 : a ∉ X.fs) (h5 : ∀ v, oe.data ≠ Data.cell v) : Inv X ((a, oe) :: pins) σ H s := by
  refine ⟨I.ok, I.os, I.bare, I.base, I.loc, I.cell, I.free, I.freeC, fun p hm => ?_, I.hok, I.len⟩
  rcases List.mem_append.mp hm with m | m
  · exact I.pin p (List.mem_append_left _ m)
  · rcases List.mem_cons.mp m with rfl | m
    · exact ⟨h1, h2, h3, h4, h5⟩
    · exact I.pin p (List.mem_append_right _ m)
theorem inv_unpin {X : Cx} {pins : List (Addr × Obj)} {σ : L2.St} {H : Hp} {s : Shared} {q : Addr × Obj} (I : Inv X (q :: pins) σ H s) : Inv X pins σ H s := by
  refine ⟨I.ok, I.os, I.bare, I.base, I.loc, I.cell, I.free, I.freeC, fun p hm => ?_, I.hok, I.len⟩
  rcases List.mem_append.mp hm with m | m
  · exact I.pin p (List.mem_append_left _ m)
  · exact I.pin p (List.mem_append_right _ (List.mem_cons_of_mem _ m))
end SW
/-! try in the layer -/
namespace SW
open PySem PySem.Spec PyProof.Rows L2

/-- the exceptions of these classes are caught by the class of value cv -/
def Caught (K : PySem.W.Frag) (subs : List String) (cv : Value) : Prop := ∀ c ∈ subs, ∃ C, PySem.W.nsIn K mainGlobals c = some (some (.ref C)) ∧ PySem.W.exmOne K (.ref C) cv = some true
theorem Caught.nil {K : PySem.W.Frag} {cv : Value} : Caught K [] cv := fun c h => by cases h
theorem Caught.cons {K : PySem.W.Frag} {cv : Value} {c : String} {C : Addr} {subs : List String} (h0 : PySem.W.nsIn K mainGlobals c = some (some (.ref C))) (h : PySem.W.exmOne K (.ref C) cv = some true) (t : Caught K subs cv) : Caught K (c :: subs) cv := fun x hx => by
  rcases List.mem_cons.mp hx with rfl | hx
  · exact ⟨C, h0, h⟩
  · exact t x hx
/-- try: f except .. as n: y = n -/
def tryK (subs : List String) (i j : Nat) (f : EvS) : EvS := fun τ S => (f τ S).bind fun p => match p.1 with
  | .ex c [] τ1 => if c ∈ subs then some (.nx ((τ1.set i none).set j (some (.loc p.2.length))), p.2 ++ [.exn c []]) else none
  | .ex _ _ _ => none
  | o => some (o, p.2)
/-- try: f except ..: g -/
def tryO (subs : List String) (f g : EvS) : EvS := fun τ S => (f τ S).bind fun p => match p.1 with
  | .ex c [] τ1 => if c ∈ subs then (g τ1 p.2).bind fun q => match q.1 with | .ex _ _ _ => none | o => some (o, q.2) else none
  | .ex _ _ _ => none
  | o => some (o, p.2)
section
variable {X : Cx} {W : WX}
end
end SW
/-! isinstance of an exception that is held -/
namespace SW
open PySem PySem.Spec PyProof.Rows L2

section
variable {X : Cx}
end
/-- the table tells of each class what isinstance tells -/
def IsTbl (K : PySem.W.Frag) (cvs : List Value) (tup : Bool) (tbl : List (String × Bool)) : Prop := ∀ c b, tbl.lookup c = some b → ∃ C, PySem.W.nsIn K mainGlobals c = some (some (.ref C)) ∧ ExcC K C ∧ (if tup then PySem.W.kitAny K (.ref C) cvs = some b else ∃ cv, cvs = [cv] ∧ PySem.W.kitOne K (.ref C) cv = some b)
theorem IsTbl.nil {K : PySem.W.Frag} {cvs : List Value} {tup : Bool} : IsTbl K cvs tup [] := fun c b h => by cases h
theorem IsTbl.cons {K : PySem.W.Frag} {cvs : List Value} {tup : Bool} {c : String} {b : Bool} {C : Addr} {tbl : List (String × Bool)} (h0 : PySem.W.nsIn K mainGlobals c = some (some (.ref C))) (h1 : ExcC K C) (h2 : if tup then PySem.W.kitAny K (.ref C) cvs = some b else ∃ cv, cvs = [cv] ∧ PySem.W.kitOne K (.ref C) cv = some b) (t : IsTbl K cvs tup tbl) : IsTbl K cvs tup ((c, b) :: tbl) := fun x v hx => by
  rw [List.lookup_cons] at hx
  split at hx
  · rename_i e
    have e : x = c := by simpa using e
    subst e
    cases hx
    exact ⟨C, h0, h1, h2⟩
  · exact t x v hx
section
variable {X : Cx} {W : WX}
theorem vals_refs : ∀ {as : List Addr} {us : List Value}, Vals (as.map V.ref) us → us = as.map Value.ref
  | [], _, .nil => rfl
  | a :: as, _, .cons r t => by
    have e := vals_refs t
    subst e
    have e : _ = Value.ref a := r
    subst e
    rfl
theorem pa_ref {es : List Expr} {as : List Addr} {C : Addr} {e : Expr} (h : PE X e (tC (.ref C))) (t : PA X es (fun _ H Q => Q (as.map V.ref) H)) (hs : starEach (e :: es) X.env = (false, eval e X.env) :: starEach es X.env := by rfl) : PA X (e :: es) (fun _ H Q => Q ((C :: as).map V.ref) H) :=
  wkA (pa_cons h t hs) fun σ H Q q => q
theorem pa_ref0 : PA X [] (fun _ H Q => Q (([] : List Addr).map V.ref) H) := wkA pa_nil fun σ H Q q => q
end
end SW
/-! len(f(..)), f may raise; ties to gen.py -/
namespace SW
open PySem PySem.Spec PyProof.Rows L2

def lenX (f : EvX) : EvX := fun τ S => (f τ S).bind fun p => match p.1 with
  | .val d => (lenD [d] p.2).map fun q => (.val q.1, q.2)
  | .exc c fs => some (.exc c fs, p.2)
section
variable {X : Cx} {W : WX}
/-- a plain statement among those of a def that may raise -/
theorem names_of {x : Str} {C : Addr} (hg : Gl X x) (hd : (x == ("__debug__" : Str)) = false) (hm : X.mg x = some (.ref C)) : Names X x (.ref C) := ⟨hg, hd, .inl hm⟩
end
end SW
/-! dict displays of more keys, xs.remove(k) -/
namespace SW
open PySem L2
section
variable {X : Cx} {pos : Pos}
end
section
variable {K : PySem.W.Frag}
end
end SW
/-! xs.count(b), xs a list of truths -/
namespace L2
open PySem PySem.Spec PyProof.Rows
section
variable {X : Cx}
end
end L2
namespace SW
open PySem L2
section
variable {K : PySem.W.Frag}
end
end SW
/-! try: .. except X as n: a suite that looks at n -/
namespace SW
open PySem PySem.Spec PyProof.Rows L2

section
variable {X : Cx} {W : WX}
end
end SW
/-! for k, v in f().items(): the dict stays locked from there on -/
namespace SW
open PySem PySem.Spec PyProof.Rows L2

section
variable {X : Cx}
end
end SW
/-! dict displays of four keys -/
namespace SW
open PySem L2
section
variable {X : Cx} {pos : Pos}
/-- a dict display of 4 keys, numbers or texts, unlike -/
def d4E (k1 v1 k2 v2 k3 v3 k4 v4 : EvE) : EvE := fun τ S =>
  (k1 τ (S ++ [.dK []])).bind fun p1 => (v1 τ p1.2).bind fun q1 => (k2 τ q1.2).bind fun p2 => (v2 τ p2.2).bind fun q2 => (k3 τ q2.2).bind fun p3 => (v3 τ p3.2).bind fun q3 => (k4 τ q3.2).bind fun p4 => (v4 τ p4.2).bind fun q4 =>
  match q4.2[S.length]? with
  | some (.dK []) => (kOf p1.1).bind fun a1 => (kOf p2.1).bind fun a2 => (kOf p3.1).bind fun a3 => (kOf p4.1).bind fun a4 => if [a1, a2, a3, a4].Nodup then some (.loc S.length, q4.2.set S.length (.dK [(a1, q1.1), (a2, q2.1), (a3, q3.1), (a4, q4.1)])) else none
  | _ => none
theorem merge4 {a1 a2 a3 a4 : Key} {x1 x2 x3 x4 : V} (h : [a1, a2, a3, a4].Nodup) : mergeK [] [(a1, x1), (a2, x2), (a3, x3), (a4, x4)] = [(a1, x1), (a2, x2), (a3, x3), (a4, x4)] := by
  simp only [List.nodup_cons, List.mem_cons, List.not_mem_nil, not_or, or_false, List.nodup_nil, and_true, not_false_eq_true] at h
  obtain ⟨⟨h1_2, h1_3, h1_4⟩, ⟨h2_3, h2_4⟩, h3_4⟩ := h
  have e1 : putK ([] : List (Key × V)) a1 x1 = [(a1, x1)] := putK_new x1 rfl
  have e2 : putK [(a1, x1)] a2 x2 = [(a1, x1), (a2, x2)] := putK_new (kvs := [(a1, x1)]) x2 (by simp [valV, h1_2])
  have e3 : putK [(a1, x1), (a2, x2)] a3 x3 = [(a1, x1), (a2, x2), (a3, x3)] := putK_new (kvs := [(a1, x1), (a2, x2)]) x3 (by simp [valV, h1_3, h2_3])
  have e4 : putK [(a1, x1), (a2, x2), (a3, x3)] a4 x4 = [(a1, x1), (a2, x2), (a3, x3), (a4, x4)] := putK_new (kvs := [(a1, x1), (a2, x2), (a3, x3)]) x4 (by simp [valV, h1_4, h2_4, h3_4])
  show (putK (putK (putK (putK [] a1 x1) a2 x2) a3 x3) a4 x4) = _
  rw [e1, e2, e3, e4]
theorem ee_d4 {a1 b1 a2 b2 a3 b3 a4 b4 : Expr} {k1 v1 k2 v2 k3 v3 k4 v4 : EvE} (hk1 : EE X a1 k1) (hv1 : EE X b1 v1) (hk2 : EE X a2 k2) (hv2 : EE X b2 v2) (hk3 : EE X a3 k3) (hv3 : EE X b3 v3) (hk4 : EE X a4 k4) (hv4 : EE X b4 v4) :
    EE X (.Dict [some a1, some a2, some a3, some a4] [b1, b2, b3, b4] pos) (d4E k1 v1 k2 v2 k3 v3 k4 v4) := wkE (pe_disp (pps_cons hk1 hv1 (pps_cons hk2 hv2 (pps_cons hk3 hv3 (pps_cons hk4 hv4 pps_nil)))) rfl rfl (by simp) (by simp)) fun σ H Q q => by
  obtain ⟨ρ, τ, S, d, S', A, e, kk⟩ := q
  intro p hp
  obtain ⟨P1, r1⟩ := A.s.new (o := .dK []) (ho := .dK []) hp ⟨[], upd_same, rfl, .nil⟩
  have A1 := A.go P1
  obtain ⟨⟨x1, S1⟩, e1, e⟩ := bindE e
  obtain ⟨⟨y1, S2⟩, e2, e⟩ := bindE e
  obtain ⟨⟨x2, S3⟩, e3, e⟩ := bindE e
  obtain ⟨⟨y2, S4⟩, e4, e⟩ := bindE e
  obtain ⟨⟨x3, S5⟩, e5, e⟩ := bindE e
  obtain ⟨⟨y3, S6⟩, e6, e⟩ := bindE e
  obtain ⟨⟨x4, S7⟩, e7, e⟩ := bindE e
  obtain ⟨⟨y4, S8⟩, e8, e⟩ := bindE e
  refine goE A1 e1 fun ρ2 u1 H2 A2 P2 r2 => goE A2 e2 fun ρ3 w1 H3 A3 P3 r3 => goE A3 e3 fun ρ4 u2 H4 A4 P4 r4 => goE A4 e4 fun ρ5 w2 H5 A5 P5 r5 => goE A5 e5 fun ρ6 u3 H6 A6 P6 r6 => goE A6 e6 fun ρ7 w3 H7 A7 P7 r7 => goE A7 e7 fun ρ8 u4 H8 A8 P8 r8 => goE A8 e8 fun ρ9 w4 H9 A9 P9 r9 => ?_
  split at e
  · rename_i eo
    obtain ⟨kx1, ek1, e⟩ := Option.bind_eq_some_iff.mp e
    obtain ⟨kx2, ek2, e⟩ := Option.bind_eq_some_iff.mp e
    obtain ⟨kx3, ek3, e⟩ := Option.bind_eq_some_iff.mp e
    obtain ⟨kx4, ek4, e⟩ := Option.bind_eq_some_iff.mp e
    split at e
    · rename_i hne
      cases e
      have Pall := (((((((P2.trans P3).trans P4).trans P5).trans P6).trans P7).trans P8).trans P9)
      have rl := r1.mono (Pall.imm A1.s) Pall.pre
      obtain ⟨a, xs, hra, hn, h, q⟩ := A9.s.dK eo rl
      cases hra
      have q0 := q.nil_
      subst q0
      refine ⟨h, [(kx1, w1), (kx2, w2), (kx3, w3), (kx4, w4)], by rw [kOf_rel r2 ek1, kOf_rel r4 ek2, kOf_rel r6 ek3, kOf_rel r8 ek4]; rfl, by simp, ?_⟩
      rw [merge4 hne]
      have T1 := (((((P4.trans P5).trans P6).trans P7).trans P8).trans P9)
      have q1 := r3.mono (T1.imm A3.s) T1.pre
      have T2 := (((P6.trans P7).trans P8).trans P9)
      have q2 := r5.mono (T2.imm A5.s) T2.pre
      have T3 := (P8.trans P9)
      have q3 := r7.mono (T3.imm A7.s) T3.pre
      have qq := (((((RelKV.nil).cons (k := kx4) r9).cons (k := kx3) q3).cons (k := kx2) q2).cons (k := kx1) q1)
      exact kk _ _ _ ((P1.trans Pall).trans (A9.s.put hn (by rw [h]; trivial) ⟨_, upd_same, qq.mono (immPut A9.s hn _) List.prefix_rfl⟩)) rl
    · cases e
  · cases e
end
end SW
/-! text * n -/
namespace L2
open PySem PySem.Spec PyProof.Rows
def repS (z : Str) (k : Int) : Str := if (k == 1 || z.length == 0) = true then z else ⟨(List.replicate k.toNat z.cps).foldl (· ++ ·) #[]⟩
def rMulS : V → V → Hp → VK → Prop := fun x y H Q => ∃ z k, x = .str z ∧ y = .int k ∧ 1 ≤ k ∧ k ≤ 1000 ∧ z.length ≤ 1000 ∧ Q (.str (repS z k)) H
theorem op_mulS {X : Cx} : OpR X (binaryOp .Mult) rMulS := by
  intro pins s σ H x y v u Q I rx ry h
  obtain ⟨z, k, rfl, rfl, h1, h2, hz, q⟩ := h
  obtain ⟨t, rfl⟩ := rx
  obtain ⟨t2, rfl⟩ := ry
  refine P.mul_str ?_ ?_ ?_ ?_
  · rw [decide_eq_false (by omega), decide_eq_false (by omega)]; rfl
  · intro _ _ h3
    have h4 : (z.length : Int) * k ≤ 1000 * 1000 := Int.mul_le_mul (by omega) h2 (by omega) (by omega)
    have h5 : (z.length : Int) ≤ (2 ^ 63 - 1) / k := (Int.le_ediv_iff_mul_le (by omega)).mpr (by omega)
    omega
  · intro _ _
    have h4 : z.length * k.toNat ≤ 1000 * 1000 := Nat.mul_le_mul hz (by omega)
    have h5 : z.length * k.toNat ≤ sizeLine := SW.line_of (by omega)
    unfold Builtin.Str.tooLong
    exact decide_eq_false (by omega)
  · rw [if_neg (by omega)]
    unfold repS at q
    by_cases hc : (k == 1 || z.length == 0) = true
    · rw [if_pos hc] at q ⊢
      exact ⟨.str z, H, I, ⟨t, rfl⟩, q⟩
    · rw [if_neg hc] at q ⊢
      refine ⟨?_, .str _, H, I.tok _, ⟨_, rfl⟩, q⟩
      have h4 : z.length * k.toNat ≤ 1000 * 1000 := Nat.mul_le_mul hz (by omega)
      refine SW.line_of ?_
      have hs : ∀ (n : Nat) (a : Array Nat), ((List.replicate n z.cps).foldl (· ++ ·) a).size = a.size + n * z.cps.size := fun n => by
        induction n with
        | zero => intro a; simp
        | succ n ih =>
          intro a
          rw [List.replicate_succ, List.foldl_cons, ih, Array.size_append, Nat.succ_mul]
          omega
      show ((List.replicate k.toNat z.cps).foldl (· ++ ·) #[]).size ≤ _
      rw [hs]
      have : z.length = z.cps.size := rfl
      have h6 : k.toNat * z.cps.size = z.length * k.toNat := Nat.mul_comm _ _
      simp
      omega
end L2
namespace SW
open PySem L2
section
variable {K : PySem.W.Frag}
def mulSD : D → D → Sto → Option (D × Sto)
  | .str z, .int k, S => if 1 ≤ k ∧ k ≤ 1000 ∧ z.length ≤ 1000 then some (.str (repS z k), S) else none
  | _, _, _ => none
theorem op2_mulS : Op2 K rMulS mulSD := fun ρ S H x y v w d S' R r1 r2 e Q k => by
  cases x <;> simp only [mulSD] at e <;> try cases e
  cases y <;> simp only [mulSD] at e <;> try cases e
  split at e
  · rename_i h
    cases e
    rw [r1.str_, r2.int_]
    exact ⟨_, _, rfl, rfl, h.1, h.2.1, h.2.2, kRefl R k (RelD.str _)⟩
  · cases e
end
end SW
/-! x in a tuple of data of any depth -/
namespace L2
open PySem PySem.Spec PyProof.Rows
def rNotInT (K : PySem.W.Frag) : V → V → Hp → VK → Prop := fun x y H Q => ∃ d ds, Dp K H x d ∧ Dp K H y (.tuple ds) ∧ SeqAt.shaped d = true ∧ SeqAt.shaped (.tuple ds) = true ∧ Q (.bl (!ds.any fun z => PyData.eqv z d)) H
theorem op_notInT {X : Cx} (hu : X.A.units + 65 < cLine) : OpR X (compareOp .NotIn) (rNotInT X.K) := by
  intro pins s σ H x y v u Q I rx ry h
  obtain ⟨d, ds, hd, he, sd, se, q⟩ := h
  obtain ⟨as, r1⟩ := Dp.reads I d x v hd rx
  obtain ⟨bs, r2⟩ := Dp.reads I (.tuple ds) y u he ry
  exact SeqAt.notIn_tuple_reads r2 r1 (SeqAt.canLay_of_shaped se) (SeqAt.canLay_of_shaped sd) (room_in_shaped sd hu) ⟨.bl _, H, I, rfl, q⟩
end L2
namespace SW
open PySem L2
section
variable {K : PySem.W.Frag}
def inTD (n : Bool → Bool) (x y : D) (S : Sto) : Option (D × Sto) := (pyOf S x).bind fun p => (pyOf S y).bind fun q => match q with
  | .tuple qs => some (.bl (n (qs.any fun z => PyData.eqv z p)), S)
  | _ => none
theorem op2_notInT : Op2 K (rNotInT K) (inTD not) := fun ρ S H x y v w d S' R r1 r2 e Q k => by
  obtain ⟨p, e1, e⟩ := bindE e
  obtain ⟨q, e2, e⟩ := bindE e
  obtain ⟨h1, s1⟩ := dp_py R r1 e1
  obtain ⟨h2, s2⟩ := dp_py R r2 e2
  cases q <;> cases e
  exact ⟨p, _, h1, h2, s1, s2, kRefl R k (RelD.bl _)⟩
end
section
variable {X : Cx} {a b : Expr} {fa fb : EvE} {pos : Pos}
theorem et_notinT {k : Nat} (hc : Ok X k) (ha : EE X a fa) (hb : EE X b fb) (hm : behindInMarks .NotIn b = false := by rfl) : ET X (.Compare a [.NotIn] [b] pos) (tB (b2E (inTD not) fa fb)) :=
  et_b2 (fun h1 h2 => pt_cmpR (op_notInT hc.units) h1 h2 hm) op2_notInT ha hb
end
end SW
/-! for with targets that look into the store; a, b, .. = a list -/
namespace SW
open PySem PySem.Spec PyProof.Rows L2
section
variable {X : Cx} {W : WX} {tg : Expr} {pos : Pos}
end
end SW
/-! d.pop(k) where the keys are tuples; d.get(e) where e may raise; x in a tuple of data, as a value -/
namespace L2
open PySem PySem.Spec PyProof.Rows
section
variable {X : Cx}
end
end L2
namespace SW
open PySem L2
section
variable {K : PySem.W.Frag} {ρ : List Addr} {S : Sto} {H : Hp}
theorem RelKV.drop {κ : Type} [DecidableEq κ] {k : κ} : ∀ {kds : List (κ × D)} {kvs : List (κ × V)}, RelKV K ρ H kds kvs → RelKV K ρ H (kds.filter fun p => decide (p.1 ≠ k)) (dropK kvs k)
  | [], kvs, h => by rw [h.nil_]; exact .nil
  | (k0, d) :: kds, kvs, h => by
    obtain ⟨v, r, rfl, h1, h2⟩ := h.split
    have ih := RelKV.drop (k := k) h2
    by_cases e : k0 = k
    · have a1 : ((k0, d) :: kds).filter (fun p => decide (p.1 ≠ k)) = kds.filter fun p => decide (p.1 ≠ k) := List.filter_cons_of_neg (by simp [e])
      have a2 : dropK ((k0, v) :: r) k = dropK r k := List.filter_cons_of_neg (by simp [e])
      rw [a1, a2]; exact ih
    · have a1 : ((k0, d) :: kds).filter (fun p => decide (p.1 ≠ k)) = (k0, d) :: kds.filter fun p => decide (p.1 ≠ k) := List.filter_cons_of_pos (by simp [e])
      have a2 : dropK ((k0, v) :: r) k = (k0, v) :: dropK r k := List.filter_cons_of_pos (by simp [e])
      rw [a1, a2]; exact .cons h1 ih
end
section
variable {X : Cx} {W : WX} {a b o e : Expr} {fa fb fo : EvE} {pos apos cpos : Pos}
end
end SW
set_option maxHeartbeats 1000000
/-! tuple(reversed(x)), x a tuple -/
namespace RT
open PySem PySem.Spec PyProof.Rows
section
variable {prog : Program} {w : World} {A : Around} {E : Value → Shared → Prop} {s : Shared}
end
end RT
namespace SW
open PySem L2 PyProof.Rows
section
variable {X : Cx} {e : Expr} {te : TE} {f : EvE} {p p2 pos pos2 : Pos}
end
end SW
/-! min(a, b) and max(a, b) of two pairs of numbers -/
namespace SW
open PySem L2 PyProof.Rows PySem.W

section
variable {prog : Program} {w : World} {A : Around} {E : Value → Shared → Prop} {s : Shared}
/-- the first pair is ahead of the second one -/
def prLt (i j k l : Int) : Prop := i < k ∨ (i = k ∧ j < l)
instance : Decidable (prLt i j k l) := inferInstanceAs (Decidable (_ ∨ _))
end
variable {K : PySem.W.Frag}
end SW
/-! one walk or another one; tuple * n for n of two and more -/
namespace SW
open PySem L2
section
variable {X : Cx} {tg e : Expr} {K : PySem.W.Frag}
end
end SW
/-! a truth and a number added -/
namespace SW
open PySem L2
section
variable {X : Cx} {K : PySem.W.Frag}
end
end SW
/-! comprehensions whose target a, b = a tuple or a list -/
namespace SW
open PySem PySem.Spec PyProof.Rows L2
section
variable {K : PySem.W.Frag} {ρ : List Addr} {S : Sto} {H : Hp}
end
end SW
/-! enumerate(zip(a, b)) of two tuples: the zip's own tuple stays given out, so it makes a new one each time (or uses its own again, where that is free). -/
namespace SW
open PySem PySem.Spec PyProof.Rows L2

section
variable {prog : Program} {w : World} {A : Around} {E : Value → Shared → Prop} {s : Shared}
end
section
variable {prog : Program} {w : World} {A : Around} {E : Value → Shared → Prop} {s : Shared} {z TI TO i1 i2 : Addr} {l1 l2 : List Addr} {n1 n2 i : Nat} {P1 P2 : Nat → Value → Prop} {St1 St2 : Nat → Heap → Prop} {u1 u2 f0 f1 : Value}
end
end SW
namespace SW
open PySem PySem.Spec PyProof.Rows L2

section
variable {prog : Program} {w : World} {A : Around} {E : Value → Shared → Prop} {s : Shared} {z TI TO i1 i2 e : Addr} {l1 l2 : List Addr} {n1 n2 i : Nat} {P1 P2 : Nat → Value → Prop} {St1 St2 : Nat → Heap → Prop} {c : Int} {old : Value}
end
end SW
namespace SW
open PySem PySem.Spec PyProof.Rows L2

section
variable {prog : Program} {w : World} {A : Around} {E : Value → Shared → Prop} {s : Shared}
end
/-! in the layer -/
section
variable {X : Cx} {K : PySem.W.Frag} {ρ : List Addr} {S : Sto} {H : Hp} {e e2 : Expr}
end
end SW
/-! sorted(set(t)), t a tuple of tuples of any depth -/
namespace SW
open PySem PySem.Spec PyProof.Rows L2

section
variable {P : Program} {w : World} {A : Around} {E : Value → Shared → Prop} {s : Shared}
end
section
variable {X : Cx}
end
section
variable {X : Cx} {e : Expr} {f : EvE} {p p2 pos pos2 : Pos}
end
end SW
/-! str(i), bool(i) -/
namespace SW
open PySem PySem.Spec PyProof.Rows L2

section
variable {K : PySem.W.Frag}
end
section
variable {K : PySem.W.Frag}
end
end SW
/-! sorted(xs), xs a list of tuples of any depth -/
namespace SW
open PySem PySem.Spec PyProof.Rows L2

section
variable {P : Program} {w : World} {A : Around} {E : Value → Shared → Prop} {s : Shared}
end
section
variable {X : Cx}
end
end SW
set_option maxHeartbeats 1000000
/-! list(reversed(x)), x a list; f() -/
namespace RT
open PySem PySem.Spec PyProof.Rows PySem.W
section
variable {prog : Program} {w : World} {A : Around} {E : Value → Shared → Prop} {s : Shared}
end
end RT
namespace SW
open PySem L2 PyProof.Rows
section
variable {X : Cx} {e : Expr} {te : TE} {f : EvE} {p p2 pos pos2 : Pos}
end
/-! f() -/
section
variable {X : Cx}
end
end SW
set_option maxHeartbeats 1000000
/-! dict(d): a copy, the keys pairs of small numbers -/
namespace RT
open PySem PySem.Spec PyProof.Rows PySem.W
section
variable {K : Type} [DecidableEq K] {prog : Program} {w : World} {A : Around} {E : Value → Shared → Prop} {s : Shared} {knd : HeapKind prog w K}
end
end RT
namespace SW
open PySem L2 PyProof.Rows
end SW
/-! sorted(set(t)), t a tuple of numbers -/
namespace SW
open PySem PySem.Spec PyProof.Rows L2

section
variable {P : Program} {w : World} {A : Around} {E : Value → Shared → Prop} {s : Shared}
end
section
variable {X : Cx}
end
section
variable {X : Cx} {e : Expr} {f : EvE} {p p2 pos pos2 : Pos}
end
end SW
set_option maxHeartbeats 1000000
/-! sum(list of lists, []) -/
namespace RT
open PySem PySem.Spec PyProof.Rows
section
variable {prog : Program} {w : World} {A : Around} {E : Value → Shared → Prop} {s : Shared}
end
section
variable {prog : Program} {w : World} {A : Around} {R : Result → Shared → Prop} {I : Addr} {fp wr : List Addr} {G : Array GenState → Array GenState → Prop} {n : Nat} {P : Nat → Value → Prop} {St : Nat → Shared → Prop}
end
section
variable {prog : Program} {w : World} {A : Around} {E : Value → Shared → Prop} {s : Shared}
end
end RT
namespace SW
open PySem PySem.Spec PyProof.Rows L2
section
variable {X : Cx}
end
section
variable {K : PySem.W.Frag} {ρ : List Addr} {S : Sto} {H : Hp}
end
end SW
/-! a list of anything against []; xs.count(None) -/
namespace L2
open PySem PySem.Spec PyProof.Rows
section
variable {X : Cx}
end
end L2
namespace SW
open PySem L2
section
variable {K : PySem.W.Frag}
end
end SW
/-! sorted(set(xs)) with up to 76 members -/
namespace SW
open PySem PySem.Spec PyProof.Rows L2
section
variable {P : Program} {w : World} {A : Around} {E : Value → Shared → Prop} {s : Shared}
structure SetNRB (w : World) (h : Heap) (a : Addr) (L : List KA) (es : Array (Int × Value)) (ep : Nat) (t : SetTable) : Prop where
  ob : ∃ o, h.get? a = some o ∧ o.ExactSet ∧ o.data = .set es ep t
  rows : es.toList = rowsN w L
  tab : TabOk t (L.map fun p => nkh w p.2)
  nd : (L.map (·.2)).Nodup
  tup : ∀ p ∈ L, NtK h p.2 p.1
  plain : t.plain = true
  led : w.params.followText "set-order" = true ∨ t.led = true
  room : L.length * 5 < t.mask * 3
  few : L.length < 77
variable {a : Addr} {L : List KA} {es : Array (Int × Value)} {ep : Nat} {t : SetTable}
theorem SetNRB.size (R : SetNRB w s.heap a L es ep t) : es.size = L.length := by
  have h := congrArg List.length R.rows
  unfold rowsN at h
  rw [Array.length_toList, List.length_map] at h
  exact h
/-- the set stays small -/
def FewNB (ks : List KA) : Prop := ∀ (i : Nat) (L : List KA), i < ks.length → GotN ks i L → (L.map (·.2)).Nodup → L.length + 1 < 77
theorem FewNB.of {ks : List KA} (h : ks.length < 77) : FewNB ks := fun i L hi g _ => by have := g.len; omega
theorem SetNRB.keep {h h' : Heap} {a : Addr} {L : List KA} {es : Array (Int × Value)} {ep : Nat} {t : SetTable} (R : SetNRB w h a L es ep t) (ha : ∀ o, h.get? a = some o → h'.get? a = some o) (ht : ∀ p ∈ L, NtK h' p.2 p.1) : SetNRB w h' a L es ep t := by
  obtain ⟨o, ho, r⟩ := R.ob
  exact ⟨⟨o, ha o ho, r⟩, R.rows, R.tab, R.nd, ht, R.plain, R.led, R.room, R.few⟩
end
/-- the set at a, whatever its members are -/
def SetN0B (w : World) (h : Heap) (a : Addr) (L : List KA) : Prop :=
  ∃ (es : Array (Int × Value)) (ep : Nat) (t : SetTable), (∃ o, h.get? a = some o ∧ o.ExactSet ∧ o.data = .set es ep t) ∧ es.toList = rowsN w L ∧ TabOk t (L.map fun p => nkh w p.2) ∧ (L.map (·.2)).Nodup ∧ t.plain = true ∧
    (w.params.followText "set-order" = true ∨ t.led = true) ∧ L.length * 5 < t.mask * 3 ∧ L.length < 77
theorem SetN0B.full {w : World} {h : Heap} {a : Addr} {L : List KA} (R : SetN0B w h a L) (all : ∀ p ∈ L, NtK h p.2 p.1) : ∃ es ep t, SetNRB w h a L es ep t :=
  let ⟨es, ep, t, h1, h2, h3, h4, h5, h6, h7, h8⟩ := R
  ⟨es, ep, t, h1, h2, h3, h4, all, h5, h6, h7, h8⟩
section
variable {X : Cx}
end
section
variable {X : Cx} {e : Expr} {f : EvE} {p p2 pos pos2 : Pos}
end
end SW
/-! exceptions with a field of their own: raise C(words, x); except X as n: y = n; isinstance; y.f -/
namespace SW
open PySem PySem.Spec PyProof.Rows L2

/-! the class -/
def oexB (K : PySem.W.Frag) (C : Addr) : Bool := match K.lookup C with
  | some ⟨.type "type", _, .cls cd, sl⟩ => (match cd.mro, sl.toList with
    | .ref C' :: bm, [_, _, _, _, some (.builtin n), _] => C' == C && n == "ValueError.__new__" && !cd.hasDel && cd.hasDict && PySem.HandSPX.refsVE bm
    | _, _ => false)
  | _ => false
theorem oexB_ok {K : PySem.W.Frag} {C : Addr} (q : oexB K C = true) : ∃ nm q N bs bm sn sub ab col dd k0 k1 k2 k3 k5, K.lookup C = some (excClassObj nm q C N bs bm true sn sub ab col dd k0 k1 k2 k3 k5 "ValueError.__new__") ∧ PySem.HandSPX.refsVE bm = true := by
  unfold oexB at q
  split at q
  · rename_i dd cd sl ho
    split at q
    · rename_i C' bm k0 k1 k2 k3 n k5 hm hs
      simp only [Bool.and_eq_true, beq_iff_eq, Bool.not_eq_true'] at q
      obtain ⟨⟨⟨⟨rfl, rfl⟩, hdel⟩, hd⟩, ht⟩ := q
      obtain ⟨nm, bs, mro, ns, qn, hd', sn, sub, ab, col, del⟩ := cd
      dsimp only at hm hdel hd
      subst hm hdel hd
      have hsl : sl = #[k0, k1, k2, k3, some (.builtin "ValueError.__new__"), k5] := by
        obtain ⟨l⟩ := sl
        simp only at hs
        rw [hs]
      subst hsl
      exact ⟨nm, qn, ns, bs, bm, sn, sub, ab, col, dd, k0, k1, k2, k3, k5, ho, ht⟩
    · cases q
  · cases q
/-- B.__init__(self, ..), B an own class over ValueError without an __init__ of its own -/
structure VeC (K : PySem.W.Frag) (mg : Str → Option Value) (b : Str) : Prop where
  ex : ∃ B : Addr, mg b = some (.ref B) ∧ PySem.W.specialIn K (.ref B) "__getattribute__" = some (some (.builtin "type.__getattribute__")) ∧ PySem.W.readsIn K B (.type "type") = true ∧
    PySem.W.findCls K (.ref B) (.type "type") "__init__" = some (.val (.builtin "ValueError.__init__"))
section
variable {X : Cx} {e : Expr} {es : List Expr} {ta : TA} {p1 p2 pos : Pos}
theorem pe_clsinit {b : Str} {pl : Sem Bool} (V : VeC X.K X.mg b) (hg : Gl X b) (ha : PA X (e :: es) ta)
    (hc : eval (.Call (.Attribute (.Name b p1) "__init__" p2) (e :: es) [] pos) X.env = (do
      let ov ← eval (.Name b p1) X.env
      standAt p2.atName
      let (f, first) ← holding [ov] (getMethod ov "__init__" pl)
      callWith pos f first (backTo pos (starEach (e :: es) X.env)) (backToKw pos (keywordEach [] X.env))) := by rfl)
    (hdb : (b == ("__debug__" : Str)) = false := by decide) (he : starEach (e :: es) X.env = (false, eval e X.env) :: starEach es X.env := by rfl) (hpl : (backTo pos (starEach es X.env)).any (·.1) = false := by rfl) :
    PE X (.Call (.Attribute (.Name b p1) "__init__" p2) (e :: es) [] pos) (tVeI X.K ta) := by
  refine ⟨fun pins s σ H Q I h => ?_⟩
  obtain ⟨B, hm, h1, h2, h3⟩ := V.ex
  refine PySem.W.methodCall_KW (ld_glob I hg hm ?_ hdb) hc
  refine PySem.W.method_cls I.kIn h1 (PySem.W.cls_value I.kIn h2 h3 (by decide +kernel) ?_)
  show wpAny _ _ (callWith pos (Value.builtin "ValueError.__init__") [] (backTo pos (starEach (e :: es) X.env)) []) _ _ _
  refine PyProof.Rows.callWith_method1 (thn (ha.run pos pins _ σ H _ (I.tok _) h) fun us s1 ⟨vs, H1, I1, r1, a, C, ws, ev, hl, T, ea, q⟩ => ?_) he hpl
  subst ev
  cases r1 with
  | @cons _ u0 _ ur ra rw' =>
    obtain rfl : u0 = Value.ref a := ra
    have hlen : ur.length ≤ sizeLine := by
      rw [← Paired.length rw', sizeLine_eq]
      omega
    exact oinit_ok T I1 ea hlen fun s' J => ⟨.non, H1, J, rfl, q⟩
end
/-- what __init__ does: the field stands in the dict -/
def spInit (C : Addr) (f : Str) : Sp := fun vs H Q _ => ∃ (a : Addr) (x y : V), vs = [.ref a, x, y] ∧ H a = some (exo a C none) ∧ ∀ dx, H dx = none → dx ≠ a → Q .non (upd (upd H dx (exd dx [(f, y)])) a (exo a C (some dx)))
/-- a class of exceptions with a field -/
structure XcF (P : Program) (w : World) (K : PySem.W.Frag) (mg : Str → Option Value) (base : Heap) (k : Nat) (c : String) (f : Str) : Prop where
  ex : ∃ (C fI : Addr) (fd : FuncData), PySem.W.nsIn K mainGlobals c = some (some (.ref C)) ∧ mg c = some (.ref C) ∧ OexC K C ∧ PySem.W.findIn K (.ref C) "__init__" = some (some (.ref fI)) ∧ PySem.W.typeIn K (.ref fI) = some (.type "function") ∧
    FnOk P w K mg base (L2.CX P w) k fI fd ["self", "words", f] (spInit C f) ∧ Binds K fd ["self", "words", f] []
section
variable {P : Program} {w : World} {K : PySem.W.Frag} {mg : Str → Option Value} {base : Heap}
theorem xcF_mk {qual f : Str} {st : Stmt} {fI C : Addr} {fd : FuncData} {N : List Str} (F : Fun K "__init__" qual st fI fd) (S : FnScope N ["self", "words", f] (defScope st)) (hN : N = [("self" : Str), ("words" : Str), f]) (T : OexC K C) (hno : PySem.W.findIn K (.ref C) f = some none)
    (hb : ∀ (cdv : Value) (A : Around) (outer : List Env) (s : Shared) (H : Hp) (E : XK), PSs (cxOf (L2.CX P w) P w K mg base N qual (defScope st) fI cdv A outer s H E) (defBody st) (tSeq (tDrop (tVeI K (tCons (tVar 0) (tCons (tVar 1) tNil)))) (tOst K f (tVar 0) (tVar 2)))) :
    FnOk P w K mg base (L2.CX P w) 1 fI fd ["self", "words", f] (spInit C f) := by
  subst hN
  refine F.okX S (fun vs H Q E h => ?_) fun cdv A outer s H vs Q E hr h => ?_
  · obtain ⟨a, x, y, rfl, _⟩ := h; rfl
  · obtain ⟨a, x, y, rfl, ha, k⟩ := h
    refine ⟨_, hb cdv A outer s H E, ?_⟩
    exact ⟨_, rfl, _, rfl, a, C, [x], rfl, Nat.le_of_ble_eq_true rfl, T, ha, _, rfl, _, rfl, a, C, rfl, T, hno, .inl ⟨ha, fun dx hd ne => k dx hd ne⟩⟩
end
/-! raise -/
def raiseF (c : String) (f : Str) (fa : EvA) : EvS := fun τ S => (fa τ S).bind fun p => match p.1 with
  | [_, y] => some (.ex c [(f, y)] τ, p.2)
  | _ => none
section
variable {X : Cx} {W : WX}
theorem es_raiseF {k j : Nat} {c : String} {f : Str} {e0 e1 : Expr} {fa : EvA} {p pos pos' : Pos} (F : XcF X.prog X.w X.K X.mg X.base k c f) (hc : Ok X j) (hk : k + 1 ≤ j) (tk : Takes X W) (hg : Gl X (c : Str)) (ha : EA X [e0, e1] fa)
    (hd : ((c : Str) == ("__debug__" : Str)) = false := by rfl) (he : starEach [e0, e1] X.env = (false, eval e0 X.env) :: starEach [e1] X.env := by rfl) (hpl : (backTo pos (starEach [e1] X.env)).any (·.1) = false := by rfl) :
    ES W X (.Raise (some (.Call (.Name c p) [e0, e1] [] pos)) none pos') (raiseF c f fa) := by
  obtain ⟨C, fI, fd, h0, gC, T, iC, tI, FI, hb⟩ := F.ex
  exact wkS (ps_raise hc.calm tk (pmk_oex T iC tI FI (hc.room.mono hk) hb .nil passL hg gC ha hd he hpl)) fun D σ H q => by
    obtain ⟨ρ, τ, S, o, S', A, e, k⟩ := q
    obtain ⟨⟨ds, S1⟩, e1, e⟩ := bindE e
    refine goA A e1 fun ρ1 vs H1 A1 P1 r1 => ?_
    dsimp only at e
    split at e
    · rename_i d0 y
      cases e
      obtain ⟨v0, vs1, rfl, rv0, r1⟩ := r1
      obtain ⟨v1, vs2, rfl, rv1, r1⟩ := r1
      cases r1
      refine ⟨by simp, fun a hna => ?_⟩
      refine ⟨a, v0, v1, rfl, upd_same, fun dx hdx ne => ⟨rfl, dx, [(f, v1)], upd_same, ?_, ?_, ?_⟩⟩
      · rw [upd_ne ne, upd_same]
      · rw [upd_ne ne] at hdx; exact hdx
      · rw [upd_ne ne] at hdx
        have ed : upd (del (upd (upd (upd H1 a (exo a C none)) dx (exd dx [(f, v1)])) a (exo a C (some dx))) a) dx (.xd [(f, v1)]) = upd H1 dx (.xd [(f, v1)]) := by
          funext b
          by_cases hbd : b = dx
          · subst hbd; rw [upd_same, upd_same]
          · rw [upd_ne hbd, upd_ne hbd]
            by_cases hba : b = a
            · subst hba; rw [del_same, hna]
            · rw [del_ne hba, upd_ne hba, upd_ne hbd, upd_ne hba]
        rw [ed]
        refine ((k ρ1 H1 P1) σ A1.t C h0).2 (by simp) dx [(f, v1)] hdx ⟨rfl, ?_⟩
        exact .one (rv1.mono ((A1.s.side hdx (.xd [(f, v1)])).imm A1.s) (List.prefix_refl _))
    · cases e
/-! the caught one is held -/
/-- the dict of what is caught, known to its object -/
def FrzD (d : Option Addr) (H H' : Hp) : Prop := (d = none ∧ H' = H) ∨ ∃ dd o kvs, d = some dd ∧ H dd = some (.xd kvs) ∧ H' = upd H dd (.frz o (.xd kvs))
def wKeepF (K : PySem.W.Frag) (c : Value) (i j : Nat) (D : Ends) : WX := fun cls d σ H => PySem.W.exmOne K cls c = some true ∧ (d = none ∨ ∃ dd kvs, d = some dd ∧ H dd = some (.xd kvs)) ∧ ∀ a C H', cls = .ref C → H a = none → FrzD d H H' → D.nx (((σ.set i (some (V.ref a))).set j (some (V.ref a))).set i none) (upd H' a (exHO a C d))
end
section
variable {X : Cx} {pins : List (Addr × Obj)} {σ : L2.St} {H : Hp} {s : Shared}
/-- a dict of an exception, known to its object -/
theorem inv_frzD {dd : Addr} {kvs : List (Str × V)} (I : Inv X pins σ H s) (h : H dd = some (.xd kvs)) : ∃ o, Inv X pins σ (upd H dd (.frz o (.xd kvs))) s := by
  have ok := I.hok dd _ h
  obtain ⟨mA, hn, hr⟩ := ok
  obtain ⟨o, es, ep, ho, hrest⟩ := hn
  refine ⟨o, ?_⟩
  have nn : ∀ b, H b = none → b ≠ dd := fun b e z => by rw [z, h] at e; cases e
  have st : ∀ b u, H b = some u → u ≠ .xd kvs → upd H dd (.frz o (.xd kvs)) b = some u := fun b u e ne => by
    rw [upd_ne fun z => by rw [z, h] at e; cases e; exact ne rfl]; exact e
  refine ⟨I.ok, I.os, I.bare, ?_, I.loc, I.cell, ?_, fun x c e => ?_, fun p hm => ?_, fun b x e => ?_, I.len⟩
  · refine ⟨I.base.keep, I.base.slot, fun b u e e1 e2 => ?_, I.base.there, fun b xs e => st _ _ (I.base.tups b xs e) (fun z => by cases z), fun b u v e => st _ _ (I.base.frzs b u v e) (fun z => by cases z), fun b ps e => ?_⟩
    · have := I.base.free b u e e1 e2
      rw [upd_ne (nn b this)]; exact this
    · obtain ⟨more, e'⟩ := I.base.tbls b ps e
      exact ⟨more, st _ _ e' (fun z => by cases z)⟩
  · rw [upd_ne (nn _ I.free)]; exact I.free
  · rw [upd_ne (nn _ (I.freeC x c e))]; exact I.freeC x c e
  · obtain ⟨e1, e2, e3⟩ := I.pin p hm
    exact ⟨e1, by rw [upd_ne (nn _ e2)]; exact e2, e3⟩
  · have base : ∀ {x : HO}, ObjOk X.prog X.w H s.heap b x → ObjOk X.prog X.w (upd H dd (.frz o (.xd kvs))) s.heap b x := fun z =>
      z.stay (fun c v _ q => q) (fun c q => st _ _ q (fun z => by cases z)) fun c xs q => st _ _ q (fun z => by cases z)
    by_cases z : b = dd
    · subst z
      rw [upd_same] at e
      cases e
      exact ⟨ho, base (I.hok b _ h)⟩
    · rw [upd_ne z] at e
      exact base (I.hok b x e)
end
theorem ps_try_keepF {X : Cx} {x n y : Str} {c : Value} {i j : Nat} {body : List Stmt} {np pos pos' py pn ps : Pos} {tb : WX → TS} (hs : X.stack = X.env :: X.outer) (hf : X.env.frame = some X.env.locals) (hN : X.N.Nodup) (hi : X.N[i]? = some n) (hln : X.env.kindOf n = some .local) (hj : X.N[j]? = some y) (hly : Loc X.env.scope y)
    (hfy : X.fn y = true ∨ List.lookup y X.env.scope.names = some .local) (hc : Names X x c) (hv : ∀ a pn', PE (X.suite a pn') (.Name n pn) (tVar i)) (hsw : ∀ a pn', swapsWith (.Name n pn) (some (.Name y py)) ps.line (X.suite a pn').env = pure false)
    (hb : ∀ (W : WX) (pn : List (Addr × Obj)) (xe : Value → Shared → Prop), Takes (X.tr pn xe) W → PassesOwn (model X.prog X.w) X.A X.env xe → PSs (X.tr pn xe) body (tb W)) :
    PS X (.Try body [.ExceptHandler (some (.Name x np)) (some n) [.Assign [.Name y py] (.Name n pn) ps] pos'] [] [] pos) (fun D σ H => tb (fun cls d σ' H' => (∃ C, cls = .ref C) ∧ wKeepF X.K c i j D cls d σ' H') D σ H) := by
  refine ⟨fun pins s σ H D I h => ?_⟩
  have ok := I.ok
  have hfr : X.A.frames = some (X.env :: X.outer) := by rw [ok.frames, hs]
  refine wpAny_Try_except ?_
  have main : ∀ (xe : Value → Shared → Prop) (u : Value) (s' : Shared), XE (X.tr (X.pn ++ pins) xe) (fun cls d σ' H' => (∃ C, cls = .ref C) ∧ wKeepF X.K c i j D cls d σ' H') u s' → wpAny (model X.prog X.w) X.A (noteFrame u X.env) (fun _ s₂ => wpAny (model X.prog X.w) X.A (setFlight u none)
      (fun _ s₃ => wpAny (model X.prog X.w) X.A (handleBy u X.env [.ExceptHandler (some (.Name x np)) (some n) [.Assign [.Name y py] (.Name n pn) ps] pos']) (SP X pins D) X.xe s₃) X.xe s₂) X.xe s' := by
    rintro xe u s' ⟨a, B, sI, pins', σ', H', cls, d, rfl, J', nb, up, sky, na, os, ag, ⟨C, rfl⟩, hb1, hdd, hyes⟩
    have J := Inv.ofTry J' ok
    have sky' : Sky B (X.env :: X.outer) a (Zc (.ref C) d) X.env.locals s'.heap := by rw [← hs]; exact sky
    refine Sky.land Zc.steady hfr hf sky' fun h3 fl3 up3 => ?_
    have J3 := Inv.landed (s' := { heap := h3, gens := s'.gens, drawn := s'.drawn, toks := s'.toks, os := s'.os }) J nb fl3.1 (up.trans up3) os ag
    obtain ⟨oe3, vs3, he3, hz3, hd3⟩ := fl3.there
    have nfr : a ∉ (X.env :: X.outer).filterMap fun e => e.frame := fun m => by
      obtain ⟨_, o', e', hnf⟩ := Heap.FunFrames.mem fl3.2.2.1 m
      rw [he3] at e'; cases e'
      exact hnf vs3 hd3
    have nL : a ≠ X.env.locals := fun z => nfr (List.mem_filterMap.mpr ⟨X.env, List.mem_cons_self, by rw [hf, z]⟩)
    have nF : a ∉ X.fs := fun hm => by
      obtain ⟨e, he, q⟩ := List.mem_filterMap.mp hm
      exact nfr (List.mem_filterMap.mpr ⟨e, List.mem_cons_of_mem _ he, q⟩)
    have nS : a ∉ frs X.stack := fun m => nfr (by rw [hs] at m; exact m)
    have hB : B.get? a = none := fl3.2.1
    have noSI : ∀ o, sI.heap.get? a = some o → False := fun o e => by
      have := nb a o e nS
      rw [hB] at this; cases this
    have S3 := Inv.suite J3 he3 hd3 na nL nF
    refine wpAny_handleBy_cons (codeAny_handlers_test ?_) (fun q => by cases q)
    have LT : W.Looks (model X.prog X.w) h3 (typeOf (.ref a)) (.ref C) := fun A Q E s k q => wpAny_typeOf_ref (k a oe3 he3) (by rw [hz3.1]; exact q)
    have LM := W.exm_one J3.kIn LT hb1
    have test : ∀ {Q : Value → Shared → Prop} {E : Value → Shared → Prop}, Q c { heap := h3, gens := s'.gens, drawn := s'.drawn, toks := s'.toks, os := s'.os } →
        wpAny (model X.prog X.w) (X.A.mark (some (.ref a))) (eval (.Name x np) X.env) Q E { heap := h3, gens := s'.gens, drawn := s'.drawn, toks := s'.toks, os := s'.os } := fun q => by
      obtain ⟨hg, hdbg, hm | ⟨hm, hv', hnn⟩⟩ := hc
      · exact ld_glob S3 hg hm q hdbg
      · exact ld_blt S3 hg hm hv' q hnn hdbg
    refine test (W.Looks.here LM ?_)
    refine codeAny_handlers_suite_as (HandSPX.lands_againZ fl3 fun h4 fl4 up4 => ?_)
    have J4 := Inv.landed (s' := { heap := h4, gens := s'.gens, drawn := s'.drawn, toks := s'.toks, os := s'.os }) J nb fl4.1 ((up.trans up3).trans up4) os ag
    obtain ⟨oe4, vs4, he4, hz4, hd4⟩ := fl4.there
    have S4 := Inv.suite J4 he4 hd4 na nL nF
    refine store_ok (X := X.suite a ((a, oe4) :: (X.pn ++ pins))) (v := V.ref a) S4 hN hi (.inl hln) rfl (fun s5 S5 => ?_) (.inr hln)
    have asg : PSs (X.suite a ((a, oe4) :: (X.pn ++ pins))) [.Assign [.Name y py] (.Name n pn) ps] _ := pss_one (ps_set hN hj hly (hv a _) (hsw a _) hfy)
    refine wpAny_mono (asg.run [] s5 _ H' ⟨fun σ6 H6 => σ6 = (σ'.set i (some (V.ref a))).set j (some (V.ref a)) ∧ H6 = H', fun _ _ => False, fun _ _ => False, fun _ _ => False⟩ S5 ?_) (fun f s6 hsp => ?_) fun _ _ z => z.elim
    · refine ⟨V.ref a, ?_, rfl, rfl⟩
      have hil : i < σ'.length := by
        rw [J.len]
        exact (List.getElem?_eq_some_iff.mp hi).1
      rw [List.getElem?_set_self hil]
    · cases f with
      | next =>
        obtain ⟨σ6, H6, S6, rfl, rfl⟩ := hsp
        obtain ⟨e1, e2, e3, e4, e5⟩ := S6.pin (a, oe4) (List.mem_append_left _ List.mem_cons_self)
        have U6 := inv_pin (Inv.unsuite S6 ok) e1 na nL nF e5
        refine gone_ok U6 hN hi hln fun s7 J7 => ?_
        obtain ⟨g1, g2, g3, g4, g5⟩ := J7.pin (a, oe4) (List.mem_append_right _ List.mem_cons_self)
        have J8 := inv_unpin J7
        have fz : ∃ Hz, FrzD d H6 Hz ∧ Inv X pins (((σ'.set i (some (V.ref a))).set j (some (V.ref a))).set i none) Hz s7 ∧ Hz a = none := by
          rcases hdd with hd0 | ⟨dd, kvs, hd1, hd2⟩
          · exact ⟨H6, .inl ⟨hd0, rfl⟩, J8, na⟩
          · obtain ⟨oo, J9⟩ := inv_frzD J8 hd2
            exact ⟨_, .inr ⟨dd, oo, kvs, hd1, hd2, rfl⟩, J9, by rw [upd_ne (fun z => by rw [z, hd2] at na; cases na)]; exact na⟩
        obtain ⟨Hz, hz1, J10, hz2⟩ := fz
        refine ⟨_, _, inv_track J10 hz2 (o := exHO a C d) ?_ nL (fun x' c' e z => ?_) (fun p hp z => ?_) (fun o e => ?_), hyes a C Hz rfl na hz1⟩
        · simp only [exHO, ObjOk]
          exact ⟨⟨oe4, g1, hz4.1, hz4.2, vs4, hd4⟩, ⟨oe4, g1⟩, fun h1 h2 ⟨o, ho, r⟩ k => ⟨o, k o ho, r⟩⟩
        · subst z
          obtain ⟨v, o, ho, hdat⟩ := J7.cell x' c' e
          rw [g1] at ho; cases ho
          exact g5 v hdat
        · have := (J.pin p hp).1
          rw [z] at this
          exact noSI _ this
        · exact Classical.byContradiction fun ne => by
            obtain ⟨o', e'⟩ := J.base.there a o e ne
            exact noSI o' e'
      | brk => obtain ⟨_, _, _, q⟩ := hsp; exact q.elim
      | cont => obtain ⟨_, _, _, q⟩ := hsp; exact q.elim
      | ret u => obtain ⟨_, _, _, _, _, q⟩ := hsp; exact q.elim
  refine wpAny_mono ((hb (fun cls d σ' H' => (∃ C, cls = .ref C) ∧ wKeepF X.K c i j D cls d σ' H') (X.pn ++ pins) (fun u s' => wpAny (model X.prog X.w) X.A (noteFrame u X.env) (fun _ s₂ => wpAny (model X.prog X.w) X.A (setFlight u none)
      (fun _ s₃ => wpAny (model X.prog X.w) X.A (handleBy u X.env [.ExceptHandler (some (.Name x np)) (some n) [.Assign [.Name y py] (.Name n pn) ps] pos']) (SP X pins D) X.xe s₃) X.xe s₂) X.xe s') (fun u s' q => main _ u s' q) PassesOwn.looking).run [] s σ H D (Inv.toTry I _) h) (fun f s1 hsp => ?_) fun _ _ z => z
  · cases f with
    | next => obtain ⟨σ', H', J', q⟩ := hsp; exact wpAny_execs_nil ⟨σ', H', Inv.ofTry J' ok, q⟩
    | brk => obtain ⟨σ', H', J', q⟩ := hsp; exact ⟨σ', H', Inv.ofTry J' ok, q⟩
    | cont => obtain ⟨σ', H', J', q⟩ := hsp; exact ⟨σ', H', Inv.ofTry J' ok, q⟩
    | ret u => obtain ⟨v, σ', H', J', r, q⟩ := hsp; exact ⟨v, σ', H', Inv.ofTry J' ok, r, q⟩

/-! in the layer -/
/-- try: f except .. as n: y = n, the exception with its fields -/
def tryF (subs : List String) (i j : Nat) (f : EvS) : EvS := fun τ S => (f τ S).bind fun p => match p.1 with
  | .ex c fs τ1 => if c ∈ subs then some (.nx ((τ1.set i none).set j (some (.loc p.2.length))), p.2 ++ [.exn c fs]) else none
  | o => some (o, p.2)
section
variable {X : Cx} {W : WX}
theorem es_tryF {k : Nat} {x n y : Str} {c : Value} {i j : Nat} {body : List Stmt} {np pos pos' py pn ps : Pos} {fb : EvS} {subs : List String} (hij : i ≠ j) (hs : X.stack = X.env :: X.outer) (hf : X.env.frame = some X.env.locals) (hN : X.N.Nodup) (hi : X.N[i]? = some n) (hln : X.env.kindOf n = some .local) (hj : X.N[j]? = some y) (hly : Loc X.env.scope y)
    (hfy : X.fn y = true ∨ List.lookup y X.env.scope.names = some .local) (hc : Names X x c) (hv : ∀ a pn', PE (X.suite a pn') (.Name n pn) (tVar i)) (hsw : ∀ a pn', swapsWith (.Name n pn) (some (.Name y py)) ps.line (X.suite a pn').env = pure false) (hk : Caught X.K subs c) (ho : Ok X k)
    (hb : ∀ (W : WX) (pn : List (Addr × Obj)) (xe : Value → Shared → Prop), Takes (X.tr pn xe) W → PassesOwn (model X.prog X.w) X.A X.env xe → Ok (X.tr pn xe) k → ESs W (X.tr pn xe) body fb) :
    ES W X (.Try body [.ExceptHandler (some (.Name x np)) (some n) [.Assign [.Name y py] (.Name n pn) ps] pos'] [] [] pos) (tryF subs i j fb) :=
  wkS (ps_try_keepF (tb := fun W => tS X.K W fb) hs hf hN hi hln hj hly hfy hc hv hsw fun W pn xe tk po => hb W pn xe tk po ⟨ho.calm, ho.room⟩) fun D σ H q => by
    obtain ⟨ρ, τ, S, o, S', A, e, k⟩ := q
    obtain ⟨⟨o1, S1⟩, e1, e⟩ := bindE e
    refine ⟨ρ, τ, S, o1, S1, A, e1, fun ρ1 H1 P1 => ?_⟩
    cases o1 with
    | nx τ1 => cases e; exact k ρ1 H1 P1
    | rt d => cases e; exact k ρ1 H1 P1
    | bk τ1 => cases e; exact k ρ1 H1 P1
    | ct τ1 => cases e; exact k ρ1 H1 P1
    | ex cl fs τ1 =>
      simp only at e
      split at e
      · rename_i hm
        cases e
        intro σ1 t1 C h0
        obtain ⟨C', h0', hx⟩ := hk cl hm
        rw [h0] at h0'
        cases h0'
        have fin : ∀ (ρ2 : List Addr) (H2 : Hp) (d : Option Addr) (a : Addr), Post X.K ρ1 H1 ρ2 (upd H2 a (exHO a C d)) (S1 ++ [.exn cl fs]) → RelD X.K ρ2 (upd H2 a (exHO a C d)) (.loc S1.length) (.ref a) →
            D.nx (((σ1.set i (some (V.ref a))).set j (some (V.ref a))).set i none) (upd H2 a (exHO a C d)) := fun ρ2 H2 d a P2 r2 => by
          have t2 := t1.mono (P2.imm P1.rel) P2.pre
          refine k _ _ (P1.trans P2) _ ⟨by simp [t2.1], fun m d em => ?_⟩
          rw [List.getElem?_set, List.getElem?_set] at em
          rw [List.getElem?_set, List.getElem?_set, List.getElem?_set]
          have hl := t2.1
          by_cases hjm : j = m
          · subst hjm
            rw [if_pos rfl] at em
            rw [if_neg hij, if_pos rfl]
            split at em
            · rename_i hlt
              cases em
              rw [List.length_set] at hlt
              rw [if_pos (by rw [List.length_set, ← hl]; exact hlt)]
              exact ⟨_, rfl, r2⟩
            · cases em
          · rw [if_neg hjm] at em
            rw [if_neg hjm]
            by_cases him : i = m
            · subst him
              rw [if_pos rfl] at em
              split at em <;> cases em
            · rw [if_neg him] at em
              rw [if_neg him, if_neg him]
              exact t2.2 m d em
        refine ⟨fun hfs => ⟨⟨C, rfl⟩, hx, .inl rfl, fun a C2 H2 e2 hna hz => ?_⟩, fun hfs d kvs hdn hkv => ⟨⟨C, rfl⟩, hx, .inr ⟨d, kvs, rfl, upd_same⟩, fun a C2 H2 e2 hna hz => ?_⟩⟩
        · cases e2
          subst hfs
          rcases hz with ⟨_, rfl⟩ | ⟨dd, o, kvs, z, _⟩
          · obtain ⟨P2, r2⟩ := P1.rel.new (o := .exn cl []) (ho := exHO a C none) hna ⟨C, none, h0, upd_same, .inl ⟨rfl, rfl⟩⟩
            exact fin _ _ _ _ P2 r2
          · cases z
        · cases e2
          rcases hz with ⟨z, _⟩ | ⟨dd, o, kvs', z, z2, rfl⟩
          · cases z
          · cases z
            rw [upd_same] at z2
            cases z2
            rw [upd_upd] at *
            have hda : d ≠ a := fun z => by rw [z, upd_same] at hna; cases hna
            have hna' : H1 a = none := by rw [upd_ne (Ne.symm hda)] at hna; exact hna
            have P0 := P1.rel.side hdn (.frz o (.xd kvs))
            have hna2 : upd H1 d (.frz o (.xd kvs)) a = none := by rw [upd_ne (Ne.symm hda)]; exact hna'
            have hkv2 : RelKV X.K (ρ1 ++ [a]) (upd (upd H1 d (.frz o (.xd kvs))) a (exHO a C (some d))) fs kvs := by
              have im : Imm (upd H1 d (.xd kvs)) (upd (upd H1 d (.frz o (.xd kvs))) a (exHO a C (some d))) := by
                refine ⟨fun b xs hb => ?_, fun b ob u hu hb => ?_⟩
                · have hbd : b ≠ d := fun z => by rw [z, upd_same] at hb; cases hb
                  rw [upd_ne hbd] at hb
                  rw [upd_ne (fun z => by rw [z, hna'] at hb; cases hb), upd_ne hbd]; exact hb
                · have hbd : b ≠ d := fun z => by rw [z, upd_same] at hb; cases hb
                  rw [upd_ne hbd] at hb
                  rw [upd_ne (fun z => by rw [z, hna'] at hb; cases hb), upd_ne hbd]; exact hb
              exact ⟨hkv.1, hkv.2.mono im (List.prefix_append _ _)⟩
            obtain ⟨P2, r2⟩ := P0.rel.new (o := .exn cl fs) (ho := exHO a C (some d)) hna2 ⟨C, some d, h0, upd_same, .inr ⟨hfs, d, o, kvs, rfl, by rw [upd_ne hda, upd_same], hkv2⟩⟩
            exact fin _ _ _ _ (P0.trans P2) r2
      · cases e
end
end SW

namespace PySem.W
open PySem PySem.Calls PyProof.Rows
section
variable {prog : Program} {w : World} {A : Around} {E : Value → Shared → Prop} {s : Shared} {K : Frag} {x D : Addr} {ox : Obj} {od : Option Obj}
theorem findObj_dataX {C : Addr} {name : Str} {a g : Value} (hc : (clsIn K C).isSome = true) (ha : findIn K (.ref C) name = some (some a)) (hg : specialIn K a "__get__" = some (some g)) (ht : takesIn K a = some true) : findObj K C od name = some (.bind g a) := by
  obtain ⟨cd, hc⟩ := Option.isSome_iff_exists.mp hc
  unfold findObj
  rw [hc, Option.bind_some, ha, Option.bind_some]
  simp [hg, ht]
theorem kin_classX {Q : Option Value → Shared → Prop} (hga : findIn K (.ref D) "__getattribute__" = some (some (.builtin "BaseException.__getattribute__"))) (hgt : findIn K (.ref D) "__getattr__" = some none) (hsub : subIn K (.ref D) (.type "BaseException") = some true)
    (hdct : hasDictIn K D = true) (ha : findIn K (.ref D) "__class__" = some (some (.builtin "object.__class__")))
    (hn : specialIn K (.builtin "object.__class__") "__get__" = some (some (.builtin "getset_descriptor.__get__"))) (htk : takesIn K (.builtin "object.__class__") = some true) (hm : mroIn K D (.type "object") = some true)
    (X : K.In s.heap) (I : InstAt s.heap x ox D od) (h : Q (some (.ref D)) { s with toks := s.toks + 1 }) : wpAny (model prog w) A (getAttr? (.ref x) "__class__") Q E s := by
  have hf : findObj K D od "__class__" = some (.bind (.builtin "getset_descriptor.__get__") (.builtin "object.__class__")) := findObj_dataX (by obtain ⟨cd, hc, _⟩ := any_some hdct; rw [hc]; rfl) ha hn htk
  obtain ⟨hp, g, d, t, os⟩ := s
  have L0 := I.type (M := model prog w)
  have L1 := looks_findIn (M := model prog w) X hga
  have L2 := looks_findIn (M := model prog w) X hgt
  have L3 := looks_find (M := model prog w) X I hf
  have sub : Looks (model prog w) hp (isInstance (.ref x) (.type "BaseException")) true := L0.andThen (looks_subIn X hsub)
  have hx0 : (false && onTheHeap (Value.builtin "BaseException.__getattribute__")) = false := rfl
  have hx2 : (Value.builtin "BaseException.__getattribute__" == Value.builtin "object.__getattribute__") = false := by decide +kernel
  have hx1 : (onTheHeap (Value.ref D) && Value.builtin "BaseException.__getattribute__" == Value.builtin "object.__getattribute__") = false := by rw [hx2]; rfl
  unfold getAttr? getAttrBy? getAttrBy
  refine wpAny_bind (wpAny_mkText (wpAny_bind (wpAny_attempt (wpAny_holding (wpAny_bind (L0.at (wpAny_bind (L1.at ?_))))))))
  show wpAny _ _ (if (onTheHeap (Value.ref D) && Value.builtin "BaseException.__getattribute__" == Value.builtin "object.__getattribute__") = true then _ else _) _ _ _
  rw [hx1, if_neg Bool.false_ne_true]
  unfold getAttrByItsOwn hookBefore
  refine wpAny_bind ?_
  rw [if_pos (show onTheHeap (Value.ref D) = true from rfl)]
  refine L2.at ?_
  refine wpAny_bind (wpAny_attempt (wpAny_holding ?_))
  unfold callGetattribute
  rw [hx0, if_neg Bool.false_ne_true]
  unfold boundAndCalled
  rw [PySem.F.excAttr_ValueError.ga.bind (.ref x)]
  refine wpAny_bind (wpAny_pure ?_)
  show wpAny _ _ (call (.builtin "BaseException.__getattribute__") [.ref x, .str "__class__" t]) _ _ _
  refine wpAny_call (codeAny_call_builtin PySem.F.excAttr_ValueError.ga.plain PySem.F.entry_bexc_ga ?_)
  refine @check_slot (model prog w) _ _ ⟨hp, g, d, t + 1, os⟩ "BaseException.__getattribute__" "BaseException" "__getattribute__" (.ref x) [.str "__class__" t] [] _ (by decide +kernel) (by decide +kernel) sub (PySem.F.args_bexc_ga (.ref x) (.str "__class__" t)) ?_
  unfold Builtin.«object.__getattribute__»
  refine wpAny_bind (wpAny_of_eq (a := ((Value.ref x : Value), [Value.str "__class__" t])) (by first | rfl | (simp only [slotArgs]; rfl)) ?_)
  refine wpAny_bind (wpAny_pure (wpAny_bind (L0.at (wpAny_bind (L3.at ?_)))))
  show wpAny _ _ (holding [Value.builtin "object.__class__"] (call (.builtin "getset_descriptor.__get__") [.builtin "object.__class__", .ref x, .ref D]) >>= ret) _ _ _
  refine wpAny_bind (wpAny_holding (wpAny_call (class_get (s := ⟨hp, g, d, t + 1, os⟩) (ox := ox) (od := od) X I hm ?_)))
  refine wpAny_pure ?_
  show wpAny _ _ (handedOut (.ref D)) _ _ _
  rw [handedOut_of (v := .ref D) rfl]
  first
    | exact wpAny_pure (wpAny_pure h)
    | exact wpAny_pure h
    | exact wpAny_pure (wpAny_bind (wpAny_pure (wpAny_pure h)))
theorem kitx_excX (hga : findIn K (.ref D) "__getattribute__" = some (some (.builtin "BaseException.__getattribute__"))) (hgt : findIn K (.ref D) "__getattr__" = some none) (hsub : subIn K (.ref D) (.type "BaseException") = some true) (hdct : hasDictIn K D = true) (ha : findIn K (.ref D) "__class__" = some (some (.builtin "object.__class__")))
    (hn : specialIn K (.builtin "object.__class__") "__get__" = some (some (.builtin "getset_descriptor.__get__"))) (htk : takesIn K (.builtin "object.__class__") = some true) (hm : mroIn K D (.type "object") = some true) :
    KitX K (.ref x) (.ref D) (fun h => InstAt h x ox D od) where
  ty := fun _ _ _ I => I.type
  it := fun _ _ X _ => by
    obtain ⟨cdD, hcD, _⟩ := any_some hdct
    unfold clsIn at hcD
    split at hcD
    · rename_i c' d' cd' sl' ho
      intro A' Q' E' s' k q
      unfold isType loadHead
      exact wpAny_bind (wpAny_loadPart (k _ _ (X _ _ ho)) (wpAny_pure q))
    · cases hcD
  ne := fun h tp dd its n sl X htp => by
    obtain ⟨cdD, hcD, _⟩ := any_some hdct
    refine Bool.eq_false_iff.mpr fun q => ?_
    have e : D = tp := Value.ref.inj (beq_iff_eq.mp q)
    subst e
    unfold clsIn at hcD
    split at hcD
    · rename_i c' d' cd' sl' ho
      have z := (X _ _ ho).symm.trans htp
      cases z
    · cases hcD
  ca := fun X I k => kin_classX hga hgt hsub hdct ha hn htk hm X I k
end
end PySem.W
/-! isinstance of a held exception that may have fields; its field -/
namespace SW
open PySem PySem.Spec PyProof.Rows L2

/-- its dict, where it has one -/
def DkF (H : Hp) (dO : Option Addr) : Prop := dO = none ∨ ∃ d o kvs, dO = some d ∧ H d = some (.frz o (.xd kvs))
def rIsXF (K : PySem.W.Frag) : List V → Hp → VK → Prop := fun xs H Q => ∃ (a C : Addr) (dO : Option Addr) (c : V) (cv : Value) (b : Bool), xs = [.ref a, c] ∧ H a = some (exHO a C dO) ∧ DkF H dO ∧ ExcC K C ∧ (∀ u, RelV c u → u = cv) ∧ PySem.W.kitOne K (.ref C) cv = some b ∧ Q (.bl b) H
def rIsXsF (K : PySem.W.Frag) : List V → Hp → VK → Prop := fun xs H Q => ∃ (a C tp : Addr) (dO : Option Addr) (cs : List V) (cvs : List Value) (b : Bool), xs = [.ref a, .ref tp] ∧ H a = some (exHO a C dO) ∧ DkF H dO ∧ ExcC K C ∧ H tp = some (.tup cs) ∧ (∀ us, Vals cs us → us = cvs) ∧ PySem.W.kitAny K (.ref C) cvs = some b ∧ Q (.bl b) H
section
variable {X : Cx}
theorem exHO_instF {P : Program} {w : World} {H : Hp} {h : Heap} {a C : Addr} {dO : Option Addr} (ok : HOk P w H h) (e : H a = some (exHO a C dO)) (hd : DkF H dO) : ∃ oe od, PySem.W.InstAt h a oe C od ∧ (∀ d, dO = some d → ∃ o, od = some o ∧ h.get? d = some o) := by
  have z := ok a _ e
  simp only [exHO, ObjOk] at z
  obtain ⟨⟨oc, odd, oda, osl⟩, h1, h2, h3, vs, h4⟩ := z.1
  dsimp only at h2 h3 h4
  subst h2 h3 h4
  rcases hd with rfl | ⟨d, o, kvs, rfl, hd⟩
  · exact ⟨_, none, ⟨h1, rfl, rfl, trivial⟩, fun d e => by cases e⟩
  · obtain ⟨g, _⟩ := ok d _ hd
    exact ⟨_, some o, ⟨h1, rfl, rfl, g⟩, fun d' e => by cases e; exact ⟨o, rfl, g⟩⟩
theorem call_isXF : CallR X (.builtin "isinstance") (rIsXF X.K) := by
  intro pins s σ H xs us Q I r h
  obtain ⟨a, D, dO, c, cv, b, rfl, ha, hdk, C, hcv, e, q⟩ := h
  cases r with
  | cons rx rr =>
    cases rr with
    | cons rt rr =>
      cases rr
      cases rx
      have ec := hcv _ rt
      subst ec
      obtain ⟨oe, od, J, _⟩ := exHO_instF I.hok ha hdk
      exact PySem.W.kia_one (PySem.W.kitx_excX C.hg C.hk C.hs C.hd C.ha C.hn C.ht C.hm) I.kIn J e (fun z => nomatch z) fun tk => ⟨.bl b, H, I.kept (t' := tk) fun _ _ z => z, rfl, q⟩
theorem call_isXsF : CallR X (.builtin "isinstance") (rIsXsF X.K) := by
  intro pins s σ H xs us Q I r h
  obtain ⟨a, D, tp, dO, cs, cvs, b, rfl, ha, hdk, C, ht, hcv, e, q⟩ := h
  cases r with
  | cons rx rr =>
    cases rr with
    | cons rt rr =>
      cases rr
      cases rx
      cases rt
      obtain ⟨oe, od, J, _⟩ := exHO_instF I.hok ha hdk
      have z := I.hok tp _ ht
      simp only [ObjOk] at z
      obtain ⟨_, its, rv, ⟨oc, odd, oda, osl⟩, h1, h2, n, h3⟩ := z
      dsimp only at h2 h3
      subst h2 h3
      have ec := hcv _ rv
      subst ec
      exact PySem.W.kia_tup (PySem.W.kitx_excX C.hg C.hk C.hs C.hd C.ha C.hn C.ht C.hm) I.kIn J h1 e (fun z => nomatch z) fun tk => ⟨.bl b, H, I.kept (t' := tk) fun _ _ z => z, rfl, q⟩
end
def isExF (tbl : List (String × Bool)) (d : D) (S : Sto) : Option (D × Sto) := match d with
  | .loc n => match S[n]? with
    | some (.exn c _) => (tbl.lookup c).map fun b => (.bl b, S)
    | _ => none
  | _ => none
section
variable {X : Cx} {W : WX}
theorem ee_is1F {e c : Expr} {f : EvE} {cvv : V} {cv : Value} {p pos : Pos} {tbl : List (String × Bool)} (hg : Gl X "isinstance") (hm : X.mg "isinstance" = none) (h : EE X e f) (hc : PE X c (tC cvv)) (hcv : ∀ u, RelV cvv u → u = cv) (T : IsTbl X.K [cv] false tbl)
    (hs : starEach [e, c] X.env = (false, eval e X.env) :: starEach [c] X.env := by rfl) (hs2 : starEach [c] X.env = (false, eval c X.env) :: starEach [] X.env := by rfl) (hpl : (backTo pos (starEach [c] X.env)).any (·.1) = false := by rfl) :
    EE X (.Call (.Name "isinstance" p) [e, c] [] pos) (u1E (isExF tbl) f) :=
  wkE (pe_callB call_isXF hg hm (by decide +kernel) (pa_cons h (pa_cons hc pa_nil hs2) hs) (by decide) (by decide) hs hpl) fun σ H Q q => by
    obtain ⟨ρ, τ, S, d, S', A, e0, k⟩ := q
    obtain ⟨⟨d1, S1⟩, e1, e2⟩ := bindE e0
    refine goE A e1 fun ρ1 v1 H1 A1 P1 r1 => ?_
    cases d1 with
    | loc n =>
      simp only [isExF] at e2
      split at e2
      · rename_i cl fs hn
        obtain ⟨b, hb, e2⟩ := Option.map_eq_some_iff.mp e2
        cases e2
        obtain ⟨a, C, dO, rfl, _, h0, ha, hfs⟩ := A1.s.exn hn r1
        obtain ⟨C', h0', hx, h2⟩ := T cl b hb
        rw [h0] at h0'
        cases h0'
        obtain ⟨cv', e3, h2⟩ := h2
        cases e3
        have hdk : DkF H1 dO := by
          rcases hfs with ⟨_, rfl⟩ | ⟨_, d, o, kvs, rfl, hd, _⟩
          · exact .inl rfl
          · exact .inr ⟨d, o, kvs, rfl, hd⟩
        exact ⟨a, C, dO, _, cv, b, rfl, ha, hdk, hx, hcv, h2, k ρ1 (.bl b) H1 P1 (RelD.bl b)⟩
      · cases e2
    | _ => cases e2
theorem ee_isNF {e : Expr} {es : List Expr} {f : EvE} {as : List Addr} {kt} {p pos tp : Pos} {tbl : List (String × Bool)} (hg : Gl X "isinstance") (hm : X.mg "isinstance" = none) (h : EE X e f) (hc : PA X es (fun _ H Q => Q (as.map V.ref) H)) (hl : as.length ≤ 1000) (T : IsTbl X.K (as.map Value.ref) true tbl)
    (hs : starEach [e, .Tuple es kt tp] X.env = (false, eval e X.env) :: starEach [.Tuple es kt tp] X.env := by rfl) (hs2 : starEach [.Tuple es kt tp] X.env = (false, eval (.Tuple es kt tp) X.env) :: starEach [] X.env := by rfl) (hpl : (backTo pos (starEach [.Tuple es kt tp] X.env)).any (·.1) = false := by rfl) :
    EE X (.Call (.Name "isinstance" p) [e, .Tuple es kt tp] [] pos) (u1E (isExF tbl) f) :=
  wkE (pe_callB call_isXsF hg hm (by decide +kernel) (pa_cons h (pa_cons (pe_tup hc) pa_nil hs2) hs) (by decide) (by decide) hs hpl) fun σ H Q q => by
    obtain ⟨ρ, τ, S, d, S', A, e0, k⟩ := q
    obtain ⟨⟨d1, S1⟩, e1, e2⟩ := bindE e0
    refine goE A e1 fun ρ1 v1 H1 A1 P1 r1 => ?_
    cases d1 with
    | loc n =>
      simp only [isExF] at e2
      split at e2
      · rename_i cl fs hn
        obtain ⟨b, hb, e2⟩ := Option.map_eq_some_iff.mp e2
        cases e2
        obtain ⟨a, C, dO, rfl, _, h0, ha, hfs⟩ := A1.s.exn hn r1
        obtain ⟨C', h0', hx, h2⟩ := T cl b hb
        rw [h0] at h0'
        cases h0'
        refine ⟨line_of (by rw [List.length_map]; omega), fun tpa hp => ?_⟩
        have P2 := A1.s.side hp (.tup (as.map V.ref))
        have hap : a ≠ tpa := fun z => by rw [z, hp] at ha; cases ha
        have hdk : DkF (upd H1 tpa (.tup (as.map V.ref))) dO := by
          rcases hfs with ⟨_, rfl⟩ | ⟨_, d, o, kvs, rfl, hd, _⟩
          · exact .inl rfl
          · exact .inr ⟨d, o, kvs, rfl, by rw [upd_ne (fun z => by rw [z, hp] at hd; cases hd)]; exact hd⟩
        exact ⟨a, C, tpa, dO, as.map V.ref, as.map Value.ref, b, rfl, by rw [upd_ne hap]; exact ha, hdk, hx, upd_same, fun us r => vals_refs r, h2, k ρ1 (.bl b) _ (P1.trans P2) (RelD.bl b)⟩
      · cases e2
    | _ => cases e2
end
/-! the field -/
def tXfH (K : PySem.W.Frag) (f : Str) (te : TE) : TE := fun σ H Q => te σ H fun x H1 => ∃ (a C d : Addr) (o : Obj) (kvs : List (Str × V)) (v : V), x = .ref a ∧ H1 a = some (exHO a C (some d)) ∧ H1 d = some (.frz o (.xd kvs)) ∧ XfC K C ∧ PySem.W.findIn K (.ref C) f = some none ∧ kvs.lookup f = some v ∧ Q v H1
theorem pe_xfH {X : Cx} {e : Expr} {te : TE} {pos : Pos} {n : Str} (he : PE X e te) (hb : attributeBase e n X.env (eval e X.env) = eval e X.env := by rfl) : PE X (.Attribute e n pos) (tXfH X.K n te) := by
  refine ⟨fun pins s σ H Q I h => ?_⟩
  refine attr_of hb (thn (he.run pins s σ H _ I h) fun u s1 hh => ?_)
  obtain ⟨x, H1, I1, rx, a, C, d, o, kvs, v, ex, ha, hd, T, hno, l, q⟩ := hh
  subst ex
  obtain rfl : u = Value.ref a := rx
  obtain ⟨oe, od, J, hod⟩ := exHO_instF I1.hok ha (.inr ⟨d, o, kvs, rfl, hd⟩)
  obtain ⟨o', eo, ho⟩ := hod d rfl
  subst eo
  have hx : ObjOk X.prog X.w H1 s1.heap d (.frz o (.xd kvs)) := I1.hok d _ hd
  obtain ⟨_, mA, hns, hr⟩ := hx
  obtain ⟨o2, ho2, hl⟩ := lookIn_ns hns
  rw [ho] at ho2
  cases ho2
  obtain ⟨u, hu, ru⟩ := RelO.some_of (v := v) (o := mA n) (by rw [← l]; exact hr n)
  exact HandSPX.exc_get I1.kIn J T.ga T.gg T.exC (PySem.W.findObj_own T.hdC hno rfl (by rw [hl, hu])) (handed_of ru) ⟨v, H1, I1.tok _, ru, q⟩
/-- the class of the held exception, whose field is read -/
structure XfA (K : PySem.W.Frag) (c : String) (f : Str) : Prop where
  ex : ∃ C, PySem.W.nsIn K mainGlobals c = some (some (.ref C)) ∧ XfC K C ∧ PySem.W.findIn K (.ref C) f = some none
def xfD (c0 : String) (f : Str) (d : D) (S : Sto) : Option (D × Sto) := match d with
  | .loc n => match S[n]? with
    | some (.exn c fs) => if c = c0 then (fs.lookup f).map fun v => (v, S) else none
    | _ => none
  | _ => none
theorem ee_xf {X : Cx} {c0 : String} {f : Str} {e : Expr} {fe : EvE} {pos : Pos} (T : XfA X.K c0 f) (h : EE X e fe) (hb : attributeBase e f X.env (eval e X.env) = eval e X.env := by rfl) : EE X (.Attribute e f pos) (u1E (xfD c0 f) fe) := wkE (pe_xfH h hb) fun σ H Q q => by
  obtain ⟨ρ, τ, S, d, S', A, e, k⟩ := q
  obtain ⟨⟨x, S1⟩, e1, e2⟩ := bindE e
  refine goE A e1 fun ρ1 v1 H1 A1 P1 r1 => ?_
  cases x with
  | loc n =>
    simp only [xfD] at e2
    split at e2
    · rename_i cl fs hn
      split at e2
      · rename_i hc
        subst hc
        obtain ⟨y, hy, e2⟩ := Option.map_eq_some_iff.mp e2
        obtain ⟨ey, eS⟩ := Prod.mk.inj e2
        subst ey eS
        obtain ⟨a, C, dO, rfl, _, h0, ha, hfs⟩ := A1.s.exn hn r1
        obtain ⟨C', h0', hx, hno⟩ := T.ex
        rw [h0] at h0'
        cases h0'
        rcases hfs with ⟨z0, _⟩ | ⟨_, d, o, kvs, rfl, hd, hkv⟩
        · subst z0; cases hy
        · obtain ⟨v, hv, rv⟩ := (hkv.lookup (f := f)).1 _ hy
          exact ⟨a, C, d, o, kvs, v, rfl, ha, hd, hx, hno, hv, k ρ1 v H1 P1 rv⟩
      · cases e2
    · cases e2
  | _ => cases e2
/-! the end: what stands in the text -/
structure ExAt (K : PySem.W.Frag) (mg : Str → Option Value) (c : String) (qual : Str) (st : Stmt) (f : Str) : Prop where
  ex : ∃ (C fI : Addr) (fd : FuncData), PySem.W.nsIn K mainGlobals c = some (some (.ref C)) ∧ mg c = some (.ref C) ∧ OexC K C ∧ PySem.W.findIn K (.ref C) "__init__" = some (some (.ref fI)) ∧ PySem.W.typeIn K (.ref fI) = some (.type "function") ∧
    Fun K "__init__" qual st fI fd ∧ PySem.W.findIn K (.ref C) f = some none ∧ Binds K fd ["self", "words", f] []
theorem exAt {K : PySem.W.Frag} {h : Heap} {mg : Str → Option Value} (X : K.In h) (G : h.Ns mainGlobals mg) {x : String} {C : Addr} {qual fl : Str} {st : Stmt} {f : Addr} {oc : Value} {od an : Option Addr} {osl : Array (Option Value)} {kV doc pm cdv ct : Value}
    (hb : ∀ (kV doc pm : Value) (an : Option Addr) (cdv ct : Value) (us : List Value), us.length = 3 → bindArgs (PySem.W.fnOf "__init__" qual (defArgs st) (defBody st) (defScope st) .none kV doc pm an cdv ct) ⟨us, []⟩ = pure (([("self" : Str), ("words" : Str), fl] : List Str).zip us))
    (n : PySem.W.nsIn K mainGlobals x = some (some (.ref C))) (oe : oexB K C = true) (sa : PySem.W.findIn K (.ref C) "__setattr__" = some (some (.builtin "object.__setattr__"))) (bx : PySem.W.subIn K (.ref C) (.type "BaseException") = some true)
    (tx : PySem.W.typeIn K (.ref C) = some (.type "type")) (ke : PySem.W.keepIn K (.ref C) = true) (nf : PySem.W.findIn K (.ref C) fl = some none)
    (a : PySem.W.findIn K (.ref C) "__init__" = some (some (.ref f))) (i : PySem.W.isFn K (.ref f) = true)
    (l : K.lookup f = some ⟨oc, od, .func (PySem.W.fnOf "__init__" qual (defArgs st) (defBody st) (defScope st) .none kV doc pm an cdv ct), osl⟩)
    (cc : PySem.W.codeIn K cdv qual = true) (k : PySem.W.keepIn K (.ref f) = true) : ExAt K mg x qual st fl :=
  have F := fun_mk (st := st) l cc k
  ⟨C, f, _, n, PySem.W.mg_of X G n, ⟨oexB_ok oe, sa, bx, tx, ke⟩, a, by simpa [PySem.W.isFn] using i, F, nf, F.binds (ps := [("self" : Str), ("words" : Str), fl]) hb⟩
end SW
namespace SW
open PySem L2
def b_l_box : EvS := (seqS (stS 2 (b2E sbD (b2E addD (vE 0) (b2E mulD (aE lstD (consA (cE (.int 0)) nilA)) (b2E addD (vE 1) (cE (.int 1))))) (vE 1)))
  (rtS (aE lstD (consA (b2E mulD (aE absD (consA (vE 2) nilA)) (aE intD (consA (b2E geD (aE absD (consA (vE 2) nilA)) (b2E powD (cE (.int 10)) (cE (.int 18)))) nilA))) (consA (b2E modD (b2E mulD (b2E addD (b2E addD (b2E modD (vE 2) (cE (.int 2147483647))) (b2E mulD (cE (.int 7919)) (vE 1))) (cE (.int 11))) (cE (.int 48271))) (cE (.int 2147483629))) (consA (cE (.int 0)) nilA))))))
def g_l_box : Fn := fnD 2 3 b_l_box
def b_l_take : EvS := (seqS (ifS (tB (b2E gtD (b2E sbD (vE 0) (cE (.int 0))) (cE (.int 0)))) (seqS (asS (aE divmodD (consA (b2E sbD (vE 0) (cE (.int 0))) (consA (vE 1) nilA))) (tupG (consG (subG (vE 0) (cE (.int 0))) (consG (patG (.nm 3)) nilG))))
  (rtS (vE 3))) nxS)
  (seqS (asS (b2E addD (b2E sbD (vE 0) (cE (.int 2))) (cE (.int 1))) (subG (vE 0) (cE (.int 2))))
  (seqS (stS 2 (b2E modD (b2E mulD (b2E addD (b2E sbD (vE 0) (cE (.int 1))) (b2E mulD (cE (.int 39373)) (b2E sbD (vE 0) (cE (.int 2))))) (b2E addD (cE (.int 48271)) (b2E sbD (vE 0) (cE (.int 2))))) (cE (.int 2147483647))))
  (seqS (asS (b2E modD (b2E addD (b2E mulD (vE 2) (b2E addD (b2E modD (vE 2) (cE (.int 40009))) (cE (.int 7)))) (b2E sbD (vE 0) (cE (.int 2)))) (cE (.int 2147483629))) (subG (vE 0) (cE (.int 1))))
  (rtS (b2E modD (b2E fdivD (b2E modD (b2E mulD (b2E sbD (vE 0) (cE (.int 1))) (b2E addD (b2E modD (b2E sbD (vE 0) (cE (.int 1))) (cE (.int 1009))) (cE (.int 3)))) (cE (.int 998244353))) (cE (.int 7))) (vE 1)))))))
def g_l_take : Fn := fnD 2 4 b_l_take
def b_l_gone : EvS := (seqS (stS 3 (aE lstD (consA (aE tupD (consA (vE 1) (consA (cE .non) nilA))) nilA)))
  (seqS (forS (sqI (vE 2)) (.nm 4) (seqS (stS 5 (b2E sbD (vE 0) (b2E sbD (b2E sbD (vE 3) (u1E negD (cE (.int 1)))) (cE (.int 0)))))
  (seqS (ifS (notT (tB (b2E ltD (vE 4) (aE lenD (consA (vE 5) nilA))))) (rtS (cE .non)) nxS)
  (exS (mE appendM (vE 3) (consA (b2E sbD (vE 5) (vE 4)) nilA))))))
  (rtS (vE 3))))
def g_l_gone : Fn := fnD 3 6 b_l_gone
end SW
namespace SW
open PySem L2

/-! Plain runs: Wp m Q says that m ends, with what Q asks. -/
def Wp {α : Type} (m : Option (α × Sto)) (Q : α → Sto → Prop) : Prop := ∃ a S, m = some (a, S) ∧ Q a S
theorem Wp.mono {α : Type} {m : Option (α × Sto)} {Q Q' : α → Sto → Prop} (h : Wp m Q) (k : ∀ a S, Q a S → Q' a S) : Wp m Q' := let ⟨a, S, e, q⟩ := h; ⟨a, S, e, k a S q⟩
theorem Wp.of {α : Type} {m : Option (α × Sto)} {a : α} {S : Sto} {Q : α → Sto → Prop} (e : m = some (a, S)) (q : Q a S) : Wp m Q := ⟨a, S, e, q⟩
theorem wp_some {α : Type} {a : α} {S : Sto} {Q : α → Sto → Prop} : Wp (some (a, S)) Q ↔ Q a S :=
  ⟨fun ⟨_, _, e, q⟩ => by cases e; exact q, fun q => ⟨_, _, rfl, q⟩⟩
theorem wp_none {α : Type} {Q : α → Sto → Prop} : Wp (none : Option (α × Sto)) Q ↔ False := ⟨fun ⟨_, _, e, _⟩ => (nomatch e), False.elim⟩
theorem wp_bind {α β : Type} {m : Option (α × Sto)} {f : α × Sto → Option (β × Sto)} {Q : β → Sto → Prop} : Wp (m.bind f) Q ↔ Wp m fun a S => Wp (f (a, S)) Q := by
  constructor
  · rintro ⟨b, S, e, q⟩
    obtain ⟨⟨a, S1⟩, e1, e2⟩ := bindE e
    exact ⟨a, S1, e1, b, S, e2, q⟩
  · rintro ⟨a, S1, e1, b, S, e2, q⟩
    exact ⟨b, S, by rw [e1]; exact e2, q⟩
theorem wp_map {α β : Type} {m : Option (α × Sto)} {f : α × Sto → β × Sto} {Q : β → Sto → Prop} : Wp (m.map f) Q ↔ Wp m fun a S => Q (f (a, S)).1 (f (a, S)).2 := by
  constructor
  · rintro ⟨b, S, e, q⟩
    obtain ⟨⟨a, S1⟩, e1, e2⟩ := Option.map_eq_some_iff.mp e
    refine ⟨a, S1, e1, ?_⟩
    show Q (f (a, S1)).1 (f (a, S1)).2
    rw [e2]; exact q
  · rintro ⟨a, S1, e1, q⟩
    exact ⟨_, _, by rw [e1]; rfl, q⟩
theorem wp_ite {α : Type} {c : Prop} [Decidable c] {m n : Option (α × Sto)} {Q : α → Sto → Prop} : Wp (if c then m else n) Q ↔ if c then Wp m Q else Wp n Q := by
  by_cases h : c
  · rw [if_pos h, if_pos h]
  · rw [if_neg h, if_neg h]
section
variable {τ : Tau} {S : Sto}
theorem wp_cE {d : D} {Q} : Wp (cE d τ S) Q ↔ Q d S := wp_some
theorem wp_vE {i : Nat} {Q} : Wp (vE i τ S) Q ↔ ∃ d, τ[i]? = some (some d) ∧ Q d S := by
  unfold vE
  constructor
  · rintro ⟨a, S1, e, q⟩
    obtain ⟨d, e1, e2⟩ := Option.map_eq_some_iff.mp e
    cases e2
    cases h : τ[i]? with
    | none => rw [h] at e1; cases e1
    | some o => rw [h] at e1; cases o <;> cases e1; exact ⟨_, rfl, q⟩
  · rintro ⟨d, e, q⟩
    exact ⟨d, S, by rw [e]; rfl, q⟩
theorem wp_b2E {g : D → D → Sto → Option (D × Sto)} {fa fb : EvE} {Q} : Wp (b2E g fa fb τ S) Q ↔ Wp (fa τ S) fun x S1 => Wp (fb τ S1) fun y S2 => Wp (g x y S2) Q := by
  unfold b2E; rw [wp_bind]; simp only [wp_bind]
theorem wp_u1E {g : D → Sto → Option (D × Sto)} {fa : EvE} {Q} : Wp (u1E g fa τ S) Q ↔ Wp (fa τ S) fun x S1 => Wp (g x S1) Q := by unfold u1E; rw [wp_bind]
theorem wp_aE {g : List D → Sto → Option (D × Sto)} {fa : EvA} {Q} : Wp (aE g fa τ S) Q ↔ Wp (fa τ S) fun x S1 => Wp (g x S1) Q := by unfold aE; rw [wp_bind]
theorem wp_nilA {Q} : Wp (nilA τ S) Q ↔ Q [] S := wp_some
theorem wp_consA {fa : EvE} {fr : EvA} {Q} : Wp (consA fa fr τ S) Q ↔ Wp (fa τ S) fun x S1 => Wp (fr τ S1) fun y S2 => Q (x :: y) S2 := by
  unfold consA; rw [wp_bind]; simp only [wp_bind, wp_some]
theorem wp_tB {f : EvE} {Q} : Wp (tB f τ S) Q ↔ Wp (f τ S) fun d S1 => ∃ b, d = .bl b ∧ Q b S1 := by
  unfold tB; rw [wp_bind]
  constructor
  · rintro ⟨d, S1, e, q⟩
    refine ⟨d, S1, e, ?_⟩
    cases d with
    | bl b => exact ⟨b, rfl, wp_some.mp q⟩
    | _ => exact (wp_none.mp q).elim
  · rintro ⟨d, S1, e, b, rfl, q⟩
    exact ⟨_, S1, e, wp_some.mpr q⟩
theorem wp_notT {f : EvT} {Q} : Wp (notT f τ S) Q ↔ Wp (f τ S) fun b S1 => Q (!b) S1 := by unfold notT; rw [wp_map]
theorem wp_andT {f g : EvT} {Q} : Wp (andT f g τ S) Q ↔ Wp (f τ S) fun b S1 => if b = true then Wp (g τ S1) Q else Q false S1 := by
  unfold andT; rw [wp_bind]; simp only [wp_ite, wp_some]
theorem wp_orT {f g : EvT} {Q} : Wp (orT' f g τ S) Q ↔ Wp (f τ S) fun b S1 => if b = true then Q true S1 else Wp (g τ S1) Q := by
  unfold orT'; rw [wp_bind]; simp only [wp_ite, wp_some]
theorem wp_iteE {c : EvT} {f g : EvE} {Q} : Wp (iteE c f g τ S) Q ↔ Wp (c τ S) fun b S1 => if b = true then Wp (f τ S1) Q else Wp (g τ S1) Q := by
  unfold iteE; rw [wp_bind]; simp only [wp_ite]
theorem wp_andE {f g : EvE} {Q} : Wp (andE f g τ S) Q ↔ Wp (f τ S) fun d S1 => ∃ b, d = .bl b ∧ if b = true then Wp (g τ S1) Q else Q (.bl false) S1 := by
  unfold andE; rw [wp_bind]
  constructor
  · rintro ⟨d, S1, e, q⟩
    refine ⟨d, S1, e, ?_⟩
    cases d with
    | bl b => exact ⟨b, rfl, by simpa only [wp_ite, wp_some] using q⟩
    | _ => exact (wp_none.mp q).elim
  · rintro ⟨d, S1, e, b, rfl, q⟩
    exact ⟨_, S1, e, by simpa only [wp_ite, wp_some] using q⟩
theorem wp_orE {f g : EvE} {Q} : Wp (orE' f g τ S) Q ↔ Wp (f τ S) fun d S1 => ∃ b, d = .bl b ∧ if b = true then Q (.bl true) S1 else Wp (g τ S1) Q := by
  unfold orE'; rw [wp_bind]
  constructor
  · rintro ⟨d, S1, e, q⟩
    refine ⟨d, S1, e, ?_⟩
    cases d with
    | bl b => exact ⟨b, rfl, by simpa only [wp_ite, wp_some] using q⟩
    | _ => exact (wp_none.mp q).elim
  · rintro ⟨d, S1, e, b, rfl, q⟩
    exact ⟨_, S1, e, by simpa only [wp_ite, wp_some] using q⟩
theorem wp_notE {f : EvE} {Q} : Wp (notE f τ S) Q ↔ Wp (f τ S) fun d S1 => ∃ b, d = .bl b ∧ Q (.bl (!b)) S1 := by
  unfold notE; rw [wp_bind]
  constructor
  · rintro ⟨d, S1, e, q⟩
    refine ⟨d, S1, e, ?_⟩
    cases d with
    | bl b => exact ⟨b, rfl, wp_some.mp q⟩
    | _ => exact (wp_none.mp q).elim
  · rintro ⟨d, S1, e, b, rfl, q⟩
    exact ⟨_, S1, e, wp_some.mpr q⟩
theorem wp_chE {g g' : D → D → Sto → Option (D × Sto)} {fa fb fc : EvE} {Q} : Wp (chE g g' fa fb fc τ S) Q ↔ Wp (fa τ S) fun x S1 => Wp (fb τ S1) fun y S2 => Wp (g x y S2) fun d S3 => ∃ b, d = .bl b ∧ if b = true then Wp (fc τ S3) fun z S4 => Wp (g' y z S4) Q else Q (.bl false) S3 := by
  unfold chE; rw [wp_bind]; simp only [wp_bind]
  constructor
  · rintro ⟨x, S1, e1, y, S2, e2, d, S3, e3, q⟩
    refine ⟨x, S1, e1, y, S2, e2, d, S3, e3, ?_⟩
    cases d with
    | bl b => exact ⟨b, rfl, by simpa only [wp_ite, wp_some, wp_bind] using q⟩
    | _ => exact (wp_none.mp q).elim
  · rintro ⟨x, S1, e1, y, S2, e2, d, S3, e3, b, rfl, q⟩
    exact ⟨x, S1, e1, y, S2, e2, _, S3, e3, by simpa only [wp_ite, wp_some, wp_bind] using q⟩
theorem wp_yesT {Q} : Wp (yesT τ S) Q ↔ Q true S := wp_some
theorem wp_noO {Q} : Wp (noO τ S) Q ↔ Q none S := wp_some
theorem wp_someO {f : EvE} {Q} : Wp (someO f τ S) Q ↔ Wp (f τ S) fun d S1 => ∃ i, d = .int i ∧ Q (some i) S1 := by
  unfold someO; rw [wp_bind]
  constructor
  · rintro ⟨d, S1, e, q⟩
    refine ⟨d, S1, e, ?_⟩
    cases d with
    | int b => exact ⟨b, rfl, wp_some.mp q⟩
    | _ => exact (wp_none.mp q).elim
  · rintro ⟨d, S1, e, b, rfl, q⟩
    exact ⟨_, S1, e, wp_some.mpr q⟩
theorem wp_slE {f : EvE} {a b : EvO} {Q} : Wp (slE f a b τ S) Q ↔ Wp (f τ S) fun x S1 => Wp (a τ S1) fun l S2 => Wp (b τ S2) fun h S3 => Wp (slD x l h S3) Q := by
  unfold slE; rw [wp_bind]; simp only [wp_bind]
theorem wp_nK {Q} : Wp (nK τ S) Q ↔ Q (.loc S.length) (S ++ [.dK []]) := wp_some
theorem wp_nT {Q} : Wp (nT τ S) Q ↔ Q (.loc S.length) (S ++ [.dT []]) := wp_some
theorem wp_mE {g : D → List D → Sto → Option (D × Sto)} {fo : EvE} {fa : EvA} {Q} : Wp (mE g fo fa τ S) Q ↔ Wp (fo τ S) fun o S1 => isLst o S1 = true ∧ Wp (fa τ S1) fun as S2 => Wp (g o as S2) Q := by
  unfold mE; rw [wp_bind]
  simp only [wp_ite, wp_bind, wp_none]
  constructor
  · rintro ⟨o, S1, e, q⟩
    refine ⟨o, S1, e, ?_⟩
    split at q
    · rename_i h; exact ⟨h, q⟩
    · exact q.elim
  · rintro ⟨o, S1, e, h, q⟩
    refine ⟨o, S1, e, ?_⟩
    show if isLst o S1 = true then _ else _
    rw [if_pos h]; exact q
/-! statements -/
theorem wp_nxS {Q} : Wp (nxS τ S) Q ↔ Q (.nx τ) S := wp_some
theorem wp_brS {Q} : Wp (brS τ S) Q ↔ Q (.bk τ) S := wp_some
theorem wp_ctS {Q} : Wp (ctS τ S) Q ↔ Q (.ct τ) S := wp_some
theorem wp_retN {Q} : Wp (retN τ S) Q ↔ Q (.rt .non) S := wp_some
/-- what comes behind a statement that goes on -/
def cont (g : EvS) (Q : Out → Sto → Prop) : Out → Sto → Prop := fun o S1 => match o with | .nx τ' => Wp (g τ' S1) Q | o => Q o S1
theorem cont_nx {g : EvS} {Q} : cont g Q (.nx τ) S = Wp (g τ S) Q := rfl
theorem cont_rt {g : EvS} {Q} {d : D} : cont g Q (.rt d) S = Q (.rt d) S := rfl
theorem cont_bk {g : EvS} {Q} : cont g Q (.bk τ) S = Q (.bk τ) S := rfl
theorem cont_ct {g : EvS} {Q} : cont g Q (.ct τ) S = Q (.ct τ) S := rfl
theorem cont_ex {g : EvS} {Q} {c : String} {fs : List (Str × D)} : cont g Q (.ex c fs τ) S = Q (.ex c fs τ) S := rfl
theorem wp_seqS {f g : EvS} {Q} : Wp (seqS f g τ S) Q ↔ Wp (f τ S) (cont g Q) := by
  unfold seqS; rw [wp_bind]
  constructor
  · rintro ⟨o, S1, e, q⟩
    refine ⟨o, S1, e, ?_⟩
    cases o with
    | nx τ' => exact q
    | rt d => exact (wp_some (Q := Q)).mp q
    | bk d => exact (wp_some (Q := Q)).mp q
    | ct d => exact (wp_some (Q := Q)).mp q
    | ex c fs d => exact (wp_some (Q := Q)).mp q
  · rintro ⟨o, S1, e, q⟩
    refine ⟨o, S1, e, ?_⟩
    cases o with
    | nx τ' => exact q
    | rt d => exact wp_some.mpr q
    | bk d => exact wp_some.mpr q
    | ct d => exact wp_some.mpr q
    | ex c fs d => exact wp_some.mpr q
theorem wp_exS {f : EvE} {Q} : Wp (exS f τ S) Q ↔ Wp (f τ S) fun _ S1 => Q (.nx τ) S1 := by unfold exS; rw [wp_map]
theorem wp_rtS {f : EvE} {Q} : Wp (rtS f τ S) Q ↔ Wp (f τ S) fun d S1 => Q (.rt d) S1 := by unfold rtS; rw [wp_map]
theorem wp_ifS {c : EvT} {f g : EvS} {Q} : Wp (ifS c f g τ S) Q ↔ Wp (c τ S) fun b S1 => if b = true then Wp (f τ S1) Q else Wp (g τ S1) Q := by
  unfold ifS; rw [wp_bind]; simp only [wp_ite]
theorem wp_stS {i : Nat} {f : EvE} {Q} : Wp (stS i f τ S) Q ↔ Wp (f τ S) fun d S1 => Q (.nx (τ.set i (some d))) S1 := by
  unfold stS asS; rw [wp_bind]
  simp only [patG, Pat.bind, Option.map_some, wp_some]
theorem wp_parS {i j : Nat} {f : EvA} {Q} : Wp (parS i j f τ S) Q ↔ Wp (f τ S) fun ds S1 => ∃ v w, ds = [v, w] ∧ Q (.nx ((τ.set i (some v)).set j (some w))) S1 := by
  unfold parS; rw [wp_bind]
  constructor
  · rintro ⟨ds, S1, e, q⟩
    refine ⟨ds, S1, e, ?_⟩
    rcases ds with _ | ⟨v, _ | ⟨w, _ | ⟨x, r⟩⟩⟩
    · exact (wp_none.mp q).elim
    · exact (wp_none.mp q).elim
    · exact ⟨v, w, rfl, wp_some.mp q⟩
    · exact (wp_none.mp q).elim
  · rintro ⟨ds, S1, e, v, w, rfl, q⟩
    exact ⟨_, S1, e, wp_some.mpr q⟩
/-- a target takes a value -/
theorem wp_asS {f : EvE} {g : EvG} {Q} : Wp (asS f g τ S) Q ↔ Wp (f τ S) fun d S1 => Wp (g d τ S1) fun τ2 S2 => Q (.nx τ2) S2 := by
  unfold asS; rw [wp_bind]; simp only [wp_map]
theorem wp_augS {i : Nat} {g : D → D → Sto → Option (D × Sto)} {f : EvE} {Q} : Wp (augS i g f τ S) Q ↔ ∃ x, τ[i]? = some (some x) ∧ Wp (f τ S) fun y S1 => Wp (g x y S1) fun z S2 => Q (.nx (τ.set i (some z))) S2 := by
  unfold augS
  constructor
  · rintro ⟨o, S1, e, q⟩
    obtain ⟨x, e0, e⟩ := bindE e
    refine ⟨x, ?_, ?_⟩
    · cases h : τ[i]? with
      | none => rw [h] at e0; cases e0
      | some o => rw [h] at e0; cases o <;> cases e0; rfl
    · have : Wp ((f τ S).bind fun p => (g x p.1 p.2).map fun q => (.nx (τ.set i (some q.1)), q.2)) Q := ⟨o, S1, e, q⟩
      rw [wp_bind] at this
      simpa only [wp_map] using this
  · rintro ⟨x, e0, h⟩
    have : Wp ((f τ S).bind fun p => (g x p.1 p.2).map fun q => (.nx (τ.set i (some q.1)), q.2)) Q := by
      rw [wp_bind]; simpa only [wp_map] using h
    obtain ⟨o, S1, e, q⟩ := this
    exact ⟨o, S1, by rw [e0]; exact e, q⟩
theorem wp_patG {p : Pat} {d : D} {Q} : Wp (patG p d τ S) Q ↔ ∃ τ', p.bind d τ = some τ' ∧ Q τ' S := by
  unfold patG
  constructor
  · rintro ⟨τ', S1, e, q⟩
    obtain ⟨t, e1, e2⟩ := Option.map_eq_some_iff.mp e
    cases e2
    exact ⟨_, e1, q⟩
  · rintro ⟨τ', e, q⟩
    exact ⟨τ', S, by rw [e]; rfl, q⟩
theorem wp_tupG {gs : EvGs} {d : D} {Q} : Wp (tupG gs d τ S) Q ↔ ∃ ds, d = .tup ds ∧ Wp (gs ds τ S) Q := by
  constructor
  · intro h
    cases d with
    | tup ds => exact ⟨ds, rfl, h⟩
    | _ => exact (wp_none.mp h).elim
  · rintro ⟨ds, rfl, h⟩
    exact h
theorem wp_nilG {Q} : Wp (nilG [] τ S) Q ↔ Q τ S := wp_some
theorem wp_consG {g : EvG} {gs : EvGs} {d : D} {ds : List D} {Q} : Wp (consG g gs (d :: ds) τ S) Q ↔ Wp (g d τ S) fun τ1 S1 => Wp (gs ds τ1 S1) Q := by
  show Wp ((g d τ S).bind _) Q ↔ _
  rw [wp_bind]
theorem wp_subG {fo fi : EvE} {d : D} {Q} : Wp (subG fo fi d τ S) Q ↔ Wp (fo τ S) fun o S1 => Wp (fi τ S1) fun i S2 => ∃ S3, stD o i d S2 = some S3 ∧ Q τ S3 := by
  unfold subG; rw [wp_bind]; simp only [wp_bind]
  constructor
  · rintro ⟨o, S1, e1, i, S2, e2, τ', S3, e3, q⟩
    obtain ⟨t, e4, e5⟩ := Option.map_eq_some_iff.mp e3
    cases e5
    exact ⟨o, S1, e1, i, S2, e2, _, e4, q⟩
  · rintro ⟨o, S1, e1, i, S2, e2, S3, e3, q⟩
    exact ⟨o, S1, e1, i, S2, e2, τ, S3, by show (stD o i d S2).map _ = _; rw [e3]; rfl, q⟩
theorem wp_fnD {n m : Nat} {b : EvS} {ds : List D} {Q : D → Sto → Prop} (h : ds.length = n) : Wp (fnD n m b ds S) Q ↔ Wp (b (ds.map some ++ List.replicate (m - n) none) S) fun o S1 => match o with
    | .rt d => Q d S1
    | .nx _ => Q .non S1
    | _ => False := by
  unfold fnD
  rw [if_pos h, wp_bind]
  constructor
  · rintro ⟨o, S1, e, q⟩
    refine ⟨o, S1, e, ?_⟩
    cases o with
    | rt d => exact wp_some.mp q
    | nx d => exact wp_some.mp q
    | bk d => exact (wp_none.mp q).elim
    | ct d => exact (wp_none.mp q).elim
    | ex c fs d => exact (wp_none.mp q).elim
  · rintro ⟨o, S1, e, q⟩
    refine ⟨o, S1, e, ?_⟩
    cases o with
    | rt d => exact wp_some.mpr q
    | nx d => exact wp_some.mpr q
    | bk d => exact q.elim
    | ct d => exact q.elim
    | ex c fs d => exact q.elim
/-! values by operators -/
theorem wp_add {i j : Int} {Q} : Wp (addD (.int i) (.int j) S) Q ↔ Q (.int (i + j)) S := wp_some
theorem wp_addI {i j : Int} {Q} : Wp (addI (.int i) (.int j) S) Q ↔ Q (.int (i + j)) S := wp_some
theorem wp_sub {i j : Int} {Q} : Wp (subD (.int i) (.int j) S) Q ↔ Q (.int (i - j)) S := wp_some
theorem wp_lt {i j : Int} {Q} : Wp (ltD (.int i) (.int j) S) Q ↔ Q (.bl (decide (i < j))) S := wp_some
theorem wp_le {i j : Int} {Q} : Wp (leD (.int i) (.int j) S) Q ↔ Q (.bl (decide (i ≤ j))) S := wp_some
theorem wp_gt {i j : Int} {Q} : Wp (gtD (.int i) (.int j) S) Q ↔ Q (.bl (decide (j < i))) S := wp_some
theorem wp_ge {i j : Int} {Q} : Wp (geD (.int i) (.int j) S) Q ↔ Q (.bl (decide (j ≤ i))) S := wp_some
theorem wp_neg {i : Int} {Q} : Wp (negD (.int i) S) Q ↔ Q (.int (-i)) S := wp_some
theorem wp_abs {i : Int} {Q} : Wp (absD [.int i] S) Q ↔ Q (.int (if i < 0 then -i else i)) S := wp_some
theorem wp_max2 {i j : Int} {Q} : Wp (max2D [.int i, .int j] S) Q ↔ Q (.int (if j > i then j else i)) S := wp_some
theorem wp_min2 {i j : Int} {Q} : Wp (min2D [.int i, .int j] S) Q ↔ Q (.int (if j < i then j else i)) S := wp_some
theorem wp_intb {b : Bool} {Q} : Wp (intD [.bl b] S) Q ↔ Q (.int (if b then 1 else 0)) S := wp_some
theorem wp_is_non {d : D} {Q} : Wp (isD d .non S) Q ↔ Q (.bl (isNonD d)) S := by cases d <;> exact wp_some
theorem wp_isnot_non {d : D} {Q} : Wp (isNotD d .non S) Q ↔ Q (.bl (!isNonD d)) S := by cases d <;> exact wp_some
theorem atI_of {α : Type} {ds : List α} {i : Nat} {d : α} (h : ds[i]? = some d) : atI ds (i : Int) = some d := L2.atI_nat h
theorem stD_lst {n : Nat} {ds : List D} {i : Nat} {v : D} (h : S[n]? = some (.lst ds)) (hi : i < ds.length) : stD (.loc n) (.int (i : Int)) v S = some (S.set n (.lst (ds.set i v))) := by
  have : ixN ds.length (i : Int) = some i := by
    unfold ixN
    rw [if_pos (by omega), if_pos (by omega)]
    simp
  simp only [stD, h, Option.bind_some, this, Option.map_some]
theorem len_loc {n : Nat} {ds : List D} {Q : D → Sto → Prop} (h : S[n]? = some (.lst ds)) : Wp (lenD [.loc n] S) Q ↔ Q (.int ds.length) S := by
  simp only [lenD, h]; exact wp_some
theorem len_tup {ds : List D} {Q : D → Sto → Prop} : Wp (lenD [.tup ds] S) Q ↔ Q (.int ds.length) S := wp_some
theorem len_fl {ds : List D} {Q : D → Sto → Prop} : Wp (lenD [.fl ds] S) Q ↔ Q (.int ds.length) S := wp_some
end
/-! the store -/
theorem sto_new {S : Sto} {o : MO} : (S ++ [o])[S.length]? = some o := by simp
theorem sto_lt {S : Sto} {p : MO} {n : Nat} (h : S[n]? = some p) : n < S.length := (List.getElem?_eq_some_iff.mp h).1
theorem sto_set {S : Sto} {o p : MO} {n : Nat} (h : S[n]? = some p) : (S.set n o)[n]? = some o := List.getElem?_set_self (sto_lt h)
theorem sto_ne {S : Sto} {o : MO} {n m : Nat} (h : n ≠ m) : (S.set n o)[m]? = S[m]? := List.getElem?_set_ne h
/-! the same as equivalences, for simp -/
section
variable {S : Sto}
theorem wq_mod {i j : Int} {Q : D → Sto → Prop} : Wp (modD (.int i) (.int j) S) Q ↔ 0 < j ∧ Q (.int (i % j)) S := by
  simp only [modD, wp_ite, wp_some, wp_none]
  by_cases h : 0 < j
  · simp [h]
  · simp [h]
theorem wq_fdiv {i j : Int} {Q : D → Sto → Prop} : Wp (fdivD (.int i) (.int j) S) Q ↔ (0 < j ∧ j < 1073741824) ∧ Q (.int (i / j)) S := by
  simp only [fdivD, wp_ite, wp_some, wp_none]
  by_cases h : 0 < j ∧ j < 1073741824
  · simp [h]
  · simp only [h, if_false, false_and]
theorem wq_mul {i j : Int} {Q : D → Sto → Prop} : Wp (mulD (.int i) (.int j) S) Q ↔ ((-(2 ^ 64) < i ∧ i < 2 ^ 64) ∨ (-(2 ^ 64) < j ∧ j < 2 ^ 64)) ∧ Q (.int (i * j)) S := by
  simp only [mulD, wp_ite, wp_some, wp_none, small64, Bool.or_eq_true, Bool.and_eq_true, decide_eq_true_eq]
  by_cases h : ((-(2 ^ 64) < i ∧ i < 2 ^ 64) ∨ (-(2 ^ 64) < j ∧ j < 2 ^ 64))
  · simp only [h, if_true, true_and]
  · simp only [h, if_false, false_and]
theorem wq_pow {i j : Int} {Q : D → Sto → Prop} : Wp (powD (.int i) (.int j) S) Q ↔ (0 ≤ j ∧ j ≤ 1000000 ∧ i.natAbs < 2 ^ 64) ∧ Q (.int (i ^ j.toNat)) S := by
  simp only [powD, wp_ite, wp_some, wp_none]
  by_cases h : (0 ≤ j ∧ j ≤ 1000000 ∧ i.natAbs < 2 ^ 64)
  · simp only [h, if_true, true_and, and_self]
  · simp only [h, if_false, false_and]
theorem wq_divmod {i j : Int} {Q : D → Sto → Prop} : Wp (divmodD [.int i, .int j] S) Q ↔ (0 < j ∧ j < 1073741824) ∧ Q (.tup [.int (i / j), .int (i % j)]) S := by
  simp only [divmodD, wp_ite, wp_some, wp_none]
  by_cases h : 0 < j ∧ j < 1073741824
  · simp [h]
  · simp only [h, if_false, false_and]
theorem wq_tup {ds : List D} {Q : D → Sto → Prop} : Wp (tupD ds S) Q ↔ ds.length ≤ 10000000 ∧ Q (.tup ds) S := by
  simp only [tupD, wp_ite, wp_some, wp_none]
  by_cases h : ds.length ≤ 10000000
  · simp [h]
  · simp only [h, if_false, false_and]
theorem wq_lst {ds : List D} {Q : D → Sto → Prop} : Wp (lstD ds S) Q ↔ ds.length ≤ 10000000 ∧ Q (.loc S.length) (S ++ [.lst ds]) := by
  simp only [lstD, wp_ite, wp_some, wp_none]
  by_cases h : ds.length ≤ 10000000
  · simp [h]
  · simp only [h, if_false, false_and]
theorem wq_map {α β : Type} {m : Option α} {f : α → β × Sto} {Q : β → Sto → Prop} : Wp (m.map f) Q ↔ ∃ a, m = some a ∧ Q (f a).1 (f a).2 := by
  constructor
  · rintro ⟨b, S1, e, q⟩
    obtain ⟨a, e1, e2⟩ := Option.map_eq_some_iff.mp e
    exact ⟨a, e1, by rw [e2]; exact q⟩
  · rintro ⟨a, e, q⟩
    exact ⟨_, _, by rw [e]; rfl, q⟩
theorem wq_sbT {ds : List D} {i : Int} {Q : D → Sto → Prop} : Wp (sbD (.tup ds) (.int i) S) Q ↔ ∃ d, atI ds i = some d ∧ Q d S := by
  have e : sbD (.tup ds) (.int i) S = (atI ds i).map fun d => (d, S) := by
    show (ixD (.tup ds) (.int i) S).orElse _ = _
    simp only [ixD]
    cases atI ds i <;> rfl
  rw [e, wq_map]
theorem wq_sbF {ds : List D} {i : Int} {Q : D → Sto → Prop} : Wp (sbD (.fl ds) (.int i) S) Q ↔ ∃ d, atI ds i = some d ∧ Q d S := by
  have e : sbD (.fl ds) (.int i) S = (atI ds i).map fun d => (d, S) := by
    show (ixD (.fl ds) (.int i) S).orElse _ = _
    simp only [ixD]
    cases atI ds i <;> rfl
  rw [e, wq_map]
theorem wq_sbL {n : Nat} {ds : List D} {i : Int} {Q : D → Sto → Prop} (h : S[n]? = some (.lst ds)) : Wp (sbD (.loc n) (.int i) S) Q ↔ ∃ d, atI ds i = some d ∧ Q d S := by
  have e : sbD (.loc n) (.int i) S = (atI ds i).map fun d => (d, S) := by
    show (ixD (.loc n) (.int i) S).orElse _ = _
    simp only [ixD, h]
    cases atI ds i with
    | some d => rfl
    | none => simp [dgD, gnD, nHas, h, nAt, Option.orElse]
  rw [e, wq_map]
theorem wq_rep {n : Nat} {ds : List D} {k : Nat} {Q : D → Sto → Prop} (h : S[n]? = some (.lst ds)) (hk : k < 1000000) (hl : ds.length * k ≤ 10000000) : Wp (mulD (.loc n) (.int (k : Int)) S) Q ↔ Q (.loc S.length) (S ++ [.lst (List.replicate k ds).flatten]) := by
  simp only [mulD, h, Int.toNat_natCast]
  rw [if_pos ⟨by omega, by omega, hl⟩]
  exact wp_some
theorem wq_rep1 {n : Nat} {d : D} {k : Nat} {Q : D → Sto → Prop} (h : S[n]? = some (.lst [d])) (hk : k < 1000000) : Wp (mulD (.loc n) (.int (k : Int)) S) Q ↔ Q (.loc S.length) (S ++ [.lst (List.replicate k d)]) := by
  rw [wq_rep h hk (by simp; omega)]
  have e : ∀ k : Nat, (List.replicate k [d]).flatten = List.replicate k d := by
    intro k
    induction k with
    | zero => rfl
    | succ k ih => simp only [List.replicate_succ, List.flatten_cons, ih]; rfl
  rw [e]
theorem wq_catT {as bs : List D} {Q : D → Sto → Prop} : Wp (addD (.tup as) (.tup bs) S) Q ↔ as.length + bs.length ≤ 10000000 ∧ Q (.tup (as ++ bs)) S := by
  simp only [addD, wp_ite, wp_some, wp_none]
  by_cases hl : as.length + bs.length ≤ 10000000
  · simp [hl]
  · simp only [hl, if_false, false_and]
theorem wq_listL {n : Nat} {ds : List D} {Q : D → Sto → Prop} (h : S[n]? = some (.lst ds)) : Wp (listD [.loc n] S) Q ↔ Q (.loc S.length) (S ++ [.lst ds]) := by
  simp only [listD, itemsOf, h]; exact wp_some
theorem wq_listT {ds : List D} {Q : D → Sto → Prop} : Wp (listD [.tup ds] S) Q ↔ Q (.loc S.length) (S ++ [.lst ds]) := wp_some
theorem wq_tupleL {n : Nat} {ds : List D} {Q : D → Sto → Prop} (h : S[n]? = some (.lst ds)) : Wp (tupleD [.loc n] S) Q ↔ Q (.tup ds) S := by
  simp only [tupleD, itemsOf, h]; exact wp_some
theorem wq_tupleT {ds : List D} {Q : D → Sto → Prop} : Wp (tupleD [.tup ds] S) Q ↔ Q (.tup ds) S := wp_some
theorem wq_slT {ds : List D} {lo hi : Option Int} {Q : D → Sto → Prop} : Wp (slD (.tup ds) lo hi S) Q ↔ Q (.tup (cutD ds lo hi)) S := wp_some
theorem wq_slF {ds : List D} {lo hi : Option Int} {Q : D → Sto → Prop} : Wp (slD (.fl ds) lo hi S) Q ↔ Q (.loc S.length) (S ++ [.lst (cutD ds lo hi)]) := wp_some
theorem wq_slL {n : Nat} {ds : List D} {lo hi : Option Int} {Q : D → Sto → Prop} (h : S[n]? = some (.lst ds)) : Wp (slD (.loc n) lo hi S) Q ↔ Q (.loc S.length) (S ++ [.lst (cutD ds lo hi)]) := by
  simp only [slD, h]; exact wp_some
theorem wq_append {n : Nat} {ds : List D} {y : D} {Q : D → Sto → Prop} (h : S[n]? = some (.lst ds)) : Wp (appendM (.loc n) [y] S) Q ↔ ds.length ≤ 10000000 ∧ Q .non (S.set n (.lst (ds ++ [y]))) := by
  simp only [appendM, lstAt, h, Option.bind_some, wp_ite, wp_some, wp_none]
  by_cases hl : ds.length ≤ 10000000
  · simp [hl]
  · simp only [hl, if_false, false_and]
theorem isLst_loc {n : Nat} {ds : List D} (h : S[n]? = some (.lst ds)) : isLst (.loc n) S = true := by
  simp only [isLst, lenAt, h]; rfl
theorem lsN_of {n : Nat} {ds : List D} (h : S[n]? = some (.lst ds)) : lsN (.loc n) ds.length S = some ds := by
  simp only [lsN, lsOf, h, Option.bind_some, if_true]
theorem at3_0 (a b c : D) : atI [a, b, c] 0 = some a := rfl
theorem at3_1 (a b c : D) : atI [a, b, c] 1 = some b := rfl
theorem at3_2 (a b c : D) : atI [a, b, c] 2 = some c := rfl
theorem sto_app {n : Nat} {o : MO} (h : n < S.length) : (S ++ [o])[n]? = S[n]? := List.getElem?_append_left h
theorem stD_L {n : Nat} {ds : List D} {i : Int} {v : D} (h : S[n]? = some (.lst ds)) : stD (.loc n) (.int i) v S = (ixN ds.length i).map fun j => S.set n (.lst (ds.set j v)) := by
  simp only [stD, h, Option.bind_some]
end
theorem rep_none_s {n : Nat} : List.replicate (n + 1) (none : Option D) = none :: List.replicate n none := rfl
theorem rep_none_z : List.replicate 0 (none : Option D) = [] := rfl
theorem pb_nm {i : Nat} {d : D} {τ : Tau} : Pat.bind (.nm i) d τ = some (τ.set i (some d)) := by simp only [Pat.bind]
theorem pb_tp {ps : List Pat} {ds : List D} {τ : Tau} : Pat.bind (.tp ps) (.tup ds) τ = Pat.binds ps ds τ := by simp only [Pat.bind]
theorem pb_nil {τ : Tau} : Pat.binds [] [] τ = some τ := by simp only [Pat.binds]
theorem pb_cons {p : Pat} {ps : List Pat} {d : D} {ds : List D} {τ : Tau} : Pat.binds (p :: ps) (d :: ds) τ = (Pat.bind p d τ).bind (Pat.binds ps ds) := by simp only [Pat.binds]
/-! loops -/
def LoopQ (I : Tau → Sto → Prop) (Q : Out → Sto → Prop) : Out → Sto → Prop := fun o S => match o with
  | .nx τ => I τ S
  | .ct τ => I τ S
  | .bk τ => Q (.nx τ) S
  | .rt d => Q (.rt d) S
  | .ex c fs τ => Q (.ex c fs τ) S
theorem lq_nx {I : Tau → Sto → Prop} {Q} {τ : Tau} {S : Sto} : LoopQ I Q (.nx τ) S = I τ S := rfl
theorem lq_ct {I : Tau → Sto → Prop} {Q} {τ : Tau} {S : Sto} : LoopQ I Q (.ct τ) S = I τ S := rfl
theorem lq_bk {I : Tau → Sto → Prop} {Q} {τ : Tau} {S : Sto} : LoopQ I Q (.bk τ) S = Q (.nx τ) S := rfl
theorem lq_ex {I : Tau → Sto → Prop} {Q} {τ : Tau} {S : Sto} {c : String} {fs : List (Str × D)} : LoopQ I Q (.ex c fs τ) S = Q (.ex c fs τ) S := rfl
theorem lq_rt {I : Tau → Sto → Prop} {Q} {d : D} {S : Sto} : LoopQ I Q (.rt d) S = Q (.rt d) S := rfl
theorem wp_lo (s : Src) (ds : List D) (g : D → Tau → Option Tau) (b : EvS) (I : Nat → Tau → Sto → Prop) {Q : Out → Sto → Prop}
    (hg : ∀ i d τ S, ds[i]? = some d → I i τ S → s.get S i = some d) (hf : ∀ τ S, I ds.length τ S → s.fin S = true)
    (hs : ∀ i d τ S, ds[i]? = some d → I i τ S → ∃ τ1, g d τ = some τ1 ∧ Wp (b τ1 S) (LoopQ (I (i + 1)) Q))
    (he : ∀ τ S, I ds.length τ S → Q (.nx τ) S) : ∀ (m i : Nat) (τ : Tau) (S : Sto), i + m = ds.length → I i τ S → Wp (loE s g b m i τ S) Q
  | 0, i, τ, S, h, hI => by
    have hi : i = ds.length := by omega
    subst hi
    simp only [loE]
    rw [if_pos (hf τ S hI)]
    exact wp_some.mpr (he τ S hI)
  | m + 1, i, τ, S, h, hI => by
    have hi : i < ds.length := by omega
    have hd : ds[i]? = some ds[i] := List.getElem?_eq_getElem hi
    obtain ⟨τ1, e1, o, S2, e2, q⟩ := hs i _ τ S hd hI
    have hn := wp_lo s ds g b I hg hf hs he m (i + 1)
    simp only [loE, hg i _ τ S hd hI, Option.bind_some, e1, e2]
    cases o with
    | nx τ2 => exact hn τ2 S2 (by omega) q
    | ct τ2 => exact hn τ2 S2 (by omega) q
    | bk τ2 => exact wp_some.mpr q
    | rt d => exact wp_some.mpr q
    | ex c fs τ2 => exact wp_some.mpr q
/-! comprehensions -/
theorem wp_lcL (s : Src) (ds : List D) (g : D → Tau → Option Tau) (t : EvT) (f : EvE) (τ : Tau) (I : Nat → List D → Sto → Prop) {Q : List D → Sto → Prop} (hl : ds.length ≤ 1000000)
    (hg : ∀ i d acc S, ds[i]? = some d → I i acc S → s.get S i = some d) (hf : ∀ acc S, I ds.length acc S → s.fin S = true)
    (hs : ∀ i d acc S, ds[i]? = some d → I i acc S → ∃ τ1, g d τ = some τ1 ∧ Wp (t τ1 S) fun v S1 => if v = true then Wp (f τ1 S1) fun y S2 => I (i + 1) (acc ++ [y]) S2 else I (i + 1) acc S1)
    (he : ∀ acc S, I ds.length acc S → Q acc S) : ∀ (m i : Nat) (acc : List D) (S : Sto), i + m = ds.length → acc.length ≤ i → I i acc S → Wp (lcL s g t f τ m i acc S) Q
  | 0, i, acc, S, h, ha, hI => by
    have hi : i = ds.length := by omega
    subst hi
    simp only [lcL]
    rw [if_pos (hf acc S hI)]
    exact wp_some.mpr (he acc S hI)
  | m + 1, i, acc, S, h, ha, hI => by
    have hi : i < ds.length := by omega
    have hd : ds[i]? = some ds[i] := List.getElem?_eq_getElem hi
    obtain ⟨τ1, e1, v, S2, e2, q⟩ := hs i _ acc S hd hI
    have hn := wp_lcL s ds g t f τ I hl hg hf hs he m (i + 1)
    simp only [lcL, hg i _ acc S hd hI, Option.bind_some, e1, e2]
    cases v with
    | false => exact hn acc S2 (by omega) (by omega) q
    | true =>
      simp only [if_true] at q ⊢
      obtain ⟨y, S3, e3, q⟩ := q
      rw [e3]
      simp only [Option.bind_some]
      rw [if_pos (by omega)]
      exact hn _ S3 (by omega) (by simp; omega) q
/-! loops and comprehensions in two steps: the source, then the turns -/
theorem wp_forS {fi : EvI} {p : Pat} {b : EvS} {τ : Tau} {S : Sto} {Q : Out → Sto → Prop} : Wp (forS fi p b τ S) Q ↔ Wp (fi τ S) fun s S1 => Wp (loE s p.bind b s.len 0 τ S1) Q := by unfold forS; rw [wp_bind]
theorem wp_lcS {fi : EvI} {p : Pat} {t : EvT} {f : EvE} {vs : List Nat} {τ : Tau} {S : Sto} {Q : D → Sto → Prop} : Wp (lcE fi p t f vs τ S) Q ↔ Wp (fi τ S) fun s S1 => Wp (lcL s p.bind t f (wipeT τ vs) s.len 0 [] S1) fun acc S2 => Q (.loc S2.length) (S2 ++ [.lst acc]) := by
  unfold lcE; rw [wp_bind]; simp only [wp_map, newD]
theorem wp_sqI {f : EvE} {τ : Tau} {S : Sto} {Q : Src → Sto → Prop} : Wp (sqI f τ S) Q ↔ Wp (f τ S) fun d S1 => ∃ s, srcOf d S1 = some s ∧ Q s S1 := by unfold sqI; rw [wp_bind]; simp only [wq_map]
theorem wp_enI {f : EvE} {τ : Tau} {S : Sto} {Q : Src → Sto → Prop} : Wp (enI f τ S) Q ↔ Wp (f τ S) fun d S1 => ∃ s, srcEnum d S1 = some s ∧ Q s S1 := by unfold enI; rw [wp_bind]; simp only [wq_map]
theorem wp_reI {f : EvE} {τ : Tau} {S : Sto} {Q : Src → Sto → Prop} : Wp (reI f τ S) Q ↔ Wp (f τ S) fun d S1 => ∃ s, srcRev d S1 = some s ∧ Q s S1 := by unfold reI; rw [wp_bind]; simp only [wq_map]
theorem wp_ziI {f g : EvE} {τ : Tau} {S : Sto} {Q : Src → Sto → Prop} : Wp (ziI f g τ S) Q ↔ Wp (f τ S) fun d S1 => Wp (g τ S1) fun e S2 => ∃ s, srcZip d e S2 = some s ∧ Q s S2 := by unfold ziI; rw [wp_bind]; simp only [wp_bind, wq_map]
theorem wp_rgI1 {f : EvE} {τ : Tau} {S : Sto} {Q : Src → Sto → Prop} : Wp (rgI1 f τ S) Q ↔ Wp (f τ S) fun d S1 => ∃ j, d = .int j ∧ big62 j = true ∧ Q (.fixed (rng 0 j.toNat)) S1 := by
  unfold rgI1; rw [wp_bind]
  constructor
  · rintro ⟨d, S1, e, q⟩
    refine ⟨d, S1, e, ?_⟩
    cases d with
    | int j =>
      simp only [wp_ite, wp_some, wp_none] at q
      split at q
      · rename_i hb; exact ⟨j, rfl, hb, q⟩
      · exact q.elim
    | _ => exact (wp_none.mp q).elim
  · rintro ⟨d, S1, e, j, rfl, hb, q⟩
    refine ⟨_, S1, e, ?_⟩
    simp only [hb, if_true]
    exact wp_some.mpr q
theorem wp_rgI2 {f g : EvE} {τ : Tau} {S : Sto} {Q : Src → Sto → Prop} : Wp (rgI2 f g τ S) Q ↔ Wp (f τ S) fun d S1 => Wp (g τ S1) fun e S2 => ∃ i j, d = .int i ∧ e = .int j ∧ (big62 i = true ∧ big62 j = true) ∧ Q (.fixed (rng i (j - i).toNat)) S2 := by
  unfold rgI2; rw [wp_bind]; simp only [wp_bind]
  constructor
  · rintro ⟨d, S1, e, d2, S2, e2, q⟩
    refine ⟨d, S1, e, d2, S2, e2, ?_⟩
    cases d with
    | int i =>
      cases d2 with
      | int j =>
        simp only [wp_ite, wp_some, wp_none, Bool.and_eq_true] at q
        split at q
        · rename_i hb; exact ⟨i, j, rfl, rfl, hb, q⟩
        · exact q.elim
      | _ => exact (wp_none.mp q).elim
    | _ => exact (wp_none.mp q).elim
  · rintro ⟨d, S1, e, d2, S2, e2, i, j, rfl, rfl, hb, q⟩
    refine ⟨_, S1, e, _, S2, e2, ?_⟩
    simp only [hb, Bool.and_self, if_true]
    exact wp_some.mpr q
theorem src_tup {ds : List D} {S : Sto} : srcOf (.tup ds) S = some (.fixed ds) := rfl
theorem src_fl {ds : List D} {S : Sto} : srcOf (.fl ds) S = some (.fixed ds) := rfl
theorem src_loc {n : Nat} {ds : List D} {S : Sto} (h : S[n]? = some (.lst ds)) : srcOf (.loc n) S = some (.live n ds.length) := by simp only [srcOf, lenAt, h]; rfl
theorem srcE_tup {ds : List D} {S : Sto} : srcEnum (.tup ds) S = some (.fixed (enumsT 0 ds)) := rfl
def Src.en (n l : Nat) : Src := ⟨l, fun S i => (lsN (.loc n) l S).bind fun es => (es[i]?).map (pr (i : Int)), fun S => (lsN (.loc n) l S).isSome⟩
theorem srcE_loc {n : Nat} {ds : List D} {S : Sto} (h : S[n]? = some (.lst ds)) : srcEnum (.loc n) S = some (.en n ds.length) := by
  simp only [srcEnum, lsOf, h]; rfl
theorem srcZ_tup {as bs : List D} {S : Sto} : srcZip (.tup as) (.tup bs) S = some (.fixed (zipsT as bs)) := rfl
section
variable {g : D → Tau → Option Tau} {b : EvS} {τ : Tau} {S : Sto} {Q : Out → Sto → Prop}
theorem lo_fixed (ds : List D) (I : Nat → Tau → Sto → Prop) (h0 : I 0 τ S)
    (hs : ∀ i d τ S, ds[i]? = some d → I i τ S → ∃ τ1, g d τ = some τ1 ∧ Wp (b τ1 S) (LoopQ (I (i + 1)) Q))
    (he : ∀ τ S, I ds.length τ S → Q (.nx τ) S) : Wp (loE (.fixed ds) g b (Src.fixed ds).len 0 τ S) Q :=
  wp_lo (.fixed ds) ds g b I (fun i d τ S h _ => h) (fun _ _ _ => rfl) hs he _ 0 τ S (by simp [Src.fixed]) h0
theorem lo_rng (lo : Int) (n : Nat) (I : Nat → Tau → Sto → Prop) (h0 : I 0 τ S)
    (hs : ∀ i τ S, i < n → I i τ S → ∃ τ1, g (.int (lo + (i : Int))) τ = some τ1 ∧ Wp (b τ1 S) (LoopQ (I (i + 1)) Q))
    (he : ∀ τ S, I n τ S → Q (.nx τ) S) : Wp (loE (.fixed (rng lo n)) g b (Src.fixed (rng lo n)).len 0 τ S) Q :=
  lo_fixed (rng lo n) I h0 (fun i d τ S h hI => by
    rw [rng_get] at h
    split at h
    · cases h; exact hs i τ S (by assumption) hI
    · cases h) (by rw [rng_len]; exact he)
theorem lo_live (n : Nat) (ds : List D) (I : Nat → Tau → Sto → Prop) (h0 : I 0 τ S) (hl : ∀ i τ S, I i τ S → S[n]? = some (.lst ds))
    (hs : ∀ i d τ S, ds[i]? = some d → I i τ S → ∃ τ1, g d τ = some τ1 ∧ Wp (b τ1 S) (LoopQ (I (i + 1)) Q))
    (he : ∀ τ S, I ds.length τ S → Q (.nx τ) S) : Wp (loE (.live n ds.length) g b (Src.live n ds.length).len 0 τ S) Q :=
  wp_lo (.live n ds.length) ds g b I (fun i d τ S h hI => by simp only [Src.live, lenAt, itemAt, hl i τ S hI, if_true]; exact h) (fun τ S hI => by simp [Src.live, lenAt, hl _ τ S hI]) hs he _ 0 τ S (by simp [Src.live]) h0
end
section
variable {g : D → Tau → Option Tau} {t : EvT} {f : EvE} {τ : Tau} {S : Sto} {Q : List D → Sto → Prop}
theorem lc_fixed (ds : List D) (hz : ds.length ≤ 1000000) (I : Nat → List D → Sto → Prop) (h0 : I 0 [] S)
    (hs : ∀ i d acc S, ds[i]? = some d → I i acc S → ∃ τ1, g d τ = some τ1 ∧ Wp (t τ1 S) fun v S1 => if v = true then Wp (f τ1 S1) fun y S2 => I (i + 1) (acc ++ [y]) S2 else I (i + 1) acc S1)
    (he : ∀ acc S, I ds.length acc S → Q acc S) : Wp (lcL (.fixed ds) g t f τ (Src.fixed ds).len 0 [] S) Q :=
  wp_lcL (.fixed ds) ds g t f τ I hz (fun i d acc S h _ => h) (fun _ _ _ => rfl) hs he _ 0 [] S (by simp [Src.fixed]) (by simp) h0
theorem lc_rng (lo : Int) (n : Nat) (hz : n ≤ 1000000) (I : Nat → List D → Sto → Prop) (h0 : I 0 [] S)
    (hs : ∀ i acc S, i < n → I i acc S → ∃ τ1, g (.int (lo + (i : Int))) τ = some τ1 ∧ Wp (t τ1 S) fun v S1 => if v = true then Wp (f τ1 S1) fun y S2 => I (i + 1) (acc ++ [y]) S2 else I (i + 1) acc S1)
    (he : ∀ acc S, I n acc S → Q acc S) : Wp (lcL (.fixed (rng lo n)) g t f τ (Src.fixed (rng lo n)).len 0 [] S) Q :=
  lc_fixed (rng lo n) (by rw [rng_len]; exact hz) I h0 (fun i d acc S h hI => by
    rw [rng_get] at h
    split at h
    · cases h; exact hs i acc S (by assumption) hI
    · cases h) (by rw [rng_len]; exact he)
theorem lc_live (n : Nat) (ds : List D) (hz : ds.length ≤ 1000000) (I : Nat → List D → Sto → Prop) (h0 : I 0 [] S) (hl : ∀ i acc S, I i acc S → S[n]? = some (.lst ds))
    (hs : ∀ i d acc S, ds[i]? = some d → I i acc S → ∃ τ1, g d τ = some τ1 ∧ Wp (t τ1 S) fun v S1 => if v = true then Wp (f τ1 S1) fun y S2 => I (i + 1) (acc ++ [y]) S2 else I (i + 1) acc S1)
    (he : ∀ acc S, I ds.length acc S → Q acc S) : Wp (lcL (.live n ds.length) g t f τ (Src.live n ds.length).len 0 [] S) Q :=
  wp_lcL (.live n ds.length) ds g t f τ I hz (fun i d acc S h hI => by simp only [Src.live, lenAt, itemAt, hl i acc S hI, if_true]; exact h) (fun acc S hI => by simp [Src.live, lenAt, hl _ acc S hI]) hs he _ 0 [] S (by simp [Src.live]) (by simp) h0
end
/-! dicts with pairs as keys -/
theorem lk_nil {κ : Type} [DecidableEq κ] {k : κ} : lk ([] : List (κ × D)) k = none := rfl
theorem lk_cons {κ : Type} [DecidableEq κ] {p : κ × D} {r : List (κ × D)} {k : κ} : lk (p :: r) k = if p.1 = k then some p.2 else lk r k := by
  by_cases e : p.1 = k
  · simp [lk, List.find?_cons, e]
  · simp [lk, List.find?_cons, e]
theorem lk_any {κ : Type} [DecidableEq κ] (k : κ) : ∀ kvs : List (κ × D), (kvs.any fun kv => decide (kv.1 = k)) = (lk kvs k).isSome
  | [] => rfl
  | p :: r => by
    rw [List.any_cons, lk_cons, lk_any k r]
    by_cases e : p.1 = k <;> simp [e]
theorem lk_map {κ : Type} [DecidableEq κ] (k j : κ) (y : D) : ∀ kvs : List (κ × D), lk (kvs.map fun kv => if kv.1 = k then (kv.1, y) else kv) j = (lk kvs j).map fun x => if j = k then y else x
  | [] => rfl
  | p :: r => by
    have ih := lk_map k j y r
    rw [List.map_cons, lk_cons, lk_cons, ih]
    by_cases h : p.1 = k
    · rw [if_pos h]
      by_cases e : p.1 = j
      · have : j = k := e.symm.trans h
        simp [e, this]
      · simp [e]
    · rw [if_neg h]
      by_cases e : p.1 = j
      · have : ¬ j = k := fun z => h (e.trans z)
        simp [e, this]
      · simp [e]
theorem lk_app {κ : Type} [DecidableEq κ] (k j : κ) (y : D) : ∀ kvs : List (κ × D), lk (kvs ++ [(k, y)]) j = ((lk kvs j).or (if k = j then some y else none))
  | [] => by simp [lk_cons, lk_nil]
  | p :: r => by
    rw [List.cons_append, lk_cons, lk_cons, lk_app k j y r]
    by_cases e : p.1 = j <;> simp [e]
theorem lk_pt {κ : Type} [DecidableEq κ] (kvs : List (κ × D)) (k j : κ) (y : D) : lk (ptK kvs k y) j = if j = k then some y else lk kvs j := by
  unfold ptK
  rw [lk_any]
  by_cases h : (lk kvs k).isSome = true
  · rw [if_pos h, lk_map]
    by_cases e : j = k
    · subst e
      obtain ⟨x, hx⟩ := Option.isSome_iff_exists.mp h
      simp [hx]
    · simp [e]
  · rw [if_neg h, lk_app]
    by_cases e : j = k
    · subst e
      have : lk kvs j = none := by cases q : lk kvs j with | none => rfl | some x => rw [q] at h; exact absurd rfl h
      simp [this]
    · have : ¬ k = j := fun z => e z.symm
      simp [e, this]
theorem pt_len {κ : Type} [DecidableEq κ] (kvs : List (κ × D)) (k : κ) (y : D) : (ptK kvs k y).length ≤ kvs.length + 1 := by
  unfold ptK
  split <;> simp
section
variable {S : Sto}
end
/-! slices of parts -/
theorem cut_take {ds : List D} {k : Nat} : cutD ds none (some (k : Int)) = ds.take k := by
  unfold cutD
  rw [HT.sIx_none, HT.sIx_nat, List.drop_zero, Nat.sub_zero, List.take_eq_take_iff]
  omega
end SW
local macro_rules
  | `(tactic| simp! only [$as,*]) => `(tactic| try simp only [SW.wp_seqS, SW.cont_nx, SW.cont_rt, SW.cont_bk, SW.cont_ct, SW.cont_ex, SW.lq_ex, SW.lq_nx, SW.lq_ct, SW.lq_bk, SW.lq_rt, SW.wp_ifS, SW.wp_tB, SW.wp_b2E, SW.wp_u1E, SW.wp_aE, SW.wp_nilA, SW.wp_consA, SW.wp_vE, SW.wp_cE, SW.wp_notT, SW.wp_andT, SW.wp_orT, SW.wp_iteE, SW.wp_andE, SW.wp_orE, SW.wp_notE, SW.wp_chE, SW.wp_yesT, SW.wp_noO, SW.wp_someO, SW.wp_slE, SW.wp_mE, SW.wp_nxS, SW.wp_brS, SW.wp_ctS, SW.wp_retN, SW.wp_exS, SW.wp_rtS, SW.wp_stS, SW.wp_parS, SW.wp_asS, SW.wp_augS, SW.wp_patG, SW.pb_nm, SW.pb_tp, SW.pb_nil, SW.pb_cons, Option.bind_some, SW.pr, SW.wp_tupG, SW.wp_nilG, SW.wp_consG, SW.wp_subG, SW.wp_some, SW.wp_none, SW.wp_forS, SW.wp_lcS, SW.wp_sqI, SW.wp_enI, SW.wp_reI, SW.wp_ziI, SW.wp_rgI1, SW.wp_rgI2, SW.src_tup, SW.src_fl, SW.srcE_tup, SW.srcZ_tup, SW.wipeT, SW.wq_catT, SW.wq_listT, SW.wq_tupleT, SW.wq_slT, SW.wq_slF, SW.wp_add, SW.wp_addI, SW.wp_sub, SW.wp_lt, SW.wp_le, SW.wp_gt, SW.wp_ge, SW.wp_neg, SW.wq_mod, SW.wq_fdiv, SW.wq_mul, SW.wq_pow, SW.wp_abs, SW.wp_max2, SW.wp_min2, SW.wp_intb, SW.wq_divmod, SW.wq_tup, SW.wq_lst, SW.wp_is_non, SW.wp_isnot_non, SW.wq_sbT, SW.wq_sbF, SW.len_tup, SW.len_fl, SW.wp_nK, SW.wp_nT, List.map_cons, List.map_nil, List.cons_append, List.nil_append, SW.rep_none_s, SW.rep_none_z, List.length_cons, List.length_nil, List.set_cons_zero, List.set_cons_succ, List.getElem?_cons_zero, List.getElem?_cons_succ, Option.some.injEq, exists_eq_left', exists_eq_left, exists_eq', exists_and_left, SW.D.bl.injEq, SW.D.int.injEq, SW.D.tup.injEq, SW.D.loc.injEq, List.cons.injEq, and_true, true_and, decide_eq_true_eq, Bool.not_eq_true', Bool.false_eq_true, if_false, if_true, reduceIte, Nat.reduceSub, Nat.reduceAdd, Nat.reduceLeDiff, $as,*])
local macro_rules
  | `(tactic| dsimp! only [$as,*]) => `(tactic| try simp only [SW.cont_rt, SW.cont_bk, SW.cont_ct, SW.cont_ex, SW.lq_ex, SW.lq_nx, SW.lq_ct, SW.lq_bk, SW.lq_rt, SW.wp_ifS, SW.wp_tB, SW.wp_b2E, SW.wp_u1E, SW.wp_aE, SW.wp_nilA, SW.wp_consA, SW.wp_vE, SW.wp_cE, SW.wp_notT, SW.wp_andT, SW.wp_orT, SW.wp_iteE, SW.wp_andE, SW.wp_orE, SW.wp_notE, SW.wp_chE, SW.wp_yesT, SW.wp_noO, SW.wp_someO, SW.wp_slE, SW.wp_mE, SW.wp_nxS, SW.wp_brS, SW.wp_ctS, SW.wp_retN, SW.wp_exS, SW.wp_rtS, SW.wp_stS, SW.wp_parS, SW.wp_asS, SW.wp_augS, SW.wp_patG, SW.pb_nm, SW.pb_tp, SW.pb_nil, SW.pb_cons, Option.bind_some, SW.pr, SW.wp_tupG, SW.wp_nilG, SW.wp_consG, SW.wp_subG, SW.wp_some, SW.wp_none, SW.wp_forS, SW.wp_lcS, SW.wp_sqI, SW.wp_enI, SW.wp_reI, SW.wp_ziI, SW.wp_rgI1, SW.wp_rgI2, SW.src_tup, SW.src_fl, SW.srcE_tup, SW.srcZ_tup, SW.wipeT, SW.wq_catT, SW.wq_listT, SW.wq_tupleT, SW.wq_slT, SW.wq_slF, SW.wp_add, SW.wp_addI, SW.wp_sub, SW.wp_lt, SW.wp_le, SW.wp_gt, SW.wp_ge, SW.wp_neg, SW.wq_mod, SW.wq_fdiv, SW.wq_mul, SW.wq_pow, SW.wp_abs, SW.wp_max2, SW.wp_min2, SW.wp_intb, SW.wq_divmod, SW.wq_tup, SW.wq_lst, SW.wp_is_non, SW.wp_isnot_non, SW.wq_sbT, SW.wq_sbF, SW.len_tup, SW.len_fl, SW.wp_nK, SW.wp_nT, List.map_cons, List.map_nil, List.cons_append, List.nil_append, SW.rep_none_s, SW.rep_none_z, List.length_cons, List.length_nil, List.set_cons_zero, List.set_cons_succ, List.getElem?_cons_zero, List.getElem?_cons_succ, Option.some.injEq, exists_eq_left', exists_eq_left, exists_eq', exists_and_left, SW.D.bl.injEq, SW.D.int.injEq, SW.D.tup.injEq, SW.D.loc.injEq, List.cons.injEq, and_true, true_and, decide_eq_true_eq, Bool.not_eq_true', Bool.false_eq_true, if_false, if_true, reduceIte, Nat.reduceSub, Nat.reduceAdd, Nat.reduceLeDiff, $as,*])
namespace SW
open PySem L2
def boxD (x y z : Int) : MO := .lst [.int x, .int y, .int z]
theorem ix3_0 : ixN 3 0 = some 0 := rfl
theorem ix3_1 : ixN 3 1 = some 1 := rfl
theorem ix3_2 : ixN 3 2 = some 2 := rfl
theorem wp_take {S : Sto} {b : Nat} {x y z m : Int} {Q : D → Sto → Prop} (h : S[b]? = some (boxD x y z)) (hx : 0 ≤ x) (hy : 0 ≤ y ∧ y < 2147483629) (hz : 0 ≤ z ∧ z < 1000000) (hm : 0 < m ∧ m < 1000000)
    (k : ∀ v x' y' z', 0 ≤ v ∧ v < m → 0 ≤ x' → 0 ≤ y' ∧ y' < 2147483629 → 0 ≤ z' ∧ z' ≤ z + 1 → Q (.int v) (S.set b (boxD x' y' z'))) : Wp (g_l_take [.loc b, .int m] S) Q := by
  unfold g_l_take
  refine (wp_fnD (by rfl)).mpr ?_
  unfold b_l_take boxD at *
  (simp! only [wq_sbL h, at3_0])
  split
  · simp only [stD_L h, List.length_cons, List.length_nil, Nat.reduceAdd, ix3_0, Option.map_some, Option.some.injEq, exists_eq_left', List.set_cons_zero]
    refine ⟨⟨hm.1, by omega⟩, k _ _ _ _ ⟨Int.emod_nonneg _ (by omega), Int.emod_lt_of_pos _ hm.1⟩ (Int.ediv_nonneg hx (by omega)) hy ⟨hz.1, by omega⟩⟩
  · (simp! only [wq_sbL h, at3_2])
    simp only [stD_L h, List.length_cons, List.length_nil, Nat.reduceAdd, ix3_2, Option.map_some, Option.some.injEq, exists_eq_left', List.set_cons_zero, List.set_cons_succ]
    have h2 : (S.set b (.lst [.int x, .int y, .int (z + 1)]))[b]? = some (.lst [.int x, .int y, .int (z + 1)]) := sto_set h
    (simp! only [wq_sbL h2, at3_1, at3_2, stD_L h2, ix3_1, Option.map_some])
    have a0 : 0 ≤ (y + 39373 * (z + 1)) * (48271 + (z + 1)) % 2147483647 := Int.emod_nonneg _ (by omega)
    have a1 : (y + 39373 * (z + 1)) * (48271 + (z + 1)) % 2147483647 < 2147483647 := Int.emod_lt_of_pos _ (by omega)
    generalize (y + 39373 * (z + 1)) * (48271 + (z + 1)) % 2147483647 = w at a0 a1 ⊢
    have b0 : 0 ≤ (w * (w % 40009 + 7) + (z + 1)) % 2147483629 := Int.emod_nonneg _ (by omega)
    have b1 : (w * (w % 40009 + 7) + (z + 1)) % 2147483629 < 2147483629 := Int.emod_lt_of_pos _ (by omega)
    generalize (w * (w % 40009 + 7) + (z + 1)) % 2147483629 = u at b0 b1 ⊢
    have h3 : ((S.set b (.lst [.int x, .int y, .int (z + 1)])).set b (.lst [.int x, .int u, .int (z + 1)]))[b]? = some (.lst [.int x, .int u, .int (z + 1)]) := sto_set h2
    (simp! only [wq_sbL h3, at3_1, at3_2])
    rw [List.set_set]
    refine ⟨by omega, by omega, by omega, by omega, by omega, by omega, by omega, by omega, by omega, ⟨by omega, by omega⟩, hm.1, ?_⟩
    exact k _ _ _ _ ⟨Int.emod_nonneg _ (by omega), Int.emod_lt_of_pos _ hm.1⟩ hx ⟨b0, b1⟩ ⟨by omega, by omega⟩
/-- a box at b, its count not above z; only it may be changed -/
def Bx (S : Sto) (b : Nat) (z : Nat) : Prop := ∃ x y z' : Int, S[b]? = some (boxD x y z') ∧ 0 ≤ x ∧ (0 ≤ y ∧ y < 2147483629) ∧ 0 ≤ z' ∧ z' ≤ z
theorem Bx.le {S : Sto} {b z z' : Nat} (h : Bx S b z) (l : z ≤ z') : Bx S b z' := let ⟨x, y, w, e, a, c, d, f⟩ := h; ⟨x, y, w, e, a, c, d, by omega⟩
theorem Bx.lt {S : Sto} {b z : Nat} (h : Bx S b z) : b < S.length := let ⟨x, y, w, e, _⟩ := h; sto_lt e
theorem Bx.of {S S' : Sto} {b z : Nat} (h : Bx S b z) (e : S'[b]? = S[b]?) : Bx S' b z := let ⟨x, y, w, e', r⟩ := h; ⟨x, y, w, e.trans e', r⟩
/-- the store behind: it may have grown, and only b may be another -/
structure Fr (S S' : Sto) (b : Nat) : Prop where
  len : S.length ≤ S'.length
  at_ : ∀ n, n < S.length → n ≠ b → S'[n]? = S[n]?
theorem Fr.refl (S : Sto) (b : Nat) : Fr S S b := ⟨Nat.le_refl _, fun _ _ _ => rfl⟩
theorem Fr.trans {S S1 S2 : Sto} {b : Nat} (h : Fr S S1 b) (g : Fr S1 S2 b) : Fr S S2 b := ⟨Nat.le_trans h.len g.len, fun n hn hb => (g.at_ n (Nat.lt_of_lt_of_le hn h.len) hb).trans (h.at_ n hn hb)⟩
theorem Fr.set (S : Sto) (b : Nat) (o : MO) : Fr S (S.set b o) b := ⟨by simp, fun n _ hb => sto_ne (Ne.symm hb)⟩
theorem Fr.app (S : Sto) (b : Nat) (o : MO) : Fr S (S ++ [o]) b := ⟨by simp, fun n hn _ => sto_app hn⟩
theorem Fr.get {S S' : Sto} {b n : Nat} {o : MO} (h : Fr S S' b) (hb : n ≠ b) (e : S[n]? = some o) : S'[n]? = some o := (h.at_ n (sto_lt e) hb).trans e
/-- a new place is changed -/
theorem Fr.new {S S' : Sto} {b n : Nat} {o : MO} (h : Fr S S' b) (hn : S.length ≤ n) : Fr S (S'.set n o) b := ⟨by simpa using h.len, fun m hm hb => by
  rw [sto_ne (by omega)]; exact h.at_ m hm hb⟩
theorem take_ok {S : Sto} {b z m : Nat} {Q : D → Sto → Prop} (h : Bx S b z) (hz : z < 1000000) (hm : 0 < m) (hm2 : m < 1000000)
    (k : ∀ (v : Nat) (S' : Sto), v < m → Bx S' b (z + 1) → S'.length = S.length → (∀ n, n ≠ b → S'[n]? = S[n]?) → Q (.int v) S') : Wp (g_l_take [.loc b, .int m] S) Q := by
  obtain ⟨x, y, z', e, hx, hy, h0, h1⟩ := h
  refine wp_take e hx hy ⟨h0, by omega⟩ ⟨by omega, by omega⟩ fun v x' y' z2 hv a1 a2 a3 => ?_
  obtain ⟨w, rfl⟩ : ∃ w : Nat, v = w := ⟨v.toNat, by omega⟩
  exact k w _ (by omega) ⟨x', y', z2, sto_set e, a1, a2, a3.1, by omega⟩ (by simp) fun n hn => sto_ne (Ne.symm hn)
end SW
namespace SW
open PySem L2

abbrev End := Nat × Nat
abbrev Wb := List (List End)
def eD (e : End) : D := .tup [.int e.1, .int e.2]
def rD (r : List End) : D := .tup (r.map eD)
def wD (w : Wb) : D := .tup (w.map rD)
/-- the thing at a room's door -/
def aT (w : Wb) (r i : Nat) : Option End := (w[r]?).bind fun x => x[i]?
theorem aT_some {w : Wb} {r i : Nat} {e : End} : aT w r i = some e ↔ ∃ x, w[r]? = some x ∧ x[i]? = some e := Option.bind_eq_some_iff
/-- each half tie stands once -/
def Dist (hs : Wb) : Prop := ∀ r i r' i' e, aT hs r i = some e → aT hs r' i' = some e → r = r' ∧ i = i'
def partner (e : End) : End := (e.1, if e.2 = 0 then 1 else if e.2 = 1 then 0 else e.2)
open Classical in
noncomputable def posOf (hs : Wb) (e : End) : End := if h : ∃ p : End, aT hs p.1 p.2 = some e then Classical.choose h else (0, 0)
theorem posOf_at {hs : Wb} {e : End} (h : ∃ p : End, aT hs p.1 p.2 = some e) : aT hs (posOf hs e).1 (posOf hs e).2 = some e := by
  unfold posOf; rw [dif_pos h]; exact Classical.choose_spec h
theorem posOf_eq {hs : Wb} (d : Dist hs) {e : End} {r i : Nat} (h : aT hs r i = some e) : posOf hs e = (r, i) := by
  have := posOf_at ⟨(r, i), h⟩
  obtain ⟨a, b⟩ := d _ _ _ _ _ this h
  exact Prod.ext a b
noncomputable def joinW (hs : Wb) : Wb := hs.map fun x => x.map fun e => posOf hs (partner e)
/-- lists of half ties in the store -/
structure Hv (S : Sto) (h : Nat) (ls : List Nat) (hs : Wb) : Prop where
  top : S[h]? = some (.lst (ls.map .loc))
  len : ls.length = hs.length
  at_ : ∀ (r l : Nat) (x : List End), ls[r]? = some l → hs[r]? = some x → S[l]? = some (.lst (x.map eD))
theorem Hv.of {S S' : Sto} {h : Nat} {ls : List Nat} {hs : Wb} (H : Hv S h ls hs) (k : ∀ n, n < S.length → S'[n]? = S[n]?) : Hv S' h ls hs :=
  ⟨(k _ (sto_lt H.top)).trans H.top, H.len, fun r l x a b => (k _ (sto_lt (H.at_ r l x a b))).trans (H.at_ r l x a b)⟩
structure JoinOk (hs : Wb) : Prop where
  dist : Dist hs
  side : ∀ r i e, aT hs r i = some e → e.2 ≤ 2
  part : ∀ r i e, aT hs r i = some e → ∃ p : End, aT hs p.1 p.2 = some (partner e)
  few : hs.length ≤ 100
  less : ∀ (r : Nat) (x : List End), hs[r]? = some x → x.length ≤ 1000
abbrev kE (e : End) : List Key := [Sum.inl (e.1 : Int), Sum.inl (e.2 : Int)]
theorem kE_inj {a b : End} (h : kE a = kE b) : a = b := by
  simp only [kE, List.cons.injEq, Sum.inl.injEq, and_true] at h
  exact Prod.ext (by omega) (by omega)
/-- what the dict holds when the doors ahead of (r, i) are in it -/
def Held (hs : Wb) (kvs : List (List Key × D)) (r i : Nat) : Prop := ∀ r' i' e, (r' < r ∨ (r' = r ∧ i' < i)) → aT hs r' i' = some e → lk kvs (kE e) = some (eD (r', i'))
theorem Held.put {hs : Wb} {kvs : List (List Key × D)} {r i : Nat} {e : End} (d : Dist hs) (h : Held hs kvs r i) (he : aT hs r i = some e) : Held hs (ptK kvs (kE e) (eD (r, i))) r (i + 1) := by
  intro r' i' e' hlt h'
  rw [lk_pt]
  by_cases q : kE e' = kE e
  · have := kE_inj q
    subst this
    obtain ⟨rfl, rfl⟩ := d _ _ _ _ _ h' he
    rw [if_pos rfl]
  · rw [if_neg q]
    refine h r' i' e' ?_ h'
    rcases hlt with z | ⟨z, y⟩
    · exact .inl z
    · subst z
      by_cases q2 : i' = i
      · subst q2
        rw [he] at h'; cases h'
        exact absurd rfl q
      · exact .inr ⟨rfl, by omega⟩
def I1 (S0 : Sto) (hs : Wb) (h : Nat) (a : Nat) (i : Nat) (τ : Tau) (S : Sto) : Prop := ∃ o2 o3 o4 o5 o6 o7 o8 kvs, τ = [some (.loc h), some (.loc a), o2, o3, o4, o5, o6, o7, o8] ∧ S[a]? = some (.dT kvs) ∧ Held hs kvs i 0 ∧ kvs.length ≤ i * 1000 ∧ ∀ n, n < S0.length → S[n]? = S0[n]?
def I2 (S0 : Sto) (hs : Wb) (h a wl : Nat) (kvs : List (List Key × D)) (i : Nat) (τ : Tau) (S : Sto) : Prop := ∃ o2 o4 o5 o6 o7 o8, τ = [some (.loc h), some (.loc a), o2, some (.loc wl), o4, o5, o6, o7, o8] ∧ S[a]? = some (.dT kvs) ∧ S[wl]? = some (.lst (((joinW hs).take i).map rD)) ∧ ∀ n, n < S0.length → S[n]? = S0[n]?
def I3 (S0 : Sto) (hs : Wb) (a wl : Nat) (kvs : List (List Key × D)) (i : Nat) (x : List End) (j : Nat) (acc : List D) (S : Sto) : Prop := acc = (x.take j).map (fun e => eD (posOf hs (partner e))) ∧ S[a]? = some (.dT kvs) ∧ S[wl]? = some (.lst (((joinW hs).take i).map rD)) ∧ ∀ n, n < S0.length → S[n]? = S0[n]?
end SW
namespace SW
open PySem L2

/-- the half ties of tie t, with their rooms -/
def sidesOf (many t : Nat) (p : End) : List (End × Nat) := if p.2 = many then [((t, 2), p.1)] else [((t, 0), p.1), ((t, 1), p.2)]
def doneTo (many : Nat) (ps : List End) : Nat → List (End × Nat)
  | 0 => []
  | k + 1 => doneTo many ps k ++ (match ps[k]? with | some p => sidesOf many k p | none => [])
theorem mem_sides {many t : Nat} {p : End} {e : End} {r : Nat} (h : (e, r) ∈ sidesOf many t p) : e.1 = t := by
  unfold sidesOf at h
  split at h
  · simp at h; rw [h.1]
  · simp at h
    rcases h with h | h <;> rw [h.1]
theorem mem_done {many : Nat} {ps : List End} {e : End} {r : Nat} : ∀ {k : Nat}, (e, r) ∈ doneTo many ps k ↔ e.1 < k ∧ ∃ p, ps[e.1]? = some p ∧ (e, r) ∈ sidesOf many e.1 p
  | 0 => by simp [doneTo]
  | k + 1 => by
    simp only [doneTo, List.mem_append, mem_done (k := k)]
    constructor
    · rintro (⟨h1, h2⟩ | h)
      · exact ⟨by omega, h2⟩
      · cases hp : ps[k]? with
        | none => rw [hp] at h; simp at h
        | some p =>
          rw [hp] at h
          have := mem_sides h
          rw [this]
          exact ⟨by omega, p, hp, h⟩
    · rintro ⟨h1, p, h2, h3⟩
      by_cases hk : e.1 < k
      · exact .inl ⟨hk, p, h2, h3⟩
      · have : e.1 = k := by omega
        rw [this] at h2 h3
        rw [h2]
        exact .inr h3
theorem sides_len {many t : Nat} {p : End} : (sidesOf many t p).length ≤ 2 := by unfold sidesOf; split <;> simp
theorem done_len {many : Nat} {ps : List End} : ∀ k : Nat, (doneTo many ps k).length ≤ 2 * k
  | 0 => by simp [doneTo]
  | k + 1 => by
    simp only [doneTo, List.length_append]
    have := done_len (many := many) (ps := ps) k
    cases hp : ps[k]? with
    | none => simp; omega
    | some p => have := sides_len (many := many) (t := k) (p := p); simp only; omega
/-- lists of half ties that hold what is done, each once -/
structure HI (many : Nat) (hs : Wb) (done : List (End × Nat)) : Prop where
  len : hs.length = many
  nd : ∀ (r : Nat) (x : List End), hs[r]? = some x → x.Nodup
  cnt : ∀ (r : Nat) (x : List End), hs[r]? = some x → x.length = done.countP fun q => decide (q.2 = r)
  mem : ∀ (r : Nat) (x : List End) (e : End), hs[r]? = some x → (e ∈ x ↔ (e, r) ∈ done)
def insAt (x : List End) (i : Nat) (e : End) : List End := x.take i ++ [e] ++ x.drop i
theorem ins_perm (x : List End) (i : Nat) (e : End) : (insAt x i e).Perm (e :: x) := by
  unfold insAt
  rw [List.append_assoc]
  have := @List.perm_middle _ e (x.take i) (x.drop i)
  rw [List.take_append_drop] at this
  exact this
theorem HI.ins {many : Nat} {hs : Wb} {done : List (End × Nat)} (h : HI many hs done) {r i : Nat} {x : List End} {e : End} (hx : hs[r]? = some x) (hn : (e, r) ∉ done) : HI many (hs.set r (insAt x i e)) (done ++ [(e, r)]) := by
  have hr : r < hs.length := (List.getElem?_eq_some_iff.mp hx).1
  have hex : e ∉ x := fun m => hn ((h.mem r x e hx).mp m)
  have at_ : ∀ (r' : Nat) (y : List End), (hs.set r (insAt x i e))[r']? = some y → (r' = r ∧ y = insAt x i e) ∨ (r' ≠ r ∧ hs[r']? = some y) := fun r' y hy => by
    by_cases q : r = r'
    · subst q
      rw [List.getElem?_set_self hr] at hy
      exact .inl ⟨rfl, (Option.some.inj hy).symm⟩
    · rw [List.getElem?_set_ne q] at hy
      exact .inr ⟨fun z => q z.symm, hy⟩
  refine ⟨by simpa using h.len, fun r' y hy => ?_, fun r' y hy => ?_, fun r' y e' hy => ?_⟩
  · rcases at_ r' y hy with ⟨rfl, rfl⟩ | ⟨q, hy⟩
    · exact (ins_perm x i e).nodup_iff.mpr (List.nodup_cons.mpr ⟨hex, h.nd r' x hx⟩)
    · exact h.nd r' y hy
  · rcases at_ r' y hy with ⟨rfl, rfl⟩ | ⟨q, hy⟩
    · rw [(ins_perm x i e).length_eq, List.length_cons, h.cnt r' x hx, List.countP_append]; simp
    · rw [h.cnt r' y hy, List.countP_append]
      have : ¬ r = r' := fun z => q z.symm
      simp [this]
  · rw [List.mem_append, List.mem_singleton, Prod.mk.injEq]
    rcases at_ r' y hy with ⟨rfl, rfl⟩ | ⟨q, hy⟩
    · rw [(ins_perm x i e).mem_iff, List.mem_cons, h.mem r' x e' hx]
      constructor
      · rintro (z | z)
        · exact .inr ⟨z, rfl⟩
        · exact .inl z
      · rintro (z | z)
        · exact .inr z
        · exact .inl z.1
    · rw [h.mem r' y e' hy]
      constructor
      · exact .inl
      · rintro (z | z)
        · exact z
        · exact absurd z.2 q
/-- the ends lead back -/
def Back (w : Wb) : Prop := ∀ r i s j, aT w r i = some (s, j) → aT w s j = some (r, i)
def Adj (w : Wb) (r s : Nat) : Prop := ∃ i j, aT w r i = some (s, j)
theorem aT_join {hs : Wb} {r i : Nat} : aT (joinW hs) r i = (aT hs r i).map fun e => posOf hs (partner e) := by
  unfold aT joinW
  rw [List.getElem?_map]
  cases h : hs[r]? with
  | none => rfl
  | some x => simp
section
variable {many : Nat} {hs : Wb} {ps : List End}
theorem HI.at_ {done : List (End × Nat)} (h : HI many hs done) {e : End} {r : Nat} (hr : r < many) (hd : (e, r) ∈ done) : ∃ i, aT hs r i = some e := by
  have hr' : r < hs.length := by rw [h.len]; exact hr
  have hx : hs[r]? = some hs[r] := List.getElem?_eq_getElem hr'
  have := (h.mem r _ e hx).mpr hd
  obtain ⟨i, hi⟩ := List.getElem?_of_mem this
  exact ⟨i, aT_some.mpr ⟨_, hx, hi⟩⟩
theorem HI.of_at {done : List (End × Nat)} (h : HI many hs done) {e : End} {r i : Nat} (ha : aT hs r i = some e) : (e, r) ∈ done ∧ r < many := by
  obtain ⟨x, hx, hi⟩ := aT_some.mp ha
  exact ⟨(h.mem r x e hx).mp (List.mem_of_getElem? hi), by rw [← h.len]; exact (List.getElem?_eq_some_iff.mp hx).1⟩
theorem side_iff {t t' s r : Nat} {p : End} : (((t', s), r) : End × Nat) ∈ sidesOf many t p ↔ t' = t ∧ ((p.2 = many ∧ s = 2 ∧ r = p.1) ∨ (p.2 ≠ many ∧ ((s = 0 ∧ r = p.1) ∨ (s = 1 ∧ r = p.2)))) := by
  unfold sidesOf
  by_cases h : p.2 = many
  · rw [if_pos h]
    simp only [List.mem_singleton, Prod.mk.injEq, h, true_and, ne_eq, not_true_eq_false, false_and, or_false, and_assoc]
  · rw [if_neg h]
    simp only [List.mem_cons, List.not_mem_nil, or_false, Prod.mk.injEq, h, false_and, false_or, ne_eq, not_false_eq_true, true_and, and_assoc]
    constructor
    · rintro (⟨a, b, c⟩ | ⟨a, b, c⟩)
      · exact ⟨a, .inl ⟨b, c⟩⟩
      · exact ⟨a, .inr ⟨b, c⟩⟩
    · rintro ⟨a, ⟨b, c⟩ | ⟨b, c⟩⟩
      · exact .inl ⟨a, b, c⟩
      · exact .inr ⟨a, b, c⟩
theorem done_uniq {e : End} {r r' k : Nat} (h : (e, r) ∈ doneTo many ps k) (h' : (e, r') ∈ doneTo many ps k) : r = r' := by
  obtain ⟨_, p, hp, m⟩ := mem_done.mp h
  obtain ⟨_, p', hp', m'⟩ := mem_done.mp h'
  rw [hp] at hp'; cases hp'
  obtain ⟨t, s⟩ := e
  obtain ⟨_, m⟩ := side_iff.mp m
  obtain ⟨_, m'⟩ := side_iff.mp m'
  omega
theorem done_part {e : End} {r k : Nat} (h : (e, r) ∈ doneTo many ps k) : ∃ r', (partner e, r') ∈ doneTo many ps k := by
  obtain ⟨hk, p, hp, m⟩ := mem_done.mp h
  obtain ⟨t, s⟩ := e
  obtain ⟨_, m⟩ := side_iff.mp m
  rcases m with ⟨m1, rfl, m3⟩ | ⟨m1, ⟨rfl, m3⟩ | ⟨rfl, m3⟩⟩
  · exact ⟨p.1, mem_done.mpr ⟨hk, p, hp, side_iff.mpr ⟨rfl, .inl ⟨m1, rfl, rfl⟩⟩⟩⟩
  · exact ⟨p.2, mem_done.mpr ⟨hk, p, hp, side_iff.mpr ⟨rfl, .inr ⟨m1, .inr ⟨rfl, rfl⟩⟩⟩⟩⟩
  · exact ⟨p.1, mem_done.mpr ⟨hk, p, hp, side_iff.mpr ⟨rfl, .inr ⟨m1, .inl ⟨rfl, rfl⟩⟩⟩⟩⟩
structure PsOk (many : Nat) (ps : List End) : Prop where
  one : ∀ (t : Nat) (p : End), ps[t]? = some p → p.1 < many
  other : ∀ (t : Nat) (p : End), ps[t]? = some p → p.2 ≤ many
  few : ps.length ≤ 100
  many : many ≤ 100
theorem done_lt {e : End} {r k : Nat} (P : PsOk many ps) (h : (e, r) ∈ doneTo many ps k) : r < many ∧ e.2 ≤ 2 := by
  obtain ⟨hk, p, hp, m⟩ := mem_done.mp h
  have h1 := P.one _ p hp
  have h2 := P.other _ p hp
  obtain ⟨t, s⟩ := e
  obtain ⟨_, m⟩ := side_iff.mp m
  show r < many ∧ s ≤ 2
  omega
theorem HI.join (P : PsOk many ps) (h : HI many hs (doneTo many ps ps.length)) : JoinOk hs := by
  refine ⟨fun r i r' i' e a b => ?_, fun r i e a => ?_, fun r i e a => ?_, by rw [h.len]; exact P.many, fun r x hx => ?_⟩
  · obtain ⟨m1, l1⟩ := h.of_at a
    obtain ⟨m2, l2⟩ := h.of_at b
    have := done_uniq m1 m2
    subst this
    refine ⟨rfl, ?_⟩
    obtain ⟨x, hx, hi⟩ := aT_some.mp a
    obtain ⟨x', hx', hi'⟩ := aT_some.mp b
    rw [hx] at hx'; cases hx'
    exact (List.getElem?_inj (List.getElem?_eq_some_iff.mp hi).1 (h.nd r x hx)).mp (by rw [hi, hi'])
  · exact (done_lt P (h.of_at a).1).2
  · obtain ⟨r', m⟩ := done_part (h.of_at a).1
    obtain ⟨j, hj⟩ := h.at_ (done_lt P m).1 m
    exact ⟨(r', j), hj⟩
  · rw [h.cnt r x hx]
    refine Nat.le_trans (List.countP_le_length) (Nat.le_trans (done_len _) ?_)
    have := P.few
    omega
theorem partner_partner {e : End} (h : e.2 ≤ 2) : partner (partner e) = e := by
  obtain ⟨t, s⟩ := e
  simp only at h
  rcases (show s = 0 ∨ s = 1 ∨ s = 2 by omega) with rfl | rfl | rfl <;> rfl
theorem HI.back (P : PsOk many ps) (h : HI many hs (doneTo many ps ps.length)) : Back (joinW hs) := by
  have J := h.join P
  intro r i s j a
  rw [aT_join] at a
  obtain ⟨e, he, e2⟩ := Option.map_eq_some_iff.mp a
  have hp := posOf_at (J.part r i e he)
  rw [e2] at hp
  rw [aT_join, hp]
  show some (posOf hs (partner (partner e))) = _
  rw [partner_partner (J.side r i e he), posOf_eq J.dist he]
theorem HI.adj (P : PsOk many ps) (h : HI many hs (doneTo many ps ps.length)) {t : Nat} {p : End} (hp : ps[t]? = some p) (hm : p.2 < many) : Adj (joinW hs) p.1 p.2 := by
  have J := h.join P
  have ht : t < ps.length := (List.getElem?_eq_some_iff.mp hp).1
  have hq : ¬ p.2 = many := by omega
  have m0 : (((t, 0), p.1) : End × Nat) ∈ doneTo many ps ps.length := mem_done.mpr ⟨ht, p, hp, by unfold sidesOf; rw [if_neg hq]; simp⟩
  have m1 : (((t, 1), p.2) : End × Nat) ∈ doneTo many ps ps.length := mem_done.mpr ⟨ht, p, hp, by unfold sidesOf; rw [if_neg hq]; simp⟩
  obtain ⟨i, hi⟩ := h.at_ (P.one t p hp) m0
  obtain ⟨j, hj⟩ := h.at_ hm m1
  refine ⟨i, j, ?_⟩
  rw [aT_join, hi]
  show some (posOf hs (partner (t, 0))) = _
  have : partner (t, 0) = (t, 1) := rfl
  rw [this, posOf_eq J.dist hj]
end
end SW
namespace SW
open PySem L2

/-- the lists of half ties at L, L + 1, .., their list at L + many -/
structure Hw (S : Sto) (L many : Nat) (hs : Wb) : Prop where
  top : S[L + many]? = some (.lst ((List.range many).map fun i => .loc (L + i)))
  len : hs.length = many
  at_ : ∀ (r : Nat) (x : List End), hs[r]? = some x → S[L + r]? = some (.lst (x.map eD))
theorem Hw.hv {S : Sto} {L many : Nat} {hs : Wb} (H : Hw S L many hs) : Hv S (L + many) ((List.range many).map (L + ·)) hs := by
  refine ⟨by rw [H.top, List.map_map]; rfl, by simp [H.len], fun r l x a b => ?_⟩
  rw [List.getElem?_map] at a
  obtain ⟨i, h1, h2⟩ := Option.map_eq_some_iff.mp a
  have hr : r < many := by rw [← H.len]; exact (List.getElem?_eq_some_iff.mp b).1
  rw [List.getElem?_range hr] at h1
  cases h1
  rw [← h2]
  exact H.at_ r x b
theorem Hw.of {S S' : Sto} {L many : Nat} {hs : Wb} (H : Hw S L many hs) (k : ∀ n, L ≤ n → n < S.length → S'[n]? = S[n]?) : Hw S' L many hs :=
  ⟨(k _ (by omega) (sto_lt H.top)).trans H.top, H.len, fun r x a => (k _ (by omega) (sto_lt (H.at_ r x a))).trans (H.at_ r x a)⟩
theorem Hw.ins {S : Sto} {L many : Nat} {hs : Wb} (H : Hw S L many hs) {r : Nat} {x y : List End} (hx : hs[r]? = some x) : Hw (S.set (L + r) (.lst (y.map eD))) L many (hs.set r y) := by
  have hr : r < hs.length := (List.getElem?_eq_some_iff.mp hx).1
  have hl := H.len
  refine ⟨by rw [sto_ne (by omega)]; exact H.top, by simpa using hl, fun r' z hz => ?_⟩
  by_cases q : r = r'
  · subst q
    rw [List.getElem?_set_self hr] at hz
    cases hz
    exact sto_set (H.at_ r x hx)
  · rw [List.getElem?_set_ne q] at hz
    rw [sto_ne (by omega)]
    exact H.at_ r' z hz
def PC (S0 : Sto) (j : Nat) (acc : List D) (S : Sto) : Prop := acc = (List.range j).map (fun i => D.loc (S0.length + i)) ∧ S.length = S0.length + j ∧ (∀ n, n < S0.length → S[n]? = S0[n]?) ∧ ∀ i, i < j → S[S0.length + i]? = some (.lst [])
end SW
namespace SW
open PySem L2

def nD (n : Nat) : D := .int (n : Int)
/-! a list of numbers told by a function -/
def uD (many : Nat) (c : Nat → Nat) : MO := .lst ((List.range many).map fun r => nD (c r))
/-! how many half ties a room has -/
def cR (many : Nat) (ps : List End) (r : Nat) : Nat := (doneTo many ps ps.length).countP fun q => decide (q.2 = r)
/-- numbers below m, counted one by one, are no more than all -/
theorem sum_cnt {α : Type} (f : α → Nat) (l : List α) : ∀ m : Nat, (((List.range m).map fun r => l.countP fun q => decide (f q = r)).sum) = l.countP fun q => decide (f q < m)
  | 0 => by simp
  | m + 1 => by
    rw [List.range_succ, List.map_append, List.sum_append, sum_cnt f l m]
    simp only [List.map_cons, List.map_nil, List.sum_cons, List.sum_nil, Nat.add_zero]
    induction l with
    | nil => rfl
    | cons a l ih =>
      simp only [List.countP_cons]
      have : (if decide (f a < m + 1) = true then 1 else 0) = (if decide (f a < m) = true then 1 else 0) + (if decide (f a = m) = true then 1 else 0) := by
        by_cases h1 : f a < m
        · have h2 : ¬ f a = m := by omega
          have h3 : f a < m + 1 := by omega
          simp [h1, h2, h3]
        · by_cases h2 : f a = m
          · simp [h2]
          · have h3 : ¬ f a < m + 1 := by omega
            simp [h1, h2, h3]
      omega
end SW
namespace SW
open PySem L2

inductive Con (w : Wb) : Nat → Prop
  | zero : Con w 0
  | step {r s : Nat} : Con w r → Adj w r s → Con w s
/-- a web: its ends lead back, it hangs together -/
structure IsWeb (w : Wb) : Prop where
  back : Back w
  pos : 0 < w.length
  few : w.length ≤ 24
  doors : ∀ (r : Nat) (x : List End), w[r]? = some x → x.length ≤ 6
  con : ∀ r, r < w.length → Con w r
/-- ties so far: their store, their counts, a tree on the rooms below k -/
structure WB (S0 S : Sto) (b many most z k : Nat) (ps : List End) : Prop where
  us : S[S0.length + 1]? = some (uD many (cR many ps))
  pr : S[S0.length + 2]? = some (.lst (ps.map eD))
  one : ∀ (t : Nat) (p : End), ps[t]? = some p → p.1 < many
  other : ∀ (t : Nat) (p : End), ps[t]? = some p → p.2 ≤ many
  low : ∀ r, r < many → cR many ps r ≤ most
  bx : Bx S b z
  fr : Fr S0 S b
  len : S0.length + 3 ≤ S.length
  tree : ∀ r, 0 < r → r < k → ∃ (t : Nat) (p : End), ps[t]? = some p ∧ p.2 = r ∧ p.1 < r
def W1 (S0 : Sto) (b many most z : Nat) (i : Nat) (τ : Tau) (S : Sto) : Prop := ∃ (ps : List End) (o5 o6 o7 o8 o9 o10 o11 : Option D), τ = [some (.loc b), some (.int (many : Int)), some (.int (most : Int)), some (.loc (S0.length + 1)), some (.loc (S0.length + 2)), o5, o6, o7, o8, o9, o10, o11] ∧ WB S0 S b many most (z + i) (i + 1) ps ∧ ps.length = i ∧ ∀ r, i + 1 ≤ r → r < many → cR many ps r = 0
def W2 (S0 : Sto) (b many most z : Nat) (i : Nat) (τ : Tau) (S : Sto) : Prop := ∃ (ps : List End) (o5 o6 o7 o8 o9 o10 o11 : Option D), τ = [some (.loc b), some (.int (many : Int)), some (.int (most : Int)), some (.loc (S0.length + 1)), some (.loc (S0.length + 2)), o5, o6, o7, o8, o9, o10, o11] ∧ WB S0 S b many most (z + 2 * i) many ps ∧ ps.length ≤ 24 + i
def freeL (many most k : Nat) (ps : List End) : List Nat := (List.range k).filter fun r => decide (cR many ps r < most)
def FI (S1 : Sto) (many most : Nat) (ps : List End) (k : Nat) (acc : List D) (S : Sto) : Prop := acc = (freeL many most k ps).map nD ∧ S = S1
end SW
namespace SW
open PySem L2

theorem wq_row {w : Wb} {x : List End} {r : Nat} {S : Sto} {Q : D → Sto → Prop} (h : w[r]? = some x) : Wp (sbD (wD w) (.int (r : Int)) S) Q ↔ Q (rD x) S := by
  unfold wD
  have : atI (w.map rD) (r : Int) = some (rD x) := atI_of (by rw [List.getElem?_map, h]; rfl)
  rw [wq_sbT, this]
  simp
theorem wq_door {x : List End} {e : End} {i : Nat} {S : Sto} {Q : D → Sto → Prop} (h : x[i]? = some e) : Wp (sbD (rD x) (.int (i : Int)) S) Q ↔ Q (eD e) S := by
  unfold rD
  have : atI (x.map eD) (i : Int) = some (eD e) := atI_of (by rw [List.getElem?_map, h]; rfl)
  rw [wq_sbT, this]
  simp
theorem len_row {x : List End} {S : Sto} {Q : D → Sto → Prop} : Wp (lenD [rD x] S) Q ↔ Q (.int (x.length : Nat)) S := by
  unfold rD; rw [len_tup, List.length_map]
/-! _law_ends -/
def leE (a b : End) : Prop := a.1 < b.1 ∨ (a.1 = b.1 ∧ a.2 ≤ b.2)
instance {a b : End} : Decidable (leE a b) := inferInstanceAs (Decidable (_ ∨ _))
def rowL (w : Wb) (r : Nat) : Nat := ((w[r]?).map List.length).getD 0
theorem rowL_of {w : Wb} {r : Nat} {x : List End} (h : w[r]? = some x) : rowL w r = x.length := by unfold rowL; rw [h]; rfl
def tieAt (w : Wb) (r d : Nat) : Option (End × End) := (aT w r d).bind fun q => if leE (r, d) q then some ((r, d), q) else none
def endsRow (w : Wb) (r n : Nat) : List (End × End) := (List.range n).filterMap (tieAt w r)
/-- what _law_ends finds -/
def endsN (w : Wb) (m : Nat) : List (End × End) := (List.range m).flatMap fun r => endsRow w r (rowL w r)
theorem endsRow_succ (w : Wb) (r n : Nat) : endsRow w r (n + 1) = endsRow w r n ++ (tieAt w r n).toList := by
  unfold endsRow
  rw [List.range_succ, List.filterMap_append]
  congr 1
theorem endsN_succ (w : Wb) (m : Nat) : endsN w (m + 1) = endsN w m ++ endsRow w m (rowL w m) := by
  unfold endsN
  rw [List.range_succ, List.flatMap_append]
  simp
/-- the ties of the doors ahead of (r, d) -/
structure EsTo (w : Wb) (es : List (End × End)) (r d : Nat) : Prop where
  mem : ∀ p q : End, (p, q) ∈ es ↔ aT w p.1 p.2 = some q ∧ leE p q ∧ (p.1 < r ∨ (p.1 = r ∧ p.2 < d))
  nd : (es.map Prod.fst).Nodup
  few : es.length ≤ r * 6 + d
  is : es = endsN w r ++ endsRow w r d
theorem EsTo.no {w : Wb} {es : List (End × End)} {r d : Nat} {q : End} (h : EsTo w es r d) (ha : aT w r d = some q) (hl : ¬ leE (r, d) q) : EsTo w es r (d + 1) := by
  refine ⟨fun p q' => ?_, h.nd, by have := h.few; omega, by rw [endsRow_succ, ← List.append_assoc, ← h.is]; simp [tieAt, ha, hl]⟩
  rw [h.mem]
  constructor
  · rintro ⟨a, b, c⟩
    exact ⟨a, b, by omega⟩
  · rintro ⟨a, b, c⟩
    by_cases z : p = (r, d)
    · subst z
      rw [ha] at a; cases a
      exact absurd b hl
    · refine ⟨a, b, ?_⟩
      rcases c with c | ⟨c1, c2⟩
      · exact .inl c
      · refine .inr ⟨c1, ?_⟩
        have : p.2 ≠ d := fun y => z (Prod.ext c1 y)
        omega
theorem EsTo.next {w : Wb} {es : List (End × End)} {r : Nat} {x : List End} (h : EsTo w es r x.length) (hx : w[r]? = some x) (hl : x.length ≤ 6) : EsTo w es (r + 1) 0 := by
  refine ⟨fun p q' => ?_, h.nd, by have := h.few; omega, by rw [endsN_succ, rowL_of hx, ← h.is]; simp [endsRow]⟩
  rw [h.mem]
  constructor
  · rintro ⟨a, b, c⟩
    exact ⟨a, b, by omega⟩
  · rintro ⟨a, b, c⟩
    refine ⟨a, b, ?_⟩
    by_cases z : p.1 = r
    · refine .inr ⟨z, ?_⟩
      rw [z] at a
      obtain ⟨y, hy, hi⟩ := aT_some.mp a
      rw [hx] at hy; cases hy
      exact (List.getElem?_eq_some_iff.mp hi).1
    · omega
structure EsOk (w : Wb) (es : List (End × End)) : Prop where
  mem : ∀ p q : End, (p, q) ∈ es ↔ aT w p.1 p.2 = some q ∧ leE p q
  nd : (es.map Prod.fst).Nodup
  few : es.length ≤ 144
  is : es = endsN w w.length
end SW
namespace SW
open PySem L2

/-! numbers below n, each once -/
theorem nodup_le {n : Nat} {xs : List Nat} (h : xs.Nodup) (hx : ∀ x ∈ xs, x < n) : xs.length ≤ n := by
  have e := sum_cnt (fun x : Nat => x) xs n
  have e2 : (xs.countP fun q => decide (q < n)) = xs.length := List.countP_eq_length.mpr fun a ha => by simpa using hx a ha
  rw [e2] at e
  rw [← e]
  have all : ∀ m, ((List.range m).map fun r => xs.countP fun q => decide (q = r)).sum ≤ m := by
    intro m
    induction m with
    | zero => simp
    | succ m ih =>
      rw [List.range_succ, List.map_append, List.sum_append]
      have h1 : (xs.countP fun q => decide (q = m)) ≤ 1 := by
        have := List.nodup_iff_count.mp h m
        have e3 : xs.count m = xs.countP fun q => decide (q = m) := by
          unfold List.count
          congr 1
        omega
      simp only [List.map_cons, List.map_nil, List.sum_cons, List.sum_nil]
      omega
  exact all n
theorem nodup_full {n : Nat} {xs : List Nat} (h : xs.Nodup) (hx : ∀ x ∈ xs, x < n) (hl : xs.length = n) {r : Nat} (hr : r < n) : r ∈ xs := by
  by_cases m : r ∈ xs
  · exact m
  · exfalso
    have := nodup_le (n := n) (xs := r :: xs) (List.nodup_cons.mpr ⟨m, h⟩) fun x hm => by
      rcases List.mem_cons.mp hm with rfl | hm
      · exact hr
      · exact hx x hm
    simp at this
    omega
/-! _law_reached -/
inductive Rch (w : Wb) (a : Nat) : Nat → Prop
  | refl : Rch w a a
  | step {r s : Nat} : Rch w a r → Adj w r s → Rch w a s
theorem Rch.con {w : Wb} {r : Nat} (h : Rch w 0 r) : Con w r := by
  induction h with
  | refl => exact .zero
  | step _ a ih => exact .step ih a
theorem Con.rch {w : Wb} {r : Nat} (h : Con w r) : Rch w 0 r := by
  induction h with
  | zero => exact .refl
  | step _ a ih => exact .step ih a
/-- every door leads to a room -/
def Closed (w : Wb) : Prop := ∀ r i s j, aT w r i = some (s, j) → s < w.length
theorem Back.closed {w : Wb} (h : Back w) : Closed w := fun r i s j a => by
  obtain ⟨x, hx, _⟩ := aT_some.mp (h r i s j a)
  exact (List.getElem?_eq_some_iff.mp hx).1
end SW
namespace SW
open PySem L2

structure TurnOk (many : Nat) (own : Bool) (L : List Nat) : Prop where
  len : L.length = many
  lt : ∀ (k x : Nat), L[k]? = some x → x < many
  inj : ∀ k k' x : Nat, L[k]? = some x → L[k']? = some x → k = k'
  surj : ∀ x : Nat, x < many → ∃ k : Nat, L[k]? = some x
  own : own = true → ∀ k x : Nat, L[k]? = some x → L[x]? = some k
structure PermOk (i : Nat) (xs : List Nat) : Prop where
  nd : xs.Nodup
  lt : ∀ x ∈ xs, x < i
  len : xs.length = i
theorem PermOk.ins {i v : Nat} {xs : List Nat} (h : PermOk i xs) : PermOk (i + 1) (xs.take v ++ [i] ++ xs.drop v) := by
  have p : (xs.take v ++ [i] ++ xs.drop v).Perm (i :: xs) := by
    rw [List.append_assoc]
    have := @List.perm_middle _ i (xs.take v) (xs.drop v)
    rw [List.take_append_drop] at this
    exact this
  refine ⟨p.nodup_iff.mpr (List.nodup_cons.mpr ⟨fun m => by have := h.lt _ m; omega, h.nd⟩), fun x hx => ?_, by rw [p.length_eq, List.length_cons, h.len]⟩
  rcases List.mem_cons.mp (p.mem_iff.mp hx) with rfl | m
  · omega
  · have := h.lt _ m; omega
theorem PermOk.inj {i : Nat} {xs : List Nat} (h : PermOk i xs) {k k' x : Nat} (a : xs[k]? = some x) (b : xs[k']? = some x) : k = k' :=
  (List.getElem?_inj (List.getElem?_eq_some_iff.mp a).1 h.nd).mp (by rw [a, b])
theorem PermOk.surj {i : Nat} {xs : List Nat} (h : PermOk i xs) {x : Nat} (hx : x < i) : ∃ k : Nat, xs[k]? = some x :=
  List.getElem?_of_mem (nodup_full h.nd h.lt h.len hx)
theorem PermOk.turn {many : Nat} {xs : List Nat} (h : PermOk many xs) : TurnOk many false xs :=
  ⟨h.len, fun k x a => h.lt x (List.mem_of_getElem? a), fun k k' x a b => h.inj a b, fun x hx => h.surj hx, fun e => (nomatch e)⟩
/-- the places of the order are changed in pairs, i pairs so far -/
def flip (i p : Nat) : Nat := if p < 2 * i then (if p % 2 = 0 then p + 1 else p - 1) else p
def Flipped (many : Nat) (xs : List Nat) (i : Nat) (L : List Nat) : Prop := L.length = many ∧ ∀ p a : Nat, xs[p]? = some a → L[a]? = xs[flip i p]?
theorem Flipped.zero {many : Nat} {xs : List Nat} (h : PermOk many xs) : Flipped many xs 0 (List.range many) := by
  refine ⟨by simp, fun p a ha => ?_⟩
  have : flip 0 p = p := by unfold flip; rw [if_neg (by omega)]
  rw [this, ha, List.getElem?_range (h.lt a (List.mem_of_getElem? ha))]
theorem Flipped.succ {many i a b : Nat} {xs L : List Nat} (h : PermOk many xs) (f : Flipped many xs i L) (ha : xs[2 * i]? = some a) (hb : xs[2 * i + 1]? = some b) : Flipped many xs (i + 1) ((L.set a b).set b a) := by
  have hab : a ≠ b := fun e => by subst e; have := h.inj ha hb; omega
  have la := h.lt a (List.mem_of_getElem? ha)
  have lb := h.lt b (List.mem_of_getElem? hb)
  have hl := f.1
  refine ⟨by simpa using hl, fun p c hc => ?_⟩
  by_cases h1 : c = b
  · subst h1
    have := h.inj hc hb
    subst this
    rw [List.getElem?_set_self (by simp; omega)]
    have : flip (i + 1) (2 * i + 1) = 2 * i := by unfold flip; rw [if_pos (by omega), if_neg (by omega)]; omega
    rw [this, ha]
  · rw [List.getElem?_set_ne (fun z => h1 z.symm)]
    by_cases h2 : c = a
    · subst h2
      have := h.inj hc ha
      subst this
      rw [List.getElem?_set_self (by omega)]
      have : flip (i + 1) (2 * i) = 2 * i + 1 := by unfold flip; rw [if_pos (by omega), if_pos (by omega)]
      rw [this, hb]
    · rw [List.getElem?_set_ne (fun z => h2 z.symm), f.2 p c hc]
      have n1 : p ≠ 2 * i := fun e => by subst e; rw [ha] at hc; cases hc; exact h2 rfl
      have n2 : p ≠ 2 * i + 1 := fun e => by subst e; rw [hb] at hc; cases hc; exact h1 rfl
      congr 1
      unfold flip
      by_cases h3 : p < 2 * i
      · rw [if_pos h3, if_pos (show p < 2 * (i + 1) by omega)]
      · rw [if_neg h3, if_neg (show ¬ p < 2 * (i + 1) by omega)]
theorem flip_flip {many p : Nat} (h : p < many) : flip (many / 2) (flip (many / 2) p) = p ∧ flip (many / 2) p < many := by
  unfold flip
  by_cases h1 : p < 2 * (many / 2)
  · rw [if_pos h1]
    by_cases h2 : p % 2 = 0
    · rw [if_pos h2, if_pos (by omega), if_neg (by omega)]; omega
    · rw [if_neg h2, if_pos (by omega), if_pos (by omega)]; omega
  · rw [if_neg h1, if_neg h1]; omega
theorem Flipped.turn {many : Nat} {xs L : List Nat} (h : PermOk many xs) (f : Flipped many xs (many / 2) L) : TurnOk many true L := by
  have hl := f.1
  have hxl := h.len
  have inv : ∀ k x : Nat, L[k]? = some x → L[x]? = some k ∧ x < many := fun k x hk => by
    have hkm : k < many := by rw [← hl]; exact (List.getElem?_eq_some_iff.mp hk).1
    obtain ⟨p, hp⟩ := h.surj hkm
    have hpm : p < many := by rw [← h.len]; exact (List.getElem?_eq_some_iff.mp hp).1
    obtain ⟨f1, f2⟩ := flip_flip hpm
    have e1 := f.2 p k hp
    rw [hk] at e1
    have e2 := f.2 _ x e1.symm
    rw [f1, hp] at e2
    exact ⟨e2, h.lt x (List.mem_of_getElem? e1.symm)⟩
  refine ⟨hl, fun k x a => (inv k x a).2, fun k k' x a b => ?_, fun x hx => ?_, fun _ k x a => (inv k x a).1⟩
  · have h1 := (inv k x a).1
    have h2 := (inv k' x b).1
    rw [h1] at h2
    exact Option.some.inj h2
  · have hk : L[x]? = some L[x] := List.getElem?_eq_getElem (by omega)
    exact ⟨_, (inv x _ hk).1⟩
def T1 (S0 : Sto) (b many : Nat) (own : Bool) (z : Nat) (i : Nat) (τ : Tau) (S : Sto) : Prop := ∃ (xs : List Nat) (o4 o5 o6 o7 : Option D), τ = [some (.loc b), some (nD many), some (.bl own), some (.loc S0.length), o4, o5, o6, o7] ∧ PermOk i xs ∧ S[S0.length]? = some (.lst (xs.map nD)) ∧ Bx S b (z + i) ∧ S.length = S0.length + 1 ∧ Fr S0 S b
def T2 (S0 : Sto) (b many : Nat) (own : Bool) (z : Nat) (xs : List Nat) (i : Nat) (τ : Tau) (S : Sto) : Prop := ∃ (L : List Nat) (o4 o6 o7 : Option D), τ = [some (.loc b), some (nD many), some (.bl own), some (.loc S0.length), o4, some (.loc (S0.length + 1)), o6, o7] ∧ Flipped many xs i L ∧ S[S0.length]? = some (.lst (xs.map nD)) ∧ S[S0.length + 1]? = some (.lst (L.map nD)) ∧ Bx S b (z + many) ∧ S.length = S0.length + 2 ∧ Fr S0 S b
end SW
namespace SW
open PySem L2

/-! _law_sheeted: the plain side -/
theorem split_n {a b k l n : Nat} (ha : a < n) (hb : b < n) (h : a + k * n = b + l * n) : a = b ∧ k = l := by
  have h1 : (a + k * n) % n = a := by rw [Nat.add_mul_mod_self_right, Nat.mod_eq_of_lt ha]
  have h2 : (b + l * n) % n = b := by rw [Nat.add_mul_mod_self_right, Nat.mod_eq_of_lt hb]
  have h3 : a = b := by rw [← h1, ← h2, h]
  subst h3
  have h4 : k * n = l * n := by omega
  exact ⟨rfl, Nat.eq_of_mul_eq_mul_right (by omega) h4⟩
/-- sheets of a web: its ties, a turn for each -/
structure Sheets (w : Wb) (es : List (End × End)) (σ : List (List Nat)) (many : Nat) : Prop where
  back : Back w
  eo : EsOk w es
  len : σ.length = es.length
  turn : ∀ (t : Nat) (one other : End) (L : List Nat), es[t]? = some (one, other) → σ[t]? = some L → TurnOk many (decide (one = other)) L
def Rt (w : Wb) (es : List (End × End)) (σ : List (List Nat)) (x d : Nat) (e : End) : Prop := ∃ (t : Nat) (one other : End) (k s : Nat) (L : List Nat), es[t]? = some (one, other) ∧ σ[t]? = some L ∧ L[k]? = some s ∧
  ((x = one.1 + k * w.length ∧ d = one.2 ∧ e = (other.1 + s * w.length, other.2)) ∨ (x = other.1 + s * w.length ∧ d = other.2 ∧ e = (one.1 + k * w.length, one.2)))
section
variable {w : Wb} {es : List (End × End)} {σ : List (List Nat)} {many : Nat}
theorem Rt.swap {x d y j : Nat} (h : Rt w es σ x d (y, j)) : Rt w es σ y j (x, d) := by
  obtain ⟨t, one, other, k, s, L, h1, h2, h3, ⟨rfl, rfl, e⟩ | ⟨rfl, rfl, e⟩⟩ := h
  · cases e
    exact ⟨t, one, other, k, s, L, h1, h2, h3, .inr ⟨rfl, rfl, rfl⟩⟩
  · cases e
    exact ⟨t, one, other, k, s, L, h1, h2, h3, .inl ⟨rfl, rfl, rfl⟩⟩
theorem aT_lt {r i : Nat} {e : End} (h : aT w r i = some e) : r < w.length := by
  obtain ⟨x, hx, _⟩ := aT_some.mp h
  exact (List.getElem?_eq_some_iff.mp hx).1
theorem Sheets.at_ (H : Sheets w es σ many) {t : Nat} {one other : End} (h : es[t]? = some (one, other)) : aT w one.1 one.2 = some other ∧ aT w other.1 other.2 = some one ∧ leE one other ∧ one.1 < w.length ∧ other.1 < w.length := by
  obtain ⟨a, b⟩ := (H.eo.mem one other).mp (List.mem_of_getElem? h)
  have c := H.back _ _ other.1 other.2 a
  exact ⟨a, c, b, aT_lt a, aT_lt c⟩
theorem Sheets.uniq (H : Sheets w es σ many) {t t' : Nat} {one other other' : End} (h : es[t]? = some (one, other)) (h' : es[t']? = some (one, other')) : t = t' := by
  have a : (es.map Prod.fst)[t]? = some one := by rw [List.getElem?_map, h]; rfl
  have b : (es.map Prod.fst)[t']? = some one := by rw [List.getElem?_map, h']; rfl
  exact (List.getElem?_inj (List.getElem?_eq_some_iff.mp a).1 H.eo.nd).mp (by rw [a, b])
theorem leE_anti {a b : End} (h : leE a b) (h' : leE b a) : a = b := by
  unfold leE at h h'
  exact Prod.ext (by omega) (by omega)
theorem leE_total (a b : End) : leE a b ∨ leE b a := by
  unfold leE; omega
theorem Rt.fun_ (H : Sheets w es σ many) {x d : Nat} {e e' : End} (h : Rt w es σ x d e) (h' : Rt w es σ x d e') : e = e' := by
  obtain ⟨t, one, other, k, s, L, h1, h2, h3, c⟩ := h
  obtain ⟨t', one', other', k', s', L', h1', h2', h3', c'⟩ := h'
  obtain ⟨a1, a2, a3, a4, a5⟩ := H.at_ h1
  obtain ⟨b1, b2, b3, b4, b5⟩ := H.at_ h1'
  rcases c with ⟨x1, d1, e1⟩ | ⟨x1, d1, e1⟩ <;> rcases c' with ⟨x2, d2, e2⟩ | ⟨x2, d2, e2⟩
  · obtain ⟨y1, y2⟩ := split_n a4 b4 (x1.symm.trans x2)
    have : one = one' := Prod.ext y1 (d1.symm.trans d2)
    subst this
    have := H.uniq h1 h1'
    subst this
    rw [h1] at h1'; cases h1'
    rw [h2] at h2'; cases h2'
    subst y2
    rw [h3] at h3'; cases h3'
    rw [e1, e2]
  · obtain ⟨y1, y2⟩ := split_n a4 b5 (x1.symm.trans x2)
    have : one = other' := Prod.ext y1 (d1.symm.trans d2)
    subst this
    rw [a1] at b2; cases b2
    have := leE_anti a3 b3
    subst this
    have := H.uniq h1 h1'
    subst this
    rw [h2] at h2'; cases h2'
    have ow := (H.turn t one one L h1 h2).own (by simp)
    have := ow k' s' h3'
    subst y2
    rw [h3] at this; cases this
    rw [e1, e2]
  · obtain ⟨y1, y2⟩ := split_n a5 b4 (x1.symm.trans x2)
    have : other = one' := Prod.ext y1 (d1.symm.trans d2)
    subst this
    rw [b1] at a2; cases a2
    have := leE_anti a3 b3
    subst this
    have := H.uniq h1 h1'
    subst this
    rw [h2] at h2'; cases h2'
    have ow := (H.turn t one one L h1 h2).own (by simp)
    have := ow k s h3
    subst y2
    rw [h3'] at this; cases this
    rw [e1, e2]
  · obtain ⟨y1, y2⟩ := split_n a5 b5 (x1.symm.trans x2)
    have : other = other' := Prod.ext y1 (d1.symm.trans d2)
    subst this
    rw [a2] at b2; cases b2
    have := H.uniq h1 h1'
    subst this
    rw [h2] at h2'; cases h2'
    subst y2
    have := (H.turn t one other L h1 h2).inj k k' s h3 h3'
    subst this
    rw [e1, e2]
/-- rows being filled -/
abbrev Mat := Nat → List (Option End)
def putM (M : Mat) (x d : Nat) (e : End) : Mat := fun y => if y = x then (M x).set d (some e) else M y
def Set_ (M : Mat) (x d : Nat) : Prop := ∃ e, (M x)[d]? = some (some e)
structure MI (w : Wb) (es : List (End × End)) (σ : List (List Nat)) (many t k : Nat) (M : Mat) : Prop where
  len : ∀ x, x < many * w.length → (M x).length = rowL w (x % w.length)
  ok : ∀ (x d : Nat) (e : End), (M x)[d]? = some (some e) → Rt w es σ x d e
  done : ∀ (t' k' s : Nat) (one other : End) (L : List Nat), (t' < t ∨ (t' = t ∧ k' < k)) → es[t']? = some (one, other) → σ[t']? = some L → L[k']? = some s → Set_ M (one.1 + k' * w.length) one.2 ∧ Set_ M (other.1 + s * w.length) other.2
theorem put_len {M : Mat} {x d y : Nat} {e : End} : (putM M x d e y).length = (M y).length := by
  unfold putM
  split
  · rename_i h; subst h; simp
  · rfl
theorem put_get {M : Mat} {x d y d' : Nat} {e e' : End} (h : (putM M x d e y)[d']? = some (some e')) : (y = x ∧ d' = d ∧ e' = e) ∨ (M y)[d']? = some (some e') := by
  unfold putM at h
  split at h
  · rename_i hy; subst hy
    by_cases z : d = d'
    · subst z
      have hl : d < (M y).length := by simpa using (List.getElem?_eq_some_iff.mp h).1
      rw [List.getElem?_set_self hl] at h
      cases h
      exact .inl ⟨rfl, rfl, rfl⟩
    · rw [List.getElem?_set_ne z] at h; exact .inr h
  · exact .inr h
theorem put_keep {M : Mat} {x d y d' : Nat} {e : End} (h : Set_ M y d') : Set_ (putM M x d e) y d' := by
  obtain ⟨e', h⟩ := h
  unfold Set_ putM
  split
  · rename_i hy; subst hy
    by_cases z : d = d'
    · subst z
      exact ⟨e, List.getElem?_set_self (List.getElem?_eq_some_iff.mp h).1⟩
    · exact ⟨e', by rw [List.getElem?_set_ne z]; exact h⟩
  · exact ⟨e', h⟩
theorem put_new {M : Mat} {x d : Nat} {e : End} (h : d < (M x).length) : Set_ (putM M x d e) x d := by
  unfold Set_ putM
  rw [if_pos rfl]
  exact ⟨e, List.getElem?_set_self h⟩
theorem rowL_at {r i : Nat} {e : End} (h : aT w r i = some e) : i < rowL w r := by
  obtain ⟨x, hx, hi⟩ := aT_some.mp h
  rw [rowL_of hx]
  exact (List.getElem?_eq_some_iff.mp hi).1
theorem mod_n {a k n : Nat} (h : a < n) : (a + k * n) % n = a := by rw [Nat.add_mul_mod_self_right, Nat.mod_eq_of_lt h]
theorem lt_mn {a k n many : Nat} (h : a < n) (hk : k < many) : a + k * n < many * n := by
  have : (k + 1) * n ≤ many * n := Nat.mul_le_mul_right n hk
  rw [Nat.succ_mul] at this
  omega
theorem MI.step {t k s : Nat} {M : Mat} {one other : End} {L : List Nat} (H : Sheets w es σ many) (I : MI w es σ many t k M) (h1 : es[t]? = some (one, other)) (h2 : σ[t]? = some L) (h3 : L[k]? = some s) (hk : k < many) :
    one.2 < (M (one.1 + k * w.length)).length ∧ other.2 < (putM M (one.1 + k * w.length) one.2 (other.1 + s * w.length, other.2) (other.1 + s * w.length)).length ∧ MI w es σ many t (k + 1) (putM (putM M (one.1 + k * w.length) one.2 (other.1 + s * w.length, other.2)) (other.1 + s * w.length) other.2 (one.1 + k * w.length, one.2)) := by
  obtain ⟨a1, a2, a3, a4, a5⟩ := H.at_ h1
  have hs := (H.turn t one other L h1 h2).lt k s h3
  have l1 : one.2 < (M (one.1 + k * w.length)).length := by rw [I.len _ (lt_mn a4 hk), mod_n a4]; exact rowL_at a1
  have l2 : other.2 < (putM M (one.1 + k * w.length) one.2 (other.1 + s * w.length, other.2) (other.1 + s * w.length)).length := by rw [put_len, I.len _ (lt_mn a5 hs), mod_n a5]; exact rowL_at a2
  refine ⟨l1, l2, fun x hx => by rw [put_len, put_len]; exact I.len x hx, fun x d e he => ?_, fun t' k' s' one' other' L' ht e1 e2 e3 => ?_⟩
  · rcases put_get he with ⟨rfl, rfl, rfl⟩ | he
    · exact ⟨t, one, other, k, s, L, h1, h2, h3, .inr ⟨rfl, rfl, rfl⟩⟩
    · rcases put_get he with ⟨rfl, rfl, rfl⟩ | he
      · exact ⟨t, one, other, k, s, L, h1, h2, h3, .inl ⟨rfl, rfl, rfl⟩⟩
      · exact I.ok x d e he
  · by_cases z : t' = t ∧ k' = k
    · obtain ⟨rfl, rfl⟩ := z
      rw [h1] at e1; cases e1
      rw [h2] at e2; cases e2
      rw [h3] at e3; cases e3
      exact ⟨put_keep (put_new l1), put_new l2⟩
    · obtain ⟨d1, d2⟩ := I.done t' k' s' one' other' L' (by omega) e1 e2 e3
      exact ⟨put_keep (put_keep d1), put_keep (put_keep d2)⟩
theorem MI.next {t : Nat} {M : Mat} (H : Sheets w es σ many) (I : MI w es σ many t many M) : MI w es σ many (t + 1) 0 M := by
  refine ⟨I.len, I.ok, fun t' k' s one other L ht e1 e2 e3 => ?_⟩
  refine I.done t' k' s one other L ?_ e1 e2 e3
  by_cases z : t' = t
  · have := (H.turn t' one other L e1 e2).len
    have := (List.getElem?_eq_some_iff.mp e3).1
    omega
  · omega
/-- the rows when all is filled -/
def rowsM (M : Mat) (N : Nat) : Wb := (List.range N).map fun x => (M x).filterMap id
theorem MI.full {M : Mat} (H : Sheets w es σ many) (I : MI w es σ many es.length 0 M) {x d : Nat} (hx : x < many * w.length) (hd : d < (M x).length) : Set_ M x d := by
  have hn : 0 < w.length := by
    rcases Nat.eq_zero_or_pos w.length with z | z
    · rw [z] at hx; omega
    · exact z
  have hr : x % w.length < w.length := Nat.mod_lt _ hn
  have hk : x / w.length < many := Nat.div_lt_of_lt_mul (by rw [Nat.mul_comm]; exact hx)
  have hxe : x % w.length + x / w.length * w.length = x := by rw [Nat.mul_comm]; exact Nat.mod_add_div x w.length
  rw [I.len x hx] at hd
  have hrow : w[x % w.length]? = some w[x % w.length] := List.getElem?_eq_getElem hr
  generalize w[x % w.length] = row at hrow
  rw [rowL_of hrow] at hd
  have hq : row[d]? = some row[d] := List.getElem?_eq_getElem hd
  generalize row[d] = q at hq
  have ha : aT w (x % w.length) d = some q := aT_some.mpr ⟨row, hrow, hq⟩
  rcases leE_total (x % w.length, d) q with hle | hle
  · obtain ⟨t, ht⟩ := List.getElem?_of_mem ((H.eo.mem (x % w.length, d) q).mpr ⟨ha, hle⟩)
    have htl : t < es.length := (List.getElem?_eq_some_iff.mp ht).1
    have hL : σ[t]? = some (σ[t]'(by rw [H.len]; exact htl)) := List.getElem?_eq_getElem _
    generalize (σ[t]'(by rw [H.len]; exact htl)) = L at hL
    have T := H.turn t _ q L ht hL
    have hs : L[x / w.length]? = some (L[x / w.length]'(by rw [T.len]; exact hk)) := List.getElem?_eq_getElem _
    have := (I.done t (x / w.length) _ _ q L (.inl htl) ht hL hs).1
    simp only at this
    rw [hxe] at this
    exact this
  · have hb := H.back _ _ q.1 q.2 ha
    obtain ⟨t, ht⟩ := List.getElem?_of_mem ((H.eo.mem q (x % w.length, d)).mpr ⟨hb, hle⟩)
    have htl : t < es.length := (List.getElem?_eq_some_iff.mp ht).1
    have hL : σ[t]? = some (σ[t]'(by rw [H.len]; exact htl)) := List.getElem?_eq_getElem _
    generalize (σ[t]'(by rw [H.len]; exact htl)) = L at hL
    have T := H.turn t q _ L ht hL
    obtain ⟨k', hk'⟩ := T.surj (x / w.length) hk
    have := (I.done t k' _ q _ L (.inl htl) ht hL hk').2
    simp only at this
    rw [hxe] at this
    exact this
theorem all_some {α : Type} : ∀ l : List (Option α), (∀ d, d < l.length → ∃ e, l[d]? = some (some e)) → l = (l.filterMap id).map some
  | [], _ => rfl
  | a :: l, h => by
    obtain ⟨e, he⟩ := h 0 (by simp)
    simp at he
    subst he
    have := all_some l fun d hd => by
      obtain ⟨e, he⟩ := h (d + 1) (by simp; omega)
      exact ⟨e, by simpa using he⟩
    simp only [List.filterMap_cons, id, List.map_cons]
    exact congrArg _ this
theorem MI.row {M : Mat} (H : Sheets w es σ many) (I : MI w es σ many es.length 0 M) {x : Nat} (hx : x < many * w.length) : M x = ((M x).filterMap id).map some := all_some _ fun d hd => I.full H hx hd
theorem MI.aT_ {M : Mat} (H : Sheets w es σ many) (I : MI w es σ many es.length 0 M) {x d : Nat} {e : End} : aT (rowsM M (many * w.length)) x d = some e ↔ x < many * w.length ∧ (M x)[d]? = some (some e) := by
  unfold aT rowsM
  rw [List.getElem?_map]
  by_cases h : x < many * w.length
  · rw [List.getElem?_range h]
    simp only [Option.map_some, Option.bind_some, h, true_and]
    have := I.row H h
    generalize hr : (M x).filterMap id = r at this
    rw [this, List.getElem?_map]
    simp
  · rw [List.getElem?_eq_none_iff.mpr (by simpa using h)]
    simp [h]
theorem MI.back {M : Mat} (H : Sheets w es σ many) (I : MI w es σ many es.length 0 M) : Back (rowsM M (many * w.length)) := by
  intro x d y j a
  obtain ⟨hx, ha⟩ := (I.aT_ H).mp a
  have R := (I.ok x d _ ha).swap
  have hy : y < many * w.length ∧ j < (M y).length := by
    obtain ⟨t, one, other, k, s, L, h1, h2, h3, c⟩ := R
    obtain ⟨a1, a2, a3, a4, a5⟩ := H.at_ h1
    have hs := (H.turn t one other L h1 h2).lt k s h3
    have hk : k < many := by rw [← (H.turn t one other L h1 h2).len]; exact (List.getElem?_eq_some_iff.mp h3).1
    rcases c with ⟨rfl, rfl, _⟩ | ⟨rfl, rfl, _⟩
    · exact ⟨lt_mn a4 hk, by rw [I.len _ (lt_mn a4 hk), mod_n a4]; exact rowL_at a1⟩
    · exact ⟨lt_mn a5 hs, by rw [I.len _ (lt_mn a5 hs), mod_n a5]; exact rowL_at a2⟩
  obtain ⟨e', he'⟩ := I.full H hy.1 hy.2
  have := (I.ok y j e' he').fun_ H R
  subst this
  exact (I.aT_ H).mpr ⟨hy.1, he'⟩
end
end SW
namespace SW
open PySem L2

def oD : Option End → D
  | none => .non
  | some e => eD e
/-- the rows in the store: list x at B + 2x + 1, their list at B + 2N -/
structure Mk (S : Sto) (B N : Nat) (M : Mat) : Prop where
  top : S[B + 2 * N]? = some (.lst ((List.range N).map fun x => D.loc (B + 2 * x + 1)))
  at_ : ∀ x, x < N → S[B + 2 * x + 1]? = some (.lst ((M x).map oD))
theorem Mk.of {S S' : Sto} {B N : Nat} {M : Mat} (h : Mk S B N M) (k : ∀ n, B ≤ n → n ≤ B + 2 * N → S'[n]? = S[n]?) : Mk S' B N M :=
  ⟨(k _ (by omega) (by omega)).trans h.top, fun x hx => (k _ (by omega) (by omega)).trans (h.at_ x hx)⟩
theorem Mk.put {S : Sto} {B N x d : Nat} {M : Mat} {e : End} (h : Mk S B N M) (hx : x < N) : Mk (S.set (B + 2 * x + 1) (.lst (((M x).map oD).set d (eD e)))) B N (putM M x d e) := by
  refine ⟨by rw [sto_ne (by omega)]; exact h.top, fun y hy => ?_⟩
  unfold putM
  by_cases z : y = x
  · subst z
    rw [if_pos rfl, sto_set (h.at_ y hy), List.map_set]; rfl
  · rw [if_neg z, sto_ne (by omega)]; exact h.at_ y hy
theorem Mk.get {S : Sto} {B N x : Nat} {M : Mat} {Q : D → Sto → Prop} (h : Mk S B N M) (hx : x < N) : Wp (sbD (.loc (B + 2 * N)) (.int (x : Int)) S) Q ↔ Q (.loc (B + 2 * x + 1)) S := by
  have : atI ((List.range N).map fun x => D.loc (B + 2 * x + 1)) (x : Int) = some (.loc (B + 2 * x + 1)) := atI_of (by rw [List.getElem?_map, List.getElem?_range hx]; rfl)
  rw [wq_sbL h.top, this]
  simp
def M0 (w : Wb) : Mat := fun x => List.replicate (rowL w (x % w.length)) none
theorem MI.zero {w : Wb} {es : List (End × End)} {σ : List (List Nat)} {many : Nat} : MI w es σ many 0 0 (M0 w) := by
  refine ⟨fun x hx => by simp [M0], fun x d e h => ?_, fun t' k' s one other L h => by omega⟩
  unfold M0 at h
  rw [List.getElem?_replicate] at h
  split at h <;> cases h
end SW
namespace SW
open PySem L2

end SW
namespace SW
open PySem L2

end SW
namespace SW
open PySem L2

/-- the ends met on a way -/
def spots (w : Wb) : Nat → List Nat → Option (List End)
  | _, [] => some []
  | r, d :: ds => (aT w r d).bind fun e => (spots w e.1 ds).map (e :: ·)
def lastR (r : Nat) (es : List End) : Nat := match es.getLast? with | some e => e.1 | none => r
theorem spots_app {w : Wb} : ∀ (ds : List Nat) (r d : Nat) (es : List End) (e : End), spots w r ds = some es → aT w (lastR r es) d = some e → spots w r (ds ++ [d]) = some (es ++ [e])
  | [], r, d, es, e, h, ha => by
    simp only [spots, Option.some.injEq] at h
    subst h
    have : aT w r d = some e := ha
    simp [spots, this]
  | c :: ds, r, d, es, e, h, ha => by
    simp only [spots] at h
    obtain ⟨e1, h1, h2⟩ := Option.bind_eq_some_iff.mp h
    obtain ⟨es', h3, rfl⟩ := Option.map_eq_some_iff.mp h2
    have ha' : aT w (lastR e1.1 es') d = some e := by
      rw [← ha]
      congr 1
      unfold lastR
      cases es' with
      | nil => rfl
      | cons x l => rw [List.getLast?_cons_cons]; rw [List.getLast?_cons]; 
    have := spots_app ds e1.1 d es' e h3 ha'
    simp only [List.cons_append, spots, h1, Option.bind_some, this, Option.map_some]
theorem lastR_app {r : Nat} {es : List End} {e : End} : lastR r (es ++ [e]) = e.1 := by
  unfold lastR; simp
end SW
namespace SW
open PySem L2

/-- a way: a tuple, or a list of the store -/
def WayAt (S : Sto) (d : D) (ds : List Nat) : Prop := match d with
  | .tup l => l = ds.map nD
  | .loc n => S[n]? = some (.lst (ds.map nD))
  | _ => False
theorem WayAt.of {S S' : Sto} {d : D} {ds : List Nat} (h : WayAt S d ds) (k : ∀ n, n < S.length → S'[n]? = S[n]?) : WayAt S' d ds := by
  cases d with
  | tup l => exact h
  | loc n => exact (k n (sto_lt h)).trans h
  | _ => exact h.elim
theorem WayAt.src {S : Sto} {d : D} {ds : List Nat} (h : WayAt S d ds) : ∃ s, srcOf d S = some s ∧ s.len = ds.length ∧ (∀ S', WayAt S' d ds → ∀ i x, (ds.map nD)[i]? = some x → s.get S' i = some x) ∧ (∀ S', WayAt S' d ds → s.fin S' = true) := by
  cases d with
  | tup l =>
    have h : l = ds.map nD := h
    subst h
    exact ⟨_, src_tup, by simp [Src.fixed], fun S' _ i x hx => hx, fun _ _ => rfl⟩
  | loc n =>
    refine ⟨_, src_loc h, by simp [Src.live], fun S' h' i x hx => ?_, fun S' h' => ?_⟩
    · have h' : S'[n]? = some (.lst (ds.map nD)) := h'
      simp only [Src.live, lenAt, itemAt, h', if_true]; exact hx
    · have h' : S'[n]? = some (.lst (ds.map nD)) := h'
      simp [Src.live, lenAt, h']
  | _ => exact h.elim
theorem WayAt.len {S : Sto} {d : D} {ds : List Nat} {Q : D → Sto → Prop} (h : WayAt S d ds) : Wp (lenD [d] S) Q ↔ Q (.int (ds.length : Nat)) S := by
  cases d with
  | tup l =>
    have h : l = ds.map nD := h
    subst h
    rw [len_tup, List.length_map]
  | loc n => rw [len_loc h, List.length_map]
  | _ => exact h.elim
theorem WayAt.list {S : Sto} {d : D} {ds : List Nat} {Q : D → Sto → Prop} (h : WayAt S d ds) : Wp (listD [d] S) Q ↔ Q (.loc S.length) (S ++ [.lst (ds.map nD)]) := by
  cases d with
  | tup l =>
    have h : l = ds.map nD := h
    subst h
    rw [wq_listT]
  | loc n => rw [wq_listL h]
  | _ => exact h.elim
/-- the first k steps -/
theorem WayAt.take {S : Sto} {d : D} {ds : List Nat} {k : Nat} {Q : D → Sto → Prop} (h : WayAt S d ds) (q : ∀ (S' : Sto) (d' : D), WayAt S' d' (ds.take k) → S.length ≤ S'.length → (∀ n, n < S.length → S'[n]? = S[n]?) → Q d' S') : Wp (slD d none (some (k : Int)) S) Q := by
  cases d with
  | tup l =>
    have h : l = ds.map nD := h
    subst h
    rw [wq_slT, cut_take]
    exact q S _ (by rw [← List.map_take]; rfl) (Nat.le_refl _) fun _ _ => rfl
  | loc n =>
    rw [wq_slL h, cut_take, ← List.map_take]
    exact q _ _ sto_new (by simp) fun n hn => sto_app hn
  | _ => exact h.elim
theorem lo_way {S : Sto} {d : D} {ds : List Nat} {g : D → Tau → Option Tau} {b : EvS} {τ : Tau} {Q : Out → Sto → Prop} (h : WayAt S d ds) (I : Nat → Tau → Sto → Prop) (h0 : I 0 τ S) (hI : ∀ i τ S', I i τ S' → WayAt S' d ds)
    (hs : ∀ (i x : Nat) (τ : Tau) (S : Sto), ds[i]? = some x → I i τ S → ∃ τ1, g (.int (x : Int)) τ = some τ1 ∧ Wp (b τ1 S) (LoopQ (I (i + 1)) Q))
    (he : ∀ τ S, I ds.length τ S → Q (.nx τ) S) : ∃ s, srcOf d S = some s ∧ Wp (loE s g b s.len 0 τ S) Q := by
  obtain ⟨s, h1, h2, h3, h4⟩ := h.src
  refine ⟨s, h1, ?_⟩
  refine wp_lo s (ds.map nD) g b I (fun i x τ S' hx hi => h3 S' (hI i τ S' hi) i x hx) (fun τ S' hi => h4 S' (hI _ τ S' hi)) ?_ (by rw [List.length_map]; exact he) _ 0 τ S (by simp [h2]) h0
  intro i x τ S' hx hi
  rw [List.getElem?_map] at hx
  obtain ⟨y, hy, rfl⟩ := Option.map_eq_some_iff.mp hx
  exact hs i y τ S' hy hi
end SW
namespace SW
open PySem L2
def b_gone : EvS := (seqS (stS 3 (cE .non))
  (seqS (forS (sqI (vE 2)) (.nm 4) (seqS (ifS (tB (b2E geD (vE 4) (aE lenD (consA (b2E sbD (vE 0) (vE 1)) nilA)))) (rtS (cE .non)) nxS)
  (asS (b2E sbD (b2E sbD (vE 0) (vE 1)) (vE 4)) (patG (.tp [(.nm 1), (.nm 3)])))))
  (rtS (aE tupD (consA (vE 1) (consA (vE 3) nilA))))))
def g_gone : Fn := fnD 3 5 b_gone
end SW
namespace SW
open PySem L2

theorem lastR_cons {r : Nat} {e : End} {es : List End} : lastR r (e :: es) = lastR e.1 es := by
  unfold lastR
  cases es with
  | nil => rfl
  | cons x l => rw [List.getLast?_cons_cons, List.getLast?_cons]
theorem spots_split {w : Wb} : ∀ (as bs : List Nat) (r : Nat), spots w r (as ++ bs) = (spots w r as).bind fun es => (spots w (lastR r es) bs).map (es ++ ·)
  | [], bs, r => by
    simp only [List.nil_append, spots, Option.bind_some]
    show _ = (spots w r bs).map _
    cases spots w r bs <;> rfl
  | a :: as, bs, r => by
    simp only [List.cons_append, spots]
    cases h : aT w r a with
    | none => rfl
    | some e =>
      simp only [Option.bind_some, spots_split as bs e.1]
      cases h2 : spots w e.1 as with
      | none => rfl
      | some es =>
        simp only [Option.bind_some, Option.map_some, lastR_cons]
        cases spots w (lastR e.1 es) bs <;> rfl
theorem spots_one {w : Wb} {r d : Nat} : spots w r [d] = (aT w r d).map fun e => [e] := by
  simp only [spots]
  cases aT w r d <;> rfl
theorem spots_take {w : Wb} {r i x : Nat} {ds : List Nat} {es : List End} (h : spots w r (ds.take i) = some es) (hx : ds[i]? = some x) : spots w r (ds.take (i + 1)) = (aT w (lastR r es) x).map fun e => es ++ [e] := by
  rw [List.take_add_one, hx]
  show spots w r (ds.take i ++ [x]) = _
  rw [spots_split, h, Option.bind_some, spots_one]
  cases aT w (lastR r es) x <;> rfl
theorem spots_stop {w : Wb} {r i x : Nat} {ds : List Nat} {es : List End} (h : spots w r (ds.take i) = some es) (hx : ds[i]? = some x) (hn : aT w (lastR r es) x = none) : spots w r ds = none := by
  have h1 := spots_take h hx
  rw [hn] at h1
  have h2 := spots_split (w := w) (ds.take (i + 1)) (ds.drop (i + 1)) r
  rw [List.take_append_drop, h1] at h2
  exact h2
/-- the room reached is a room -/
theorem spots_lt {w : Wb} (hc : Closed w) : ∀ (ds : List Nat) (r : Nat) (es : List End), r < w.length → spots w r ds = some es → lastR r es < w.length
  | [], r, es, hr, h => by
    simp only [spots, Option.some.injEq] at h
    subst h; exact hr
  | d :: ds, r, es, hr, h => by
    simp only [spots] at h
    obtain ⟨e, h1, h2⟩ := Option.bind_eq_some_iff.mp h
    obtain ⟨es', h3, rfl⟩ := Option.map_eq_some_iff.mp h2
    rw [lastR_cons]
    exact spots_lt hc ds e.1 es' (hc r d e.1 e.2 h1) h3
theorem spots_len {w : Wb} : ∀ (ds : List Nat) (r : Nat) (es : List End), spots w r ds = some es → es.length = ds.length
  | [], r, es, h => by
    simp only [spots, Option.some.injEq] at h
    subst h; rfl
  | d :: ds, r, es, h => by
    simp only [spots] at h
    obtain ⟨e, h1, h2⟩ := Option.bind_eq_some_iff.mp h
    obtain ⟨es', h3, rfl⟩ := Option.map_eq_some_iff.mp h2
    simp [spots_len ds e.1 es' h3]
def lastC (es : List End) : D := match es.getLast? with | some e => nD e.2 | none => .non
/-- (room, the door come in by) at the end of a way -/
def endD (r : Nat) (es : List End) : D := .tup [nD (lastR r es), lastC es]
theorem lastC_app {es : List End} {e : End} : lastC (es ++ [e]) = nD e.2 := by
  unfold lastC; simp
def GoI (S0 : Sto) (w : Wb) (r : Nat) (d : D) (ds : List Nat) (i : Nat) (τ : Tau) (S : Sto) : Prop := ∃ (es : List End) (o4 : Option D), τ = [some (wD w), some (.int (lastR r es : Nat)), some d, some (lastC es), o4] ∧ spots w r (ds.take i) = some es ∧ S = S0
/-- gone -/
theorem gone_ok {S : Sto} {w : Wb} {r : Nat} {d : D} {ds : List Nat} {Q : D → Sto → Prop} (hw : IsWeb w) (hr : r < w.length) (hd : WayAt S d ds)
    (q1 : ∀ es : List End, spots w r ds = some es → Q (endD r es) S) (q2 : spots w r ds = none → Q .non S) : Wp (g_gone [wD w, .int r, d] S) Q := by
  unfold g_gone
  refine (wp_fnD (by rfl)).mpr ?_
  unfold b_gone
  (simp! only [])
  refine lo_way hd (GoI S w r d ds) ⟨[], _, rfl, rfl, rfl⟩ (fun i τ S' ⟨_, _, _, _, f⟩ => by rw [f]; exact hd) ?_ ?_
  · rintro i x τ S1 hx ⟨es, o4, rfl, hs, rfl⟩
    refine ⟨_, pb_nm, ?_⟩
    have hrl := spots_lt hw.back.closed _ r es hr hs
    have hrow : w[lastR r es]? = some w[lastR r es] := List.getElem?_eq_getElem hrl
    generalize w[lastR r es] = row at hrow
    (simp! only [wq_row hrow, len_row])
    by_cases h : x < row.length
    · rw [if_neg (by omega)]
      have he : row[x]? = some row[x] := List.getElem?_eq_getElem h
      generalize row[x] = e at he
      have ha : aT w (lastR r es) x = some e := aT_some.mpr ⟨row, hrow, he⟩
      have hst := spots_take hs hx
      rw [ha] at hst
      (simp! only [wq_row hrow, wq_door he, eD])
      refine ⟨es ++ [e], some (.int (x : Int)), ?_, hst, rfl⟩
      rw [lastR_app, lastC_app]; rfl
    · rw [if_pos (by omega)]
      have ha : aT w (lastR r es) x = none := by
        unfold aT
        rw [hrow, Option.bind_some, List.getElem?_eq_none_iff]; omega
      (simp! only [])
      exact q2 (spots_stop hs hx ha)
  · rintro τ S1 ⟨es, o4, rfl, hs, rfl⟩
    rw [List.take_length] at hs
    (simp! only [])
    exact q1 es hs
end SW
namespace SW
open PySem L2

/-- numbers, truths, None, tuples of such, n deep -/
def pl : Nat → D → Bool
  | _, .non => true
  | _, .bl _ => true
  | _, .int _ => true
  | n + 1, .tup ds => decide (ds.length ≤ 1000) && ds.all (pl n)
  | _, _ => false
section
variable {S : Sto} {Q : D → Sto → Prop}
end
end SW
namespace SW
open PySem L2
end SW
namespace SW
open PySem L2

end SW
namespace SW
open PySem L2
end SW
namespace SW
open PySem L2

theorem WayAt.tuple {S : Sto} {d : D} {ds : List Nat} {Q : D → Sto → Prop} (h : WayAt S d ds) : Wp (tupleD [d] S) Q ↔ Q (.tup (ds.map nD)) S := by
  cases d with
  | tup l =>
    have h : l = ds.map nD := h
    subst h
    rw [wq_tupleT]
  | loc n => rw [wq_tupleL h]
  | _ => exact h.elim
theorem WayAt.tup {S : Sto} {ds : List Nat} : WayAt S (.tup (ds.map nD)) ds := rfl
end SW
namespace SW
open PySem L2
end SW
namespace SW
open PySem L2

end SW
namespace SW
open PySem L2
end SW
namespace SW
open PySem L2

/-! the rooms in the order in which they are come to, told by a function -/
def metStep (xs : List Nat) (e : End) : List Nat := if e.1 ∈ xs then xs else xs ++ [e.1]
def metRow (xs : List Nat) (row : List End) : List Nat := row.foldl metStep xs
def met (w : Wb) : Nat → Nat → List Nat → List Nat
  | 0, _, xs => xs
  | n + 1, k, xs => match xs[k]? with
    | some r => met w n (k + 1) (metRow xs ((w[r]?).getD []))
    | none => xs
/-- .. from room a -/
def metL (w : Wb) (a : Nat) : List Nat := met w w.length 0 [a]
theorem met_done {w : Wb} {n k : Nat} {xs : List Nat} (h : xs.length ≤ k) : met w n k xs = xs := by
  cases n with
  | zero => rfl
  | succ n => simp only [met, List.getElem?_eq_none_iff.mpr h]
end SW
namespace SW
open PySem L2

def rowD (w : Wb) (r : Nat) : List End := (w[r]?).getD []
def mapE (ν : Nat → Nat) (row : List End) : List End := row.map fun e => (ν e.1, e.2)
/-- the web with the numbers in which its rooms are come to -/
def toldW (w : Wb) (a : Nat) : Wb := (metL w a).map fun r => mapE (fun x => (metL w a).idxOf x) (rowD w r)
/-- w' is w with other numbers -/
structure Ren (w w' : Wb) (ν : Nat → Nat) : Prop where
  len : w'.length = w.length
  lt : ∀ r, r < w.length → ν r < w.length
  inj : ∀ r s, r < w.length → s < w.length → ν r = ν s → r = s
  row : ∀ r, r < w.length → rowD w' (ν r) = mapE ν (rowD w r)
theorem rowD_lt {w : Wb} (hc : Closed w) {r : Nat} {e : End} (h : e ∈ rowD w r) : e.1 < w.length := by
  unfold rowD at h
  cases hx : w[r]? with
  | none => rw [hx] at h; simp at h
  | some x =>
    rw [hx] at h
    obtain ⟨i, hi⟩ := List.getElem?_of_mem h
    exact hc r i e.1 e.2 (aT_some.mpr ⟨x, hx, hi⟩)
section
variable {w w' : Wb} {ν : Nat → Nat}
theorem Ren.mem (R : Ren w w' ν) {xs : List Nat} (hx : ∀ x ∈ xs, x < w.length) {y : Nat} (hy : y < w.length) : ν y ∈ xs.map ν ↔ y ∈ xs := by
  constructor
  · intro h
    obtain ⟨z, hz, e⟩ := List.mem_map.mp h
    have := R.inj z y (hx z hz) hy e
    subst this
    exact hz
  · exact fun h => List.mem_map.mpr ⟨y, h, rfl⟩
theorem Ren.metRow (R : Ren w w' ν) : ∀ (row : List End) (xs : List Nat), (∀ e ∈ row, e.1 < w.length) → (∀ x ∈ xs, x < w.length) →
    SW.metRow (xs.map ν) (mapE ν row) = (SW.metRow xs row).map ν ∧ ∀ x ∈ SW.metRow xs row, x < w.length
  | [], xs, _, hx => ⟨rfl, hx⟩
  | e :: row, xs, hr, hx => by
    have he := hr e List.mem_cons_self
    have hr' : ∀ e ∈ row, e.1 < w.length := fun y hy => hr y (List.mem_cons_of_mem _ hy)
    show SW.metRow (metStep (xs.map ν) (ν e.1, e.2)) (mapE ν row) = (SW.metRow (metStep xs e) row).map ν ∧ ∀ x ∈ SW.metRow (metStep xs e) row, x < w.length
    have hm := R.mem hx he
    unfold metStep
    by_cases h : e.1 ∈ xs
    · rw [if_pos (hm.mpr h), if_pos h]
      exact Ren.metRow R row xs hr' hx
    · rw [if_neg (fun z => h (hm.mp z)), if_neg h]
      have e1 : xs.map ν ++ [ν e.1] = (xs ++ [e.1]).map ν := by rw [List.map_append]; rfl
      show SW.metRow (xs.map ν ++ [ν e.1]) _ = _ ∧ _
      rw [e1]
      refine Ren.metRow R row (xs ++ [e.1]) hr' fun x hxm => ?_
      rcases List.mem_append.mp hxm with h1 | h1
      · exact hx x h1
      · simp at h1; subst h1; exact he
theorem Ren.met (R : Ren w w' ν) (hc : Closed w) : ∀ (n k : Nat) (xs : List Nat), (∀ x ∈ xs, x < w.length) →
    SW.met w' n k (xs.map ν) = (SW.met w n k xs).map ν ∧ ∀ x ∈ SW.met w n k xs, x < w.length
  | 0, k, xs, hx => ⟨rfl, hx⟩
  | n + 1, k, xs, hx => by
    simp only [SW.met, List.getElem?_map]
    cases h : xs[k]? with
    | none => exact ⟨rfl, hx⟩
    | some r =>
      simp only [Option.map_some]
      have hr := hx r (List.mem_of_getElem? h)
      have e1 : (w'[ν r]?).getD [] = mapE ν ((w[r]?).getD []) := R.row r hr
      rw [e1]
      obtain ⟨m1, m2⟩ := R.metRow ((w[r]?).getD []) xs (fun e he => rowD_lt hc (r := r) he) hx
      rw [m1]
      exact Ren.met R hc n (k + 1) _ m2
theorem Ren.metL (R : Ren w w' ν) (hc : Closed w) {a : Nat} (ha : a < w.length) : SW.metL w' (ν a) = (SW.metL w a).map ν ∧ ∀ x ∈ SW.metL w a, x < w.length := by
  unfold SW.metL
  rw [R.len]
  exact R.met hc w.length 0 [a] (by simpa using ha)
theorem Ren.idx (R : Ren w w' ν) : ∀ (xs : List Nat) (y : Nat), (∀ x ∈ xs, x < w.length) → y < w.length → (xs.map ν).idxOf (ν y) = xs.idxOf y
  | [], y, _, _ => rfl
  | x :: xs, y, hx, hy => by
    rw [List.map_cons, List.idxOf_cons, List.idxOf_cons, Ren.idx R xs y (fun z hz => hx z (List.mem_cons_of_mem _ hz)) hy]
    have h1 := hx x List.mem_cons_self
    by_cases h : x = y
    · subst h; simp
    · have h2 : ¬ ν x = ν y := fun z => h (R.inj x y h1 hy z)
      have h3 : (ν x == ν y) = false := beq_eq_false_iff_ne.mpr h2
      have h4 : (x == y) = false := beq_eq_false_iff_ne.mpr h
      rw [h3, h4]
/-- what is told is told of each numbering alike -/
theorem Ren.told (R : Ren w w' ν) (hc : Closed w) {a : Nat} (ha : a < w.length) : toldW w' (ν a) = toldW w a := by
  obtain ⟨m1, m2⟩ := R.metL hc ha
  unfold toldW
  rw [m1, List.map_map]
  apply List.map_congr_left
  intro r hr
  show mapE (fun x => (List.map ν (SW.metL w a)).idxOf x) (rowD w' (ν r)) = _
  rw [R.row r (m2 r hr)]
  unfold mapE
  rw [List.map_map]
  apply List.map_congr_left
  intro e he
  show ((List.map ν (SW.metL w a)).idxOf (ν e.1), e.2) = _
  rw [R.idx _ _ m2 (rowD_lt hc he)]
end
theorem idx_at : ∀ {xs : List Nat} {i x : Nat}, xs.Nodup → xs[i]? = some x → xs.idxOf x = i := by
  intro xs i x hn h
  have hm : x ∈ xs := List.mem_of_getElem? h
  have hl : xs.idxOf x < xs.length := List.idxOf_lt_length_iff.mpr hm
  have hj : xs[xs.idxOf x]? = some x := by rw [List.getElem?_eq_getElem hl, List.getElem_idxOf hl]
  exact (List.getElem?_inj hl hn).mp (by rw [hj, h])
end SW
namespace SW
open PySem L2

theorem rowD_of {w : Wb} {r : Nat} {x : List End} (h : w[r]? = some x) : rowD w r = x := by unfold rowD; rw [h]; rfl
end SW
namespace SW
open PySem L2

theorem Ren.uniq {w w1 w2 : Wb} {ν : Nat → Nat} (R1 : Ren w w1 ν) (R2 : Ren w w2 ν) : w1 = w2 := by
  have hl1 := R1.len
  have hl2 := R2.len
  have row_some : ∀ (v : Wb) (p : Nat), p < v.length → v[p]? = some (rowD v p) := fun v p hp => by
    have e : v[p]? = some v[p] := List.getElem?_eq_getElem hp
    rw [rowD_of e]; exact e
  apply List.ext_getElem?
  intro p
  by_cases hp : p < w.length
  · have hm : p ∈ (List.range w.length).map ν := by
      refine nodup_full (n := w.length) ?_ (fun x hx => ?_) (by simp) hp
      · rw [List.nodup_iff_pairwise_ne, List.pairwise_map]
        refine List.Pairwise.imp_of_mem ?_ (List.nodup_iff_pairwise_ne.mp List.nodup_range)
        intro a b ha hb hne e
        exact hne (R1.inj a b (List.mem_range.mp ha) (List.mem_range.mp hb) e)
      · obtain ⟨r, hr, rfl⟩ := List.mem_map.mp hx
        exact R1.lt r (List.mem_range.mp hr)
    obtain ⟨r, hr, rfl⟩ := List.mem_map.mp hm
    have hr := List.mem_range.mp hr
    rw [row_some w1 _ (by omega), row_some w2 _ (by omega), R1.row r hr, R2.row r hr]
  · rw [List.getElem?_eq_none_iff.mpr (by omega), List.getElem?_eq_none_iff.mpr (by omega)]
theorem WayAt.get {S : Sto} {d : D} {ds : List Nat} {i x : Nat} {Q : D → Sto → Prop} (h : WayAt S d ds) (hi : ds[i]? = some x) : Wp (sbD d (.int (i : Int)) S) Q ↔ Q (.int (x : Int)) S := by
  have ha : atI (ds.map nD) (i : Int) = some (nD x) := atI_of (by rw [List.getElem?_map, hi]; rfl)
  cases d with
  | tup l =>
    have h : l = ds.map nD := h
    subst h
    rw [wq_sbT, ha]; simp [nD]
  | loc n => rw [wq_sbL h, ha]; simp [nD]
  | _ => exact h.elim
end SW
namespace SW
open PySem L2

theorem Rch.trans {w : Wb} {a b c : Nat} (h : Rch w a b) (g : Rch w b c) : Rch w a c := by
  induction g with
  | refl => exact h
  | step _ e ih => exact .step ih e
theorem Rch.symm {w : Wb} (hb : Back w) {a b : Nat} (h : Rch w a b) : Rch w b a := by
  induction h with
  | refl => exact .refl
  | step _ e ih =>
    obtain ⟨i, j, e⟩ := e
    exact Rch.trans (.step .refl ⟨j, i, hb _ _ _ _ e⟩) ih
theorem IsWeb.rch {w : Wb} (W : IsWeb w) {a b : Nat} (ha : a < w.length) (hb : b < w.length) : Rch w a b :=
  (Rch.symm W.back (W.con a ha).rch).trans (W.con b hb).rch
end SW
namespace SW
open PySem L2
end SW
namespace SW
open PySem L2

/-! webs with other numbers are webs -/
theorem aT_row {w : Wb} {r i : Nat} {e : End} (hr : r < w.length) : aT w r i = some e ↔ (rowD w r)[i]? = some e := by
  have hx : w[r]? = some w[r] := List.getElem?_eq_getElem hr
  rw [rowD_of hx]
  unfold aT
  rw [hx]; rfl
theorem Ren.at_ {w w' : Wb} {ν : Nat → Nat} (R : Ren w w' ν) {r i : Nat} {e : End} (h : aT w r i = some e) : aT w' (ν r) i = some (ν e.1, e.2) := by
  have hr := aT_lt h
  have hl := R.len
  have h2 := R.lt r hr
  rw [aT_row (by omega), R.row r hr]
  rw [aT_row hr] at h
  unfold mapE
  rw [List.getElem?_map, h]; rfl
theorem Ren.surj {w w' : Wb} {ν : Nat → Nat} (R : Ren w w' ν) {p : Nat} (hp : p < w.length) : ∃ r, r < w.length ∧ ν r = p := by
  have hm : p ∈ (List.range w.length).map ν := by
    refine nodup_full (n := w.length) ?_ (fun x hx => ?_) (by simp) hp
    · rw [List.nodup_iff_pairwise_ne, List.pairwise_map]
      refine List.Pairwise.imp_of_mem ?_ (List.nodup_iff_pairwise_ne.mp List.nodup_range)
      intro a b ha hb hne e
      exact hne (R.inj a b (List.mem_range.mp ha) (List.mem_range.mp hb) e)
    · obtain ⟨r, hr, rfl⟩ := List.mem_map.mp hx
      exact R.lt r (List.mem_range.mp hr)
  obtain ⟨r, hr, e⟩ := List.mem_map.mp hm
  exact ⟨r, List.mem_range.mp hr, e⟩
theorem Ren.rch {w w' : Wb} {ν : Nat → Nat} (R : Ren w w' ν) {a b : Nat} (h : Rch w a b) : Rch w' (ν a) (ν b) := by
  induction h with
  | refl => exact .refl
  | step _ e ih =>
    obtain ⟨i, j, e⟩ := e
    exact .step ih ⟨i, j, R.at_ e⟩
theorem Ren.web {w w' : Wb} {ν : Nat → Nat} (R : Ren w w' ν) (W : IsWeb w) : IsWeb w' := by
  have hl := R.len
  have hpos := W.pos
  have hfew := W.few
  have down : ∀ (r' i : Nat) (e' : End), aT w' r' i = some e' → ∃ (r : Nat) (e : End), r < w.length ∧ ν r = r' ∧ aT w r i = some e ∧ e' = (ν e.1, e.2) := fun r' i e' h => by
    have hr' := aT_lt h
    obtain ⟨r, hr, rfl⟩ := R.surj (p := r') (by omega)
    rw [aT_row hr', R.row r hr] at h
    unfold mapE at h
    rw [List.getElem?_map] at h
    obtain ⟨e, he, rfl⟩ := Option.map_eq_some_iff.mp h
    exact ⟨r, e, hr, rfl, (aT_row hr).mpr he, rfl⟩
  refine ⟨fun r' i s' j h => ?_, by omega, by omega, fun r' x hx => ?_, fun r' hr' => ?_⟩
  · obtain ⟨r, e, hr, rfl, ha, he⟩ := down r' i _ h
    cases he
    have := R.at_ (W.back r i e.1 e.2 ha)
    exact this
  · have hr' : r' < w'.length := (List.getElem?_eq_some_iff.mp hx).1
    obtain ⟨r, hr, rfl⟩ := R.surj (p := r') (by omega)
    have e1 := R.row r hr
    rw [rowD_of hx] at e1
    have hrow : w[r]? = some w[r] := List.getElem?_eq_getElem hr
    rw [e1, rowD_of hrow]
    have := W.doors r _ hrow
    simpa [mapE] using this
  · obtain ⟨r, hr, rfl⟩ := R.surj (p := r') (by omega)
    obtain ⟨r0, hr0, e0⟩ := R.surj (p := 0) hpos
    have := R.rch (W.rch hr0 hr)
    rw [e0] at this
    exact this.con
end SW
namespace SW
open PySem L2

end SW
namespace SW
open PySem L2
end SW
namespace SW
open PySem L2

/-! dicts with numbers as keys -/
def kN (n : Nat) : Key := Sum.inl (n : Int)
theorem kN_inj {a b : Nat} (h : kN a = kN b) : a = b := by
  simp only [kN, Sum.inl.injEq] at h
  omega
end SW
namespace SW

/-! ways in the order: the fewest doors, of several the first -/
def lexLt : List Nat → List Nat → Prop
  | [], [] => False
  | [], _ :: _ => True
  | _ :: _, [] => False
  | a :: as, b :: bs => a < b ∨ (a = b ∧ lexLt as bs)
theorem lexLt_irr : ∀ p : List Nat, ¬ lexLt p p
  | [], h => h
  | a :: as, h => by
    rcases h with h | h
    · omega
    · exact lexLt_irr as h.2
theorem lexLt_tr : ∀ {p q r : List Nat}, lexLt p q → lexLt q r → lexLt p r
  | [], [], _, h, _ => h.elim
  | [], _ :: _, [], _, g => g.elim
  | [], _ :: _, _ :: _, _, _ => trivial
  | _ :: _, [], _, h, _ => h.elim
  | _ :: _, _ :: _, [], _, g => g.elim
  | a :: as, b :: bs, c :: cs, h, g => by
    rcases h with h | ⟨rfl, h⟩
    · rcases g with g | ⟨rfl, g⟩
      · exact .inl (by omega)
      · exact .inl h
    · rcases g with g | ⟨rfl, g⟩
      · exact .inl g
      · exact .inr ⟨rfl, lexLt_tr h g⟩
theorem lexLt_app : ∀ {p q : List Nat} (a b : Nat), p.length = q.length → lexLt p q → lexLt (p ++ [a]) (q ++ [b])
  | [], [], _, _, _, h => h.elim
  | [], _ :: _, _, _, e, _ => by simp at e
  | _ :: _, [], _, _, e, _ => by simp at e
  | x :: p, y :: q, a, b, e, h => by
    rcases h with h | ⟨rfl, h⟩
    · exact .inl h
    · exact .inr ⟨rfl, lexLt_app a b (by simpa using e) h⟩
theorem lexLt_snoc : ∀ (p : List Nat) {a b : Nat}, a < b → lexLt (p ++ [a]) (p ++ [b])
  | [], _, _, h => .inl h
  | _ :: p, _, _, h => .inr ⟨rfl, lexLt_snoc p h⟩
def sl (p q : List Nat) : Prop := p.length < q.length ∨ (p.length = q.length ∧ lexLt p q)
def sle (p q : List Nat) : Prop := sl p q ∨ p = q
theorem sl_irr {p : List Nat} (h : sl p p) : False := by
  rcases h with h | h
  · omega
  · exact lexLt_irr p h.2
theorem sl_tr {p q r : List Nat} (h : sl p q) (g : sl q r) : sl p r := by
  rcases h with h | ⟨h1, h2⟩
  · rcases g with g | ⟨g1, g2⟩
    · exact .inl (by omega)
    · exact .inl (by omega)
  · rcases g with g | ⟨g1, g2⟩
    · exact .inl (by omega)
    · exact .inr ⟨by omega, lexLt_tr h2 g2⟩
theorem sle_rfl {p : List Nat} : sle p p := .inr rfl
theorem sle_tr {p q r : List Nat} (h : sle p q) (g : sle q r) : sle p r := by
  rcases h with h | rfl
  · rcases g with g | rfl
    · exact .inl (sl_tr h g)
    · exact .inl h
  · exact g
theorem sl_sle {p q r : List Nat} (h : sl p q) (g : sle q r) : sl p r := by
  rcases g with g | rfl
  · exact sl_tr h g
  · exact h
theorem sle_anti {p q : List Nat} (h : sle p q) (g : sle q p) : p = q := by
  rcases h with h | h
  · rcases g with g | g
    · exact (sl_irr (sl_tr h g)).elim
    · exact g.symm
  · exact h
theorem sl_app {p q : List Nat} (a b : Nat) (h : sl p q) : sl (p ++ [a]) (q ++ [b]) := by
  rcases h with h | ⟨h1, h2⟩
  · exact .inl (by simp; omega)
  · exact .inr ⟨by simp [h1], lexLt_app a b h1 h2⟩
theorem sl_snoc (p : List Nat) {a b : Nat} (h : a < b) : sl (p ++ [a]) (p ++ [b]) := .inr ⟨by simp, lexLt_snoc p h⟩
theorem sle_app {p q : List Nat} (a : Nat) (h : sle p q) : sle (p ++ [a]) (q ++ [a]) := by
  rcases h with h | rfl
  · exact .inl (sl_app a a h)
  · exact sle_rfl
theorem sle_len {p q : List Nat} (h : sle p q) : p.length ≤ q.length := by
  rcases h with (h | h) | rfl
  · omega
  · omega
  · exact Nat.le_refl _
theorem sl_nil {p : List Nat} (d : Nat) : sl [] (p ++ [d]) := .inl (by simp)
/-- the least of those of which P holds -/
def Least (P : List Nat → Prop) (p : List Nat) : Prop := P p ∧ ∀ q, P q → sle p q
theorem Least.uniq {P : List Nat → Prop} {p q : List Nat} (h : Least P p) (g : Least P q) : p = q := sle_anti (h.2 q g.1) (g.2 p h.1)
theorem Least.congr {P P' : List Nat → Prop} {p : List Nat} (h : Least P p) (e : ∀ q, P q ↔ P' q) : Least P' p := ⟨(e p).mp h.1, fun q hq => h.2 q ((e q).mpr hq)⟩

/-! a search, one behind the other -/
section
variable {σ : Type}
def runS (st : σ → Nat → Option σ) : σ → List Nat → Option σ
  | s, [] => some s
  | s, d :: ds => (st s d).bind fun t => runS st t ds
theorem runS_app {st : σ → Nat → Option σ} : ∀ (p q : List Nat) (s : σ), runS st s (p ++ q) = (runS st s p).bind fun t => runS st t q
  | [], q, s => rfl
  | d :: p, q, s => by
    show (st s d).bind _ = ((st s d).bind _).bind _
    cases st s d with
    | none => rfl
    | some t => exact runS_app p q t
theorem runS_snoc {st : σ → Nat → Option σ} (p : List Nat) (d : Nat) (s : σ) : runS st s (p ++ [d]) = (runS st s p).bind fun t => st t d := by
  rw [runS_app]
  congr 1
  funext t
  show (st t d).bind _ = _
  cases st t d <;> rfl
/-- visited before door `door` of the one at place `at_` -/
def Ahead (at_ door : Nat) (j d : Nat) : Prop := j < at_ ∨ (j = at_ ∧ d < door)
structure Bfs (st : σ → Nat → Option σ) (s0 : σ) (ws : List (σ × List Nat)) (at_ door : Nat) : Prop where
  hd : ws[0]? = some (s0, [])
  par : ∀ (i : Nat) (v : σ) (p : List Nat), 0 < i → ws[i]? = some (v, p) → ∃ (j : Nat) (u : σ) (q : List Nat) (d : Nat), ws[j]? = some (u, q) ∧ st u d = some v ∧ p = q ++ [d] ∧ Ahead at_ door j d
  cov : ∀ (j : Nat) (u : σ) (q : List Nat) (d : Nat) (v : σ), ws[j]? = some (u, q) → Ahead at_ door j d → st u d = some v → ∃ (i : Nat) (p : List Nat), ws[i]? = some (v, p) ∧ sle p (q ++ [d])
  ord : ∀ (i j : Nat) (a b : σ × List Nat), i < j → ws[i]? = some a → ws[j]? = some b → sl a.2 b.2 ∧ a.1 ≠ b.1
  run : ∀ (i : Nat) (v : σ) (p : List Nat), ws[i]? = some (v, p) → runS st s0 p = some v
variable {st : σ → Nat → Option σ} {s0 : σ} {ws : List (σ × List Nat)} {at_ door : Nat}
theorem Bfs.same (h : Bfs st s0 ws at_ door) {i j : Nat} {v : σ} {p q : List Nat} (e1 : ws[i]? = some (v, p)) (e2 : ws[j]? = some (v, q)) : i = j ∧ p = q := by
  rcases Nat.lt_trichotomy i j with z | z | z
  · exact absurd rfl (h.ord i j _ _ z e1 e2).2
  · subst z; rw [e1] at e2; cases e2; exact ⟨rfl, rfl⟩
  · exact absurd rfl (h.ord j i _ _ z e2 e1).2
/-- all that stands there is ahead of the next try -/
theorem Bfs.before (h : Bfs st s0 ws at_ door) {i : Nat} {a : σ × List Nat} {u : σ} {q : List Nat} (e : ws[i]? = some a) (hu : ws[at_]? = some (u, q)) : sl a.2 (q ++ [door]) := by
  cases i with
  | zero =>
    rw [h.hd] at e; cases e
    exact sl_nil door
  | succ i =>
    obtain ⟨j, u', q', d, e1, _, e2, a1⟩ := h.par (i + 1) a.1 a.2 (by omega) e
    rw [e2]
    rcases a1 with a1 | ⟨rfl, a1⟩
    · exact sl_app _ _ (h.ord j at_ _ _ a1 e1 hu).1
    · rw [e1] at hu; cases hu
      exact sl_snoc _ a1
/-- a door that leads to none, or to one that stands there -/
theorem Bfs.old (h : Bfs st s0 ws at_ door) {u : σ} {q : List Nat} (hu : ws[at_]? = some (u, q)) (ho : ∀ v, st u door = some v → ∃ (i : Nat) (p : List Nat), ws[i]? = some (v, p)) : Bfs st s0 ws at_ (door + 1) where
  hd := h.hd
  par := fun i v p hi e => by
    obtain ⟨j, u', q', d, e1, e2, e3, a⟩ := h.par i v p hi e
    exact ⟨j, u', q', d, e1, e2, e3, by unfold Ahead at a ⊢; omega⟩
  cov := fun j u' q' d v e a es => by
    by_cases z : Ahead at_ door j d
    · exact h.cov j u' q' d v e z es
    · have hj : j = at_ ∧ d = door := by unfold Ahead at a z; omega
      obtain ⟨rfl, rfl⟩ := hj
      rw [hu] at e; cases e
      obtain ⟨i, p, e1⟩ := ho v es
      exact ⟨i, p, e1, .inl (h.before e1 hu)⟩
  ord := h.ord
  run := h.run
/-- a door that leads to a new one -/
theorem Bfs.new (h : Bfs st s0 ws at_ door) {u v : σ} {q : List Nat} (hu : ws[at_]? = some (u, q)) (hs : st u door = some v) (hn : ∀ (i : Nat) (p : List Nat), ws[i]? ≠ some (v, p)) : Bfs st s0 (ws ++ [(v, q ++ [door])]) at_ (door + 1) := by
  have get : ∀ {i : Nat} {a : σ × List Nat}, (ws ++ [(v, q ++ [door])])[i]? = some a → ws[i]? = some a ∨ (i = ws.length ∧ a = (v, q ++ [door])) := fun {i a} e => by
    rw [List.getElem?_append] at e
    split at e
    · exact .inl e
    · rename_i hi
      cases hk : i - ws.length with
      | zero => rw [hk] at e; simp at e; exact .inr ⟨by omega, e.symm⟩
      | succ k => rw [hk] at e; simp at e
  have put : ∀ {i : Nat} {a : σ × List Nat}, ws[i]? = some a → (ws ++ [(v, q ++ [door])])[i]? = some a := fun {i a} e => by
    rw [List.getElem?_append_left (List.getElem?_eq_some_iff.mp e).1]; exact e
  have lt : ∀ {i : Nat} {a : σ × List Nat}, ws[i]? = some a → i < ws.length := fun e => (List.getElem?_eq_some_iff.mp e).1
  have last : (ws ++ [(v, q ++ [door])])[ws.length]? = some (v, q ++ [door]) := by simp
  refine ⟨put h.hd, fun i v' p hi e => ?_, fun j u' q' d v' e a es => ?_, fun i j a b hij e1 e2 => ?_, fun i v' p e => ?_⟩
  · rcases get e with e4 | ⟨e5, e4⟩
    · obtain ⟨j, u', q', d, e1, e2, e3, a⟩ := h.par i v' p hi e4
      exact ⟨j, u', q', d, put e1, e2, e3, by unfold Ahead at a ⊢; omega⟩
    · cases e4
      exact ⟨at_, u, q, door, put hu, hs, rfl, .inr ⟨rfl, by omega⟩⟩
  · have hau := lt hu
    rcases get e with e4 | ⟨e5, e4⟩
    · by_cases z : Ahead at_ door j d
      · obtain ⟨i, p, e1, e2⟩ := h.cov j u' q' d v' e4 z es
        exact ⟨i, p, put e1, e2⟩
      · have hj : j = at_ ∧ d = door := by unfold Ahead at a z; omega
        obtain ⟨rfl, rfl⟩ := hj
        rw [hu] at e4; cases e4
        rw [hs] at es; cases es
        exact ⟨ws.length, _, last, sle_rfl⟩
    · exfalso
      unfold Ahead at a; omega
  · rcases get e1 with e3 | ⟨e5, e3⟩
    · rcases get e2 with e4 | ⟨e6, e4⟩
      · exact h.ord i j a b hij e3 e4
      · subst e4
        refine ⟨h.before e3 hu, fun z => ?_⟩
        obtain ⟨a1, a2⟩ := a
        have z : a1 = v := z
        subst z
        exact hn i a2 e3
    · exfalso
      have := (List.getElem?_eq_some_iff.mp e2).1
      simp at this; omega
  · rcases get e with e3 | ⟨e5, e3⟩
    · exact h.run i v' p e3
    · cases e3
      rw [runS_snoc, h.run at_ u q hu]
      exact hs
theorem Bfs.next (h : Bfs st s0 ws at_ door) {u : σ} {q : List Nat} (hu : ws[at_]? = some (u, q)) (hd : ∀ d, door ≤ d → st u d = none) : Bfs st s0 ws (at_ + 1) 0 where
  hd := h.hd
  par := fun i v p hi e => by
    obtain ⟨j, u', q', d, e1, e2, e3, a⟩ := h.par i v p hi e
    exact ⟨j, u', q', d, e1, e2, e3, by unfold Ahead at a ⊢; omega⟩
  cov := fun j u' q' d v e a es => by
    by_cases z : Ahead at_ door j d
    · exact h.cov j u' q' d v e z es
    · have hj : j = at_ ∧ door ≤ d := by unfold Ahead at a z; omega
      obtain ⟨rfl, hj⟩ := hj
      rw [hu] at e; cases e
      rw [hd d hj] at es; cases es
  ord := h.ord
  run := h.run
/-- a way leads to one that stands there by a way that isn't behind it, or comes by one that isn't done -/
theorem Bfs.reach (h : Bfs st s0 ws at_ door) : ∀ (n : Nat) (p : List Nat) (v : σ), p.length = n → runS st s0 p = some v →
    (∃ (i : Nat) (q : List Nat), ws[i]? = some (v, q) ∧ sle q p) ∨ ∃ (j : Nat) (x : σ) (q' q1 : List Nat), at_ ≤ j ∧ ws[j]? = some (x, q') ∧ sle q' q1 ∧ q1.length < p.length
  | 0, p, v, hp, e => by
    have : p = [] := by simpa using hp
    subst this
    cases e
    exact .inl ⟨0, [], h.hd, sle_rfl⟩
  | n + 1, p, v, hp, e => by
    rcases List.eq_nil_or_concat p with rfl | ⟨q, d, rfl⟩
    · simp at hp
    · rw [List.concat_eq_append] at hp e ⊢
      rw [runS_snoc] at e
      obtain ⟨u, e1, e2⟩ := Option.bind_eq_some_iff.mp e
      have hq : q.length = n := by simpa using hp
      rcases h.reach n q u hq e1 with ⟨i, q', e3, e4⟩ | ⟨j, x, q', q1, a1, a2, a3, a4⟩
      · by_cases z : Ahead at_ door i d
        · obtain ⟨i', p', e5, e6⟩ := h.cov i u q' d v e3 z e2
          exact .inl ⟨i', p', e5, sle_tr e6 (sle_app d e4)⟩
        · exact .inr ⟨i, u, q', q, by unfold Ahead at z; omega, e3, e4, by simp⟩
      · exact .inr ⟨j, x, q', q1, a1, a2, a3, by simp; omega⟩
/-- the search at its end -/
theorem Bfs.all (h : Bfs st s0 ws at_ door) (hl : ws.length ≤ at_) {p : List Nat} {v : σ} (e : runS st s0 p = some v) : ∃ (i : Nat) (q : List Nat), ws[i]? = some (v, q) ∧ sle q p := by
  rcases h.reach p.length p v rfl e with r | ⟨j, x, q', q1, a1, a2, _, _⟩
  · exact r
  · have := (List.getElem?_eq_some_iff.mp a2).1
    omega
theorem Bfs.least (h : Bfs st s0 ws at_ door) (hl : ws.length ≤ at_) {i : Nat} {v : σ} {q : List Nat} (e : ws[i]? = some (v, q)) : Least (fun p => runS st s0 p = some v) q := by
  refine ⟨h.run i v q e, fun p hp => ?_⟩
  obtain ⟨j, q', e1, e2⟩ := h.all hl hp
  rw [(h.same e e1).2]
  exact e2
/-- the search stops at the first door that is bad -/
theorem Bfs.stop (h : Bfs st s0 ws at_ door) {bad : σ → Nat → Prop} (hb : ∀ (j : Nat) (u : σ) (q : List Nat) (d : Nat), ws[j]? = some (u, q) → Ahead at_ door j d → ¬ bad u d) {u : σ} {q : List Nat} (hu : ws[at_]? = some (u, q)) (hbu : bad u door) :
    Least (fun p => ∃ p' d v, p = p' ++ [d] ∧ runS st s0 p' = some v ∧ bad v d) (q ++ [door]) := by
  refine ⟨⟨q, door, u, rfl, h.run at_ u q hu, hbu⟩, ?_⟩
  rintro p ⟨p', d, v, rfl, e1, e2⟩
  have cmp : ∀ {j : Nat} {x : σ} {q' : List Nat}, at_ ≤ j → ws[j]? = some (x, q') → sle q q' := fun {j x q'} hj ej => by
    rcases Nat.lt_or_ge at_ j with z | z
    · exact .inl (h.ord at_ j _ _ z hu ej).1
    · have : j = at_ := by omega
      subst this
      rw [hu] at ej; cases ej
      exact sle_rfl
  rcases h.reach p'.length p' v rfl e1 with ⟨i, q', e3, e4⟩ | ⟨j, x, q', q1, a1, a2, a3, a4⟩
  · have hna : ¬ Ahead at_ door i d := fun z => hb i v q' d e3 z e2
    rcases Nat.lt_trichotomy i at_ with z | z | z
    · exact absurd (.inl z) hna
    · subst z
      rw [hu] at e3; cases e3
      have hd : door ≤ d := by unfold Ahead at hna; omega
      rcases Nat.lt_or_ge door d with y | y
      · exact sle_tr (.inl (sl_snoc _ y)) (sle_app d e4)
      · have : d = door := by omega
        subst this
        exact sle_app d e4
    · exact .inl (sl_app _ _ (sl_sle (h.ord at_ i _ _ z hu e3).1 e4))
  · refine .inl (.inl ?_)
    have l1 := sle_len (sle_tr (cmp a1 a2) a3)
    simp; omega
end
end SW
namespace SW
open PySem L2

/-! searches in a web, level by level: rooms with the ways on which they were found -/
def stW (w : Wb) (r d : Nat) : Option Nat := (aT w r d).map (·.1)
theorem stW_some {w : Wb} {r d s : Nat} : stW w r d = some s ↔ ∃ j, aT w r d = some (s, j) := by
  unfold stW
  constructor
  · intro h
    obtain ⟨e, h1, rfl⟩ := Option.map_eq_some_iff.mp h
    exact ⟨e.2, h1⟩
  · rintro ⟨j, h⟩
    rw [h]; rfl
abbrev Wys := List (Nat × List Nat)
def kvW (f : List Nat → D) (ws : Wys) : List (Key × D) := ws.map fun x => (kN x.1, f x.2)
def rmD (ws : Wys) : List D := ws.map fun x => nD x.1
theorem Bfs.nd {st : Nat → Nat → Option Nat} {s0 : Nat} {ws : Wys} {a d : Nat} (h : Bfs st s0 ws a d) : ∀ (i j : Nat) (x y : Nat × List Nat), i < j → ws[i]? = some x → ws[j]? = some y → x.1 ≠ y.1 := fun i j x y k e1 e2 => (h.ord i j x y k e1 e2).2
theorem Bfs.few {st : Nat → Nat → Option Nat} {s0 : Nat} {ws : Wys} {a d n : Nat} (h : Bfs st s0 ws a d) (hl : ∀ x ∈ ws, x.1 < n) : ws.length ≤ n := by
  have := nodup_le (n := n) (xs := ws.map (·.1)) ?_ ?_
  · simpa using this
  · rw [List.nodup_iff_pairwise_ne, List.pairwise_iff_getElem]
    intro i j hi hj hij
    rw [List.getElem_map, List.getElem_map]
    simp at hi hj
    exact h.nd i j _ _ hij (List.getElem?_eq_getElem hi) (List.getElem?_eq_getElem hj)
  · intro x hx
    obtain ⟨y, hy, rfl⟩ := List.mem_map.mp hx
    exact hl y hy
theorem rmD_app {ws : Wys} {v : Nat} {p : List Nat} : rmD (ws ++ [(v, p)]) = rmD ws ++ [nD v] := by simp [rmD]
/-- where a search stands in the store: the dict, the list of what's done next, of what's found -/
structure Lv (S0 S : Sto) (w : Wb) (s0 : Nat) (f : List Nat → D) (dl l : Nat) (ws : Wys) (a door : Nat) : Prop where
  dict : S[dl]? = some (.dK (kvW f ws))
  bfs : Bfs (stW w) s0 ws a door
  lt : ∀ x ∈ ws, x.1 < w.length
  len : S0.length ≤ S.length
  fr : ∀ n, n < S0.length → S[n]? = S0[n]?
structure LvI (S0 S : Sto) (w : Wb) (s0 : Nat) (f : List Nat → D) (dl l g : Nat) (ws0 more : Wys) (a i door : Nat) : Prop where
  at_ : Lv S0 S w s0 f dl l (ws0 ++ more) (a + i) door
  last : S[l]? = some (.lst (rmD (ws0.drop a)))
  next : S[g]? = some (.lst (rmD more))
  gl : g ≠ l
  dg : S0.length ≤ dl
  gg : S0.length ≤ g
theorem LvI.spot {S0 S : Sto} {w : Wb} {s0 dl l g a i door : Nat} {f : List Nat → D} {ws0 more : Wys} (h : LvI S0 S w s0 f dl l g ws0 more a i door) {x : Nat × List Nat} (hx : (ws0.drop a)[i]? = some x) : (ws0 ++ more)[a + i]? = some x := by
  rw [List.getElem?_drop] at hx
  rw [List.getElem?_append_left (List.getElem?_eq_some_iff.mp hx).1]
  exact hx
/-- a door to a room that was met -/
theorem LvI.old {S0 S : Sto} {w : Wb} {s0 dl l g a i door : Nat} {f : List Nat → D} {ws0 more : Wys} (h : LvI S0 S w s0 f dl l g ws0 more a i door) {u : Nat} {q : List Nat} (hx : (ws0.drop a)[i]? = some (u, q)) {e : End} (he : aT w u door = some e) (ho : ∃ (i : Nat) (p : List Nat), (ws0 ++ more)[i]? = some (e.1, p)) : LvI S0 S w s0 f dl l g ws0 more a i (door + 1) := by
  refine ⟨⟨h.at_.dict, h.at_.bfs.old (h.spot hx) fun v hv => ?_, h.at_.lt, h.at_.len, h.at_.fr⟩, h.last, h.next, h.gl, h.dg, h.gg⟩
  unfold stW at hv
  rw [he] at hv; cases hv
  exact ho
/-- a door to a new room -/
theorem LvI.new {S0 S : Sto} {w : Wb} {s0 dl l g a i door : Nat} {f : List Nat → D} {ws0 more : Wys} (h : LvI S0 S w s0 f dl l g ws0 more a i door) {u : Nat} {q : List Nat} (hx : (ws0.drop a)[i]? = some (u, q)) {e : End} (he : aT w u door = some e) (hel : e.1 < w.length) (hn : ∀ (i : Nat) (p : List Nat), (ws0 ++ more)[i]? ≠ some (e.1, p)) :
    LvI S0 ((S.set dl (.dK (kvW f (ws0 ++ more ++ [(e.1, q ++ [door])])))).set g (.lst (rmD more ++ [nD e.1]))) w s0 f dl l g ws0 (more ++ [(e.1, q ++ [door])]) a i (door + 1) := by
  have hd := h.at_.dict
  have hl := h.last
  have hg := h.next
  have n1 : dl ≠ g := fun z => by subst z; rw [hd] at hg; cases hg
  have n2 : dl ≠ l := fun z => by subst z; rw [hd] at hl; cases hl
  have n3 := h.gl
  have b := h.at_.bfs.new (h.spot hx) (v := e.1) (by unfold stW; rw [he]; rfl) hn
  rw [List.append_assoc] at b
  refine ⟨⟨?_, b, ?_, ?_, ?_⟩, ?_, ?_, n3, h.dg, h.gg⟩
  · rw [sto_ne (Ne.symm n1), sto_set hd, List.append_assoc]
  · intro x hx
    rw [← List.append_assoc] at hx
    rcases List.mem_append.mp hx with hx | hx
    · exact h.at_.lt x hx
    · simp at hx; subst hx; exact hel
  · simpa using h.at_.len
  · intro n hn
    rw [sto_ne (by have := h.gg; omega), sto_ne (by have := h.dg; omega)]
    exact h.at_.fr n hn
  · rw [sto_ne n3, sto_ne n2]; exact hl
  · rw [sto_set (p := .lst (rmD more)) (by rw [sto_ne n1]; exact hg), rmD_app]
end SW
namespace SW
open PySem L2

theorem Rch.run {w : Wb} {a b : Nat} (h : Rch w a b) : ∃ p, runS (stW w) a p = some b := by
  induction h with
  | refl => exact ⟨[], rfl⟩
  | step _ ad ih =>
    obtain ⟨p, hp⟩ := ih
    obtain ⟨i, j, h⟩ := ad
    refine ⟨p ++ [i], ?_⟩
    rw [runS_snoc, hp, Option.bind_some]
    exact stW_some.mpr ⟨j, h⟩
def wF (p : List Nat) : D := .tup (p.map nD)
/-! by the distances -/
/-- how far each room is from a goal -/
structure FarOk (w : Wb) (goal : Nat) (far : Nat → Nat) : Prop where
  zero : far goal = 0
  up : ∀ r d s j, aT w r d = some (s, j) → far r ≤ far s + 1
  down : ∀ r, r < w.length → r ≠ goal → ∃ d s j, aT w r d = some (s, j) ∧ far s < far r
def farOf (ws : Wys) (r : Nat) : Nat := match (ws.find? fun x => decide (x.1 = r)) with | some x => x.2.length | none => 0
theorem Bfs.find {st : Nat → Nat → Option Nat} {s0 a d : Nat} {ws : Wys} (B : Bfs st s0 ws a d) {i r : Nat} {p : List Nat} (h : ws[i]? = some (r, p)) : farOf ws r = p.length := by
  unfold farOf
  cases e : ws.find? fun x => decide (x.1 = r) with
  | none =>
    exfalso
    have := List.find?_eq_none.mp e (r, p) (List.mem_of_getElem? h)
    simp at this
  | some x =>
    have h1 := List.find?_some e
    simp at h1
    obtain ⟨j, hj⟩ := List.getElem?_of_mem (List.mem_of_find?_eq_some e)
    obtain ⟨x1, x2⟩ := x
    have h1 : x1 = r := h1
    subst h1
    rw [(B.same h hj).2]
theorem Bfs.far {w : Wb} {goal : Nat} {ws : Wys} (W : IsWeb w) (hg : goal < w.length) (B : Bfs (stW w) goal ws ws.length 0) (hl : ∀ x ∈ ws, x.1 < w.length) : FarOk w goal (farOf ws) ∧ ∀ r, r < w.length → ∃ (i : Nat) (p : List Nat), ws[i]? = some (r, p) := by
  have all : ∀ r, r < w.length → ∃ (i : Nat) (p : List Nat), ws[i]? = some (r, p) := fun r hr => by
    obtain ⟨p, hp⟩ := (W.rch hg hr).run
    obtain ⟨i, q, e, _⟩ := B.all (Nat.le_refl _) hp
    exact ⟨i, q, e⟩
  have hc := W.back.closed
  refine ⟨⟨?_, fun r d s j h => ?_, fun r hr hne => ?_⟩, all⟩
  · rw [B.find B.hd]; rfl
  · have hb := W.back r d s j h
    have hs := hc r d s j h
    obtain ⟨i, p, e⟩ := all s hs
    have hil := (List.getElem?_eq_some_iff.mp e).1
    obtain ⟨i', p', e', le⟩ := B.cov i s p j r e (.inl hil) (stW_some.mpr ⟨d, hb⟩)
    rw [B.find e, B.find e']
    have := sle_len le
    simpa using this
  · obtain ⟨i, p, e⟩ := all r hr
    have hi : 0 < i := by
      rcases Nat.eq_zero_or_pos i with rfl | z
      · rw [B.hd] at e; cases e; exact absurd rfl hne
      · exact z
    obtain ⟨j, u, q, d, e1, e2, e3, _⟩ := B.par i r p hi e
    obtain ⟨k, e4⟩ := stW_some.mp e2
    refine ⟨k, u, d, W.back u d r k e4, ?_⟩
    rw [B.find e, B.find e1, e3]; simp
/-- the doors that lead nearer, first ones: the least way -/
theorem FarOk.len {w : Wb} {goal : Nat} {far : Nat → Nat} (F : FarOk w goal far) : ∀ (p : List Nat) (r : Nat), runS (stW w) r p = some goal → far r ≤ p.length
  | [], r, h => by
    cases h
    rw [F.zero]; exact Nat.zero_le _
  | d :: p, r, h => by
    obtain ⟨s, h1, h2⟩ := Option.bind_eq_some_iff.mp h
    obtain ⟨j, h1⟩ := stW_some.mp h1
    have := F.len p s h2
    have := F.up r d s j h1
    simp; omega
theorem sle_cons {a b : Nat} {p q : List Nat} (h : a < b ∨ (a = b ∧ sle p q)) (hl : p.length = q.length) : sle (a :: p) (b :: q) := by
  rcases h with h | ⟨rfl, (h | h) | rfl⟩
  · exact .inl (.inr ⟨by simp [hl], .inl h⟩)
  · omega
  · exact .inl (.inr ⟨by simp [hl], .inr ⟨rfl, h.2⟩⟩)
  · exact sle_rfl
theorem FarOk.step {w : Wb} {goal : Nat} {far : Nat → Nat} (F : FarOk w goal far) {r d s j : Nat} {p : List Nat} (ha : aT w r d = some (s, j)) (hf : far s < far r) (hmin : ∀ d' s' j', d' < d → aT w r d' = some (s', j') → ¬ far s' < far r)
    (h : Least (fun p => runS (stW w) s p = some goal) p) (hp : p.length = far s) : Least (fun p => runS (stW w) r p = some goal) (d :: p) ∧ (d :: p).length = far r := by
  have hu := F.up r d s j ha
  have hl : (d :: p).length = far r := by simp; omega
  refine ⟨⟨?_, fun q hq => ?_⟩, hl⟩
  · show (stW w r d).bind _ = _
    rw [stW_some.mpr ⟨j, ha⟩, Option.bind_some]
    exact h.1
  · have hlen := F.len q r hq
    rcases Nat.lt_or_ge (far r) q.length with z | z
    · exact .inl (.inl (by omega))
    · cases q with
      | nil =>
        simp at hlen
        omega
      | cons d' q =>
        obtain ⟨s', h1, h2⟩ := Option.bind_eq_some_iff.mp hq
        obtain ⟨j', h1⟩ := stW_some.mp h1
        have hlq := F.len q s' h2
        simp at z
        have hlt : far s' < far r := by omega
        have hqp : p.length = q.length := by
          have := F.up r d' s' j' h1
          simp at hlen
          omega
        refine sle_cons ?_ hqp
        rcases Nat.lt_trichotomy d d' with y | y | y
        · exact .inl y
        · subst y
          rw [ha] at h1; cases h1
          exact .inr ⟨rfl, h.2 q h2⟩
        · exact absurd hlt (hmin d' s' j' y h1)
end SW
namespace SW
open PySem L2

/-! trees and their equality -/
mutual
def beqD : D → D → Bool
  | .non, .non => true
  | .bl a, .bl b => decide (a = b)
  | .int a, .int b => decide (a = b)
  | .str a, .str b => decide (a = b)
  | .tup a, .tup b => beqDs a b
  | .fl a, .fl b => beqDs a b
  | .loc a, .loc b => decide (a = b)
  | .ty a, .ty b => decide (a = b)
  | _, _ => false
def beqDs : List D → List D → Bool
  | [], [] => true
  | a :: as, b :: bs => beqD a b && beqDs as bs
  | _, _ => false
end
mutual
theorem beqD_rfl : ∀ a : D, beqD a a = true
  | .non => rfl
  | .bl _ => by simp [beqD]
  | .int _ => by simp [beqD]
  | .str _ => by simp [beqD]
  | .tup a => by simp only [beqD]; exact beqDs_rfl a
  | .fl a => by simp only [beqD]; exact beqDs_rfl a
  | .loc _ => by simp [beqD]
  | .ty _ => by simp [beqD]
theorem beqDs_rfl : ∀ a : List D, beqDs a a = true
  | [] => rfl
  | a :: as => by simp only [beqDs, beqD_rfl a, beqDs_rfl as, Bool.and_self]
end
mutual
theorem beqD_eq : ∀ a b : D, beqD a b = true → a = b
  | .non, b, h => by cases b <;> simp [beqD] at h; rfl
  | .bl _, b, h => by cases b <;> simp [beqD] at h; subst h; rfl
  | .int _, b, h => by cases b <;> simp [beqD] at h; subst h; rfl
  | .str _, b, h => by cases b <;> simp [beqD] at h; subst h; rfl
  | .tup a, b, h => by
    cases b <;> simp only [beqD, Bool.false_eq_true] at h
    rw [beqDs_eq a _ h]
  | .fl a, b, h => by
    cases b <;> simp only [beqD, Bool.false_eq_true] at h
    rw [beqDs_eq a _ h]
  | .loc _, b, h => by cases b <;> simp [beqD] at h; subst h; rfl
  | .ty _, b, h => by cases b <;> simp [beqD] at h; subst h; rfl
theorem beqDs_eq : ∀ a b : List D, beqDs a b = true → a = b
  | [], [], _ => rfl
  | [], _ :: _, h => by simp [beqDs] at h
  | _ :: _, [], h => by simp [beqDs] at h
  | a :: as, b :: bs, h => by
    simp only [beqDs, Bool.and_eq_true] at h
    rw [beqD_eq a b h.1, beqDs_eq as bs h.2]
end
instance : DecidableEq D := fun a b => if h : beqD a b = true then .isTrue (beqD_eq a b h) else .isFalse fun e => h (by rw [e]; exact beqD_rfl b)
mutual
/-- ground: nothing of the store, no truths, no texts -/
def gn : D → Bool
  | .non => true
  | .int _ => true
  | .str x => PyData.strOk x
  | .tup ds => gns ds
  | _ => false
def gns : List D → Bool
  | [] => true
  | d :: ds => gn d && gns ds
end
mutual
def toP : D → PyData
  | .int i => .int i
  | .str x => .str x
  | .bl b => .bool b
  | .tup ds => .tuple (toPs ds)
  | .fl ds => .list (toPs ds)
  | _ => .none
def toPs : List D → List PyData
  | [] => []
  | d :: ds => toP d :: toPs ds
end
mutual
def dp : D → Nat
  | .tup ds => dps ds + 1
  | _ => 0
def dps : List D → Nat
  | [] => 0
  | d :: ds => max (dp d) (dps ds)
end
mutual
theorem gn_py (g : Nat → Option PyData) : ∀ d : D, gn d = true → pyD g d = some (toP d)
  | .non, _ => rfl
  | .int _, _ => rfl
  | .str _, _ => rfl
  | .tup ds, h => by
    simp only [gn] at h
    simp only [pyD, gns_py g ds h, Option.map_some, toP]
  | .bl _, h => by simp [gn] at h
  | .fl _, h => by simp [gn] at h
  | .loc _, h => by simp [gn] at h
  | .ty _, h => by simp [gn] at h
theorem gns_py (g : Nat → Option PyData) : ∀ ds : List D, gns ds = true → pyDs g ds = some (toPs ds)
  | [], _ => rfl
  | d :: ds, h => by
    simp only [gns, Bool.and_eq_true] at h
    simp only [pyDs, gn_py g d h.1, gns_py g ds h.2, Option.bind_some, Option.map_some, toPs]
end
mutual
theorem gn_can : ∀ d : D, gn d = true → (toP d).canLay0 = true
  | .non, _ => rfl
  | .int _, _ => rfl
  | .str _, h => by simpa only [gn, toP, PyData.canLay0] using h
  | .tup ds, h => by
    simp only [gn] at h
    simp only [toP, PyData.canLay0, gns_can ds h]
  | .bl _, h => by simp [gn] at h
  | .fl _, h => by simp [gn] at h
  | .loc _, h => by simp [gn] at h
  | .ty _, h => by simp [gn] at h
theorem gns_can : ∀ ds : List D, gns ds = true → PyData.canLayAll0 (toPs ds) = true
  | [], _ => rfl
  | d :: ds, h => by
    simp only [gns, Bool.and_eq_true] at h
    simp only [toPs, PyData.canLayAll0, gn_can d h.1, gns_can ds h.2, Bool.and_self]
end
mutual
theorem gn_dep : ∀ d : D, gn d = true → (toP d).depth ≤ dp d
  | .non, _ => by simp [toP, dp, PyData.depth]
  | .int _, _ => by simp [toP, dp, PyData.depth]
  | .str _, _ => by simp [toP, dp, PyData.depth]
  | .tup ds, h => by
    simp only [gn] at h
    have := gns_dep ds h
    simp only [toP, dp, PyData.depth]
    omega
  | .bl _, h => by simp [gn] at h
  | .fl _, h => by simp [gn] at h
  | .loc _, h => by simp [gn] at h
  | .ty _, h => by simp [gn] at h
theorem gns_dep : ∀ ds : List D, gns ds = true → PyData.depthAll (toPs ds) ≤ dps ds
  | [], _ => by simp [toPs, dps, PyData.depthAll]
  | d :: ds, h => by
    simp only [gns, Bool.and_eq_true] at h
    have h1 := gn_dep d h.1
    have h2 := gns_dep ds h.2
    simp only [toPs, dps, PyData.depthAll]
    omega
end
mutual
theorem gn_eqv : ∀ a b : D, gn a = true → gn b = true → PyData.eqv (toP a) (toP b) = decide (a = b)
  | .non, b, _, hb => by cases b <;> simp [gn] at hb <;> simp [toP, PyData.eqv]
  | .int i, b, _, hb => by
    cases b <;> simp [gn] at hb <;> simp [toP, PyData.eqv]
    rename_i j
    by_cases e : i = j
    · subst e; simp
    · simp [e]
  | .str x, b, _, hb => by
    cases b <;> simp [gn] at hb <;> simp [toP, PyData.eqv]
    rename_i y
    by_cases e : x = y
    · subst e; simp
    · simp [e]
  | .tup a, b, ha, hb => by
    cases b <;> simp only [gn, Bool.false_eq_true] at ha hb
    · simp [toP, PyData.eqv]
    · simp [toP, PyData.eqv]
    · simp [toP, PyData.eqv]
    · simp only [toP, PyData.eqv, gns_eqv a _ ha hb, D.tup.injEq]
  | .bl _, _, h, _ => by simp [gn] at h
  | .fl _, _, h, _ => by simp [gn] at h
  | .loc _, _, h, _ => by simp [gn] at h
  | .ty _, _, h, _ => by simp [gn] at h
theorem gns_eqv : ∀ a b : List D, gns a = true → gns b = true → PyData.eqvAll (toPs a) (toPs b) = decide (a = b)
  | [], [], _, _ => rfl
  | [], _ :: _, _, _ => rfl
  | _ :: _, [], _, _ => rfl
  | a :: as, b :: bs, ha, hb => by
    simp only [gns, Bool.and_eq_true] at ha hb
    simp only [toPs, PyData.eqvAll, gn_eqv a b ha.1 hb.1, gns_eqv as bs ha.2 hb.2, List.cons.injEq]
    by_cases h1 : a = b <;> by_cases h2 : as = bs <;> simp [h1, h2]
end
/-- ground, not too deep -/
def gd (d : D) : Prop := gn d = true ∧ dp d ≤ 60
theorem gd_py {S : Sto} {d : D} (h : gd d) : pyOf S d = some (toP d) := by
  unfold pyOf
  rw [gn_py _ d h.1, Option.bind_some, if_pos]
  unfold SeqAt.shaped
  rw [Bool.and_eq_true]
  exact ⟨gn_can d h.1, decide_eq_true (by have := gn_dep d h.1; have := h.2; omega)⟩
theorem wq_eqG {a b : D} {S : Sto} {Q : D → Sto → Prop} (ha : gd a) (hb : gd b) : Wp (eqD a b S) Q ↔ Q (.bl (decide (a = b))) S := by
  have e : eqD a b S = some (.bl (decide (a = b)), S) := by
    unfold eqD
    rw [gd_py ha, gd_py hb]
    simp only [Option.bind_some, Option.map_some, gn_eqv a b ha.1 hb.1]
  rw [e]; exact wp_some
theorem wq_neG {a b : D} {S : Sto} {Q : D → Sto → Prop} (ha : gd a) (hb : gd b) : Wp (neD a b S) Q ↔ Q (.bl (!decide (a = b))) S := by
  have e : neD a b S = some (.bl (!decide (a = b)), S) := by
    unfold neD
    rw [gd_py ha, gd_py hb]
    simp only [Option.bind_some, Option.map_some, gn_eqv a b ha.1 hb.1]
  rw [e]; exact wp_some
/-- ground, at most k deep -/
def gk (k : Nat) (d : D) : Prop := gn d = true ∧ dp d ≤ k
theorem gk.gd {k : Nat} {d : D} (h : gk k d) (hk : k ≤ 60 := by decide) : gd d := ⟨h.1, by have := h.2; omega⟩
end SW
namespace SW
open PySem L2
end SW
namespace SW
open PySem L2

/-! numbers by first comings -/
section
variable {α β : Type} [DecidableEq α] [DecidableEq β]
def addL (acc : List α) (x : α) : List α := if x ∈ acc then acc else acc ++ [x]
def seenL (L : List α) : List α := L.foldl addL []
def numL (L : List α) : List Nat := L.map fun x => (seenL L).idxOf x
theorem addL_mem {acc : List α} {x y : α} : y ∈ addL acc x ↔ y ∈ acc ∨ y = x := by
  unfold addL
  split
  · rename_i h
    constructor
    · exact .inl
    · rintro (h' | rfl)
      · exact h'
      · exact h
  · simp
theorem foldl_mem : ∀ (L acc : List α) (y : α), y ∈ L.foldl addL acc ↔ y ∈ acc ∨ y ∈ L
  | [], acc, y => by simp
  | x :: L, acc, y => by
    rw [List.foldl_cons, foldl_mem L, addL_mem, List.mem_cons]
    constructor
    · rintro ((h | h) | h)
      · exact .inl h
      · exact .inr (.inl h)
      · exact .inr (.inr h)
    · rintro (h | h | h)
      · exact .inl (.inl h)
      · exact .inl (.inr h)
      · exact .inr h
theorem seenL_mem {L : List α} {y : α} : y ∈ seenL L ↔ y ∈ L := by
  unfold seenL
  rw [foldl_mem]; simp
theorem addL_nd {acc : List α} {x : α} (h : acc.Nodup) : (addL acc x).Nodup := by
  unfold addL
  split
  · exact h
  · rename_i hx
    rw [List.nodup_append]
    refine ⟨h, by simp, fun a ha b hb e => ?_⟩
    simp at hb
    subst hb; subst e
    exact hx ha
theorem foldl_nd : ∀ (L acc : List α), acc.Nodup → (L.foldl addL acc).Nodup
  | [], _, h => h
  | x :: L, _, h => foldl_nd L _ (addL_nd h)
theorem seenL_nd (L : List α) : (seenL L).Nodup := foldl_nd L [] List.nodup_nil
theorem seenL_snoc (L : List α) (x : α) : seenL (L ++ [x]) = addL (seenL L) x := by
  unfold seenL
  rw [List.foldl_append]; rfl
theorem seenL_take {L : List α} {i : Nat} {x : α} (h : L[i]? = some x) : seenL (L.take (i + 1)) = addL (seenL (L.take i)) x := by
  rw [List.take_add_one, h]
  exact seenL_snoc _ _
theorem addL_len {acc : List α} {x : α} : (addL acc x).length ≤ acc.length + 1 := by
  unfold addL; split <;> simp
theorem seenL_len (L : List α) : (seenL L).length ≤ L.length := by
  have all : ∀ (L acc : List α), (L.foldl addL acc).length ≤ acc.length + L.length := by
    intro L
    induction L with
    | nil => simp
    | cons x L ih =>
      intro acc
      rw [List.foldl_cons, List.length_cons]
      have := ih (addL acc x)
      have := addL_len (acc := acc) (x := x)
      omega
  simpa [seenL] using all L []
/-- under a map that keeps unlike ones unlike -/
theorem foldl_map {f : α → β} (hf : ∀ a b, f a = f b → a = b) : ∀ (L acc : List α), (L.map f).foldl addL (acc.map f) = (L.foldl addL acc).map f
  | [], acc => rfl
  | x :: L, acc => by
    rw [List.map_cons, List.foldl_cons, List.foldl_cons]
    have : addL (acc.map f) (f x) = (addL acc x).map f := by
      unfold addL
      by_cases h : x ∈ acc
      · rw [if_pos h, if_pos (List.mem_map.mpr ⟨x, h, rfl⟩)]
      · rw [if_neg h, if_neg]
        · simp
        · intro hm
          obtain ⟨y, hy, e⟩ := List.mem_map.mp hm
          rw [hf _ _ e] at hy
          exact h hy
    rw [this, foldl_map hf L]
theorem idxOf_map {f : α → β} (hf : ∀ a b, f a = f b → a = b) (x : α) : ∀ L : List α, (L.map f).idxOf (f x) = L.idxOf x
  | [] => rfl
  | y :: L => by
    rw [List.map_cons, List.idxOf_cons, List.idxOf_cons, idxOf_map hf x L]
    by_cases h : y = x
    · subst h; simp
    · have : ¬ f y = f x := fun e => h (hf _ _ e)
      have h1 : (y == x) = false := by simpa using h
      have h2 : (f y == f x) = false := by simpa using this
      rw [h1, h2]
theorem numL_map {f : α → β} (hf : ∀ a b, f a = f b → a = b) (L : List α) : numL (L.map f) = numL L := by
  unfold numL seenL
  have := foldl_map hf L []
  rw [List.map_nil] at this
  rw [this, List.map_map]
  exact List.map_congr_left fun x _ => idxOf_map hf x _
theorem numL_len (L : List α) : (numL L).length = L.length := by simp [numL]
theorem numL_get {L : List α} {i : Nat} {x : α} (h : L[i]? = some x) : (numL L)[i]? = some ((seenL L).idxOf x) := by
  unfold numL
  rw [List.getElem?_map, h]; rfl
theorem idxOf_inj {L : List α} {x y : α} (hx : x ∈ L) (h : L.idxOf x = L.idxOf y) : x = y := by
  have h1 : L.idxOf x < L.length := List.idxOf_lt_length_iff.mpr hx
  have h2 : L.idxOf y < L.length := by omega
  have e1 := List.getElem_idxOf h1
  have e2 := List.getElem_idxOf h2
  simp only [h] at e1
  rw [← e1, e2]
/-- unlike ones have unlike numbers -/
theorem numL_eq {L : List α} {i j : Nat} {x y : α} (hi : L[i]? = some x) (hj : L[j]? = some y) : (numL L)[i]? = (numL L)[j]? ↔ x = y := by
  rw [numL_get hi, numL_get hj, Option.some.injEq]
  constructor
  · exact idxOf_inj (seenL_mem.mpr (List.mem_of_getElem? hi))
  · rintro rfl; rfl
end
section
variable {α : Type} [DecidableEq α]
end
end SW
namespace SW
open PySem L2
end SW
namespace SW
open PySem L2

/-! looks: a number and what is seen behind the doors -/
abbrev Look := Nat × List End
/-! numbered_looks -/
section
variable {α : Type} [DecidableEq α] {enc : α → D} {mk : List α → MO}
end
/-! finer looks -/
def lookR (ns : List Nat) (r : Nat) (row : List End) : Look := (ns.getD r 0, row.map fun e => (e.2, ns.getD e.1 0))
def finer (w : Wb) (ns : List Nat) : List Look := w.zipIdx.map fun p => lookR ns p.2 p.1
theorem finer_get {w : Wb} {ns : List Nat} {r : Nat} {row : List End} (h : w[r]? = some row) : (finer w ns)[r]? = some (lookR ns r row) := by
  unfold finer
  rw [List.getElem?_map, List.getElem?_zipIdx, h]; simp
theorem finer_len (w : Wb) (ns : List Nat) : (finer w ns).length = w.length := by simp [finer]
/-! rounds -/
def rndF (w : Wb) (base : List Nat) : Nat → List Nat
  | 0 => base
  | n + 1 => numL (finer w (rndF w base n))
def rnd (w : Wb) : Nat → List Nat := rndF w (numL (w.map List.length))
theorem rndF_len {w : Wb} {base : List Nat} (hb : base.length = w.length) : ∀ n, (rndF w base n).length = w.length
  | 0 => hb
  | n + 1 => by unfold rndF; rw [numL_len, finer_len]
theorem rnd_len (w : Wb) (n : Nat) : (rnd w n).length = w.length := rndF_len (by rw [numL_len, List.length_map]) n
theorem rndF_stay {w : Wb} {base : List Nat} {n : Nat} (h : rndF w base (n + 1) = rndF w base n) : ∀ m, n ≤ m → rndF w base m = rndF w base n := by
  intro m
  induction m with
  | zero => intro hm; have : n = 0 := by omega
            subst this; rfl
  | succ m ih =>
    intro hm
    rcases Nat.lt_or_ge n (m + 1) with z | z
    · have := ih (by omega)
      show numL (finer w (rndF w base m)) = _
      rw [this]; exact h
    · have : n = m + 1 := by omega
      rw [this]
end SW
namespace SW
open PySem L2

end SW
namespace SW
open PySem L2

/-! rooms by their numbers -/
def grp (ns : List Nat) (k : Nat) : List Nat := (List.range ns.length).filter fun r => decide (ns.getD r 0 = k)
/-- a list of lists of numbers, in the store -/
def Nest (S : Sto) (f : Nat) (xss : List (List Nat)) : Prop := ∃ ls : List Nat, S[f]? = some (.lst (ls.map D.loc)) ∧ ls.length = xss.length ∧ ∀ (j l : Nat) (xs : List Nat), ls[j]? = some l → xss[j]? = some xs → S[l]? = some (.lst (xs.map nD))
theorem Nest.of {S S' : Sto} {f : Nat} {xss : List (List Nat)} (h : Nest S f xss) (k : ∀ n, n < S.length → S'[n]? = S[n]?) : Nest S' f xss := by
  obtain ⟨ls, h1, h2, h3⟩ := h
  refine ⟨ls, (k f (sto_lt h1)).trans h1, h2, fun j l xs e1 e2 => ?_⟩
  have := h3 j l xs e1 e2
  exact (k l (sto_lt this)).trans this
end SW
namespace SW
open PySem L2

/-! comprehensions over enumerate(list), zip(list, list) -/
section
variable {g : D → Tau → Option Tau} {t : EvT} {f : EvE} {τ : Tau} {S : Sto} {Q : List D → Sto → Prop}
theorem lc_en (n : Nat) (ds : List D) (hz : ds.length ≤ 1000000) (I : Nat → List D → Sto → Prop) (h0 : I 0 [] S) (hl : ∀ i acc S, I i acc S → S[n]? = some (.lst ds))
    (hs : ∀ i d acc S, ds[i]? = some d → I i acc S → ∃ τ1, g (pr (i : Int) d) τ = some τ1 ∧ Wp (t τ1 S) fun v S1 => if v = true then Wp (f τ1 S1) fun y S2 => I (i + 1) (acc ++ [y]) S2 else I (i + 1) acc S1)
    (he : ∀ acc S, I ds.length acc S → Q acc S) : Wp (lcL (.en n ds.length) g t f τ (Src.en n ds.length).len 0 [] S) Q :=
  wp_lcL (.en n ds.length) (enumsT 0 ds) g t f τ I (by rw [enumsT_len]; exact hz) (fun i d acc S h hI => by
    rw [enumsT_get, Nat.zero_add] at h
    simp only [Src.en, lsN_of (hl i acc S hI), Option.bind_some]; exact h) (fun acc S hI => by simp only [Src.en, lsN_of (hl _ acc S hI)]; rfl)
    (fun i d acc S h hI => by
      rw [enumsT_get, Nat.zero_add] at h
      obtain ⟨d', h1, rfl⟩ := Option.map_eq_some_iff.mp h
      exact hs i d' acc S h1 hI) (by rw [enumsT_len]; exact he) _ 0 [] S (by simp [Src.en, enumsT_len]) (by simp) h0
def Src.zz (m k la lb : Nat) : Src := ⟨min la lb, fun S i => (lsN (.loc m) la S).bind fun es => (lsN (.loc k) lb S).bind fun fs => (es[i]?).bind fun a => (fs[i]?).map fun b => .tup [a, b],
  fun S => (lsN (.loc m) la S).isSome && (lsN (.loc k) lb S).isSome⟩
theorem lc_zip (m k : Nat) (as bs : List D) (hab : as.length = bs.length) (hz : as.length ≤ 1000000) (I : Nat → List D → Sto → Prop) (h0 : I 0 [] S) (hl : ∀ i acc S, I i acc S → S[m]? = some (.lst as) ∧ S[k]? = some (.lst bs))
    (hs : ∀ i x y acc S, as[i]? = some x → bs[i]? = some y → I i acc S → ∃ τ1, g (.tup [x, y]) τ = some τ1 ∧ Wp (t τ1 S) fun v S1 => if v = true then Wp (f τ1 S1) fun y S2 => I (i + 1) (acc ++ [y]) S2 else I (i + 1) acc S1)
    (he : ∀ acc S, I as.length acc S → Q acc S) : ∃ s, srcZip (.loc m) (.loc k) S = some s ∧ Wp (lcL s g t f τ s.len 0 [] S) Q := by
  have lof : ∀ {S : Sto} {n : Nat} {ds : List D}, S[n]? = some (.lst ds) → lsOf (.loc n) S = some ds := fun h => by simp only [lsOf, h]
  obtain ⟨z1, z2⟩ := hl 0 [] S h0
  have hsz : srcZip (.loc m) (.loc k) S = some (.zz m k as.length bs.length) := by
    simp only [srcZip, lof z1, lof z2, Option.bind_some, Option.map_some]; rfl
  refine ⟨_, hsz, ?_⟩
  have hlen : (zipsT as bs).length = as.length := by rw [zipsT_len]; omega
  refine wp_lcL (.zz m k as.length bs.length) (zipsT as bs) g t f τ I (by omega) (fun i d acc S h hI => ?_) (fun acc S hI => ?_) (fun i d acc S h hI => ?_) (by rw [hlen]; exact he) _ 0 [] S ?_ (by simp) h0
  · obtain ⟨y1, y2⟩ := hl i acc S hI
    obtain ⟨a, b, h1, h2, rfl⟩ := zipsT_get _ _ _ _ h
    simp only [Src.zz, lsN_of y1, lsN_of y2, Option.bind_some, h1, h2, Option.map_some]
  · obtain ⟨y1, y2⟩ := hl _ acc S hI
    simp only [Src.zz, lsN_of y1, lsN_of y2]; rfl
  · obtain ⟨a, b, h1, h2, rfl⟩ := zipsT_get _ _ _ _ h
    exact hs i a b acc S h1 h2 hI
  · simp only [Src.zz]; omega
end
/-! the same, in lists and tuples -/
def Sm (S : Sto) : Nat → D → D → Prop
  | 0, a, b => ∃ i : Int, a = .int i ∧ b = .int i
  | n + 1, a, b => (∃ i : Int, a = .int i ∧ b = .int i) ∨ (∃ (m k : Nat) (as bs : List D), a = .loc m ∧ b = .loc k ∧ S[m]? = some (.lst as) ∧ S[k]? = some (.lst bs) ∧ as.length = bs.length ∧ as.length ≤ 1000 ∧ ∀ (i : Nat) (x y : D), as[i]? = some x → bs[i]? = some y → Sm S n x y)
theorem Sm.of {S S' : Sto} (f : ∀ n, n < S.length → S'[n]? = S[n]?) : ∀ (n : Nat) (a b : D), Sm S n a b → Sm S' n a b
  | 0, _, _, h => h
  | n + 1, _, _, h => by
    rcases h with h | ⟨m, k, as, bs, h1, h2, h3, h4, h5, h6, h7⟩
    · exact .inl h
    · exact .inr ⟨m, k, as, bs, h1, h2, (f m (sto_lt h3)).trans h3, (f k (sto_lt h4)).trans h4, h5, h6, fun i x y e1 e2 => Sm.of f n x y (h7 i x y e1 e2)⟩
section
variable {S : Sto} {Q : D → Sto → Prop} {n : Nat} {ds : List D}
end
def look0 (marks : List Nat) (r : Nat) (row : List End) : End := (row.length, if r ∈ marks then 1 else 0)
def looks0 (w : Wb) (marks : List Nat) : List End := w.zipIdx.map fun p => look0 marks p.2 p.1
theorem looks0_get {w : Wb} {marks : List Nat} {r : Nat} {row : List End} (h : w[r]? = some row) : (looks0 w marks)[r]? = some (look0 marks r row) := by
  unfold looks0
  rw [List.getElem?_map, List.getElem?_zipIdx, h]; simp
theorem looks0_len (w : Wb) (marks : List Nat) : (looks0 w marks).length = w.length := by simp [looks0]
def rndM (w : Wb) (marks : List Nat) : Nat → List Nat := rndF w (numL (looks0 w marks))
theorem rndM_nil (w : Wb) (n : Nat) : rndM w [] n = rnd w n := by
  unfold rndM rnd
  congr 1
  have : looks0 w [] = (w.map List.length).map fun n => ((n, 0) : End) := by
    refine List.ext_getElem? fun r => ?_
    rw [List.map_map, List.getElem?_map]
    cases h : w[r]? with
    | none =>
      have : w.length ≤ r := List.getElem?_eq_none_iff.mp h
      rw [Option.map_none, List.getElem?_eq_none_iff, looks0_len]; exact this
    | some row => rw [looks0_get h]; simp [look0]
  rw [this]
  exact numL_map (fun a b h => by cases h; rfl) _
end SW
namespace SW
open PySem L2

end SW
namespace SW
open PySem L2

end SW
namespace SW

/-! ways that part two rooms; marks: rooms in which something lies -/
def parts (w1 w2 : Wb) (m1 m2 : Nat → Bool) : Nat → Nat → List Nat → Prop
  | r, s, [] => (rowD w1 r).length ≠ (rowD w2 s).length ∨ m1 r ≠ m2 s
  | r, s, d :: p => ((rowD w1 r).length ≠ (rowD w2 s).length ∨ m1 r ≠ m2 s) ∨ ∃ e e' : End, (rowD w1 r)[d]? = some e ∧ (rowD w2 s)[d]? = some e' ∧ (e.2 ≠ e'.2 ∨ parts w1 w2 m1 m2 e.1 e'.1 p)
theorem parts_symm {w1 w2 : Wb} {m1 m2 : Nat → Bool} : ∀ {p : List Nat} {r s : Nat}, parts w1 w2 m1 m2 r s p → parts w2 w1 m2 m1 s r p
  | [], r, s, h => h.imp Ne.symm Ne.symm
  | d :: p, r, s, h => by
    rcases h with h | ⟨e, e', h1, h2, h3⟩
    · exact .inl (h.imp Ne.symm Ne.symm)
    · exact .inr ⟨e', e, h2, h1, h3.imp Ne.symm parts_symm⟩
theorem parts_self {w : Wb} {m : Nat → Bool} : ∀ {p : List Nat} {r : Nat}, ¬ parts w w m m r r p
  | [], r, h => h.elim (fun z => z rfl) fun z => z rfl
  | d :: p, r, h => by
    rcases h with h | ⟨e, e', h1, h2, h3⟩
    · exact h.elim (fun z => z rfl) fun z => z rfl
    · rw [h1] at h2; cases h2
      exact h3.elim (fun z => z rfl) parts_self
theorem rowD_at {w : Wb} {r d : Nat} {e : End} : (rowD w r)[d]? = some e ↔ aT w r d = some e := by
  unfold rowD aT
  cases w[r]? <;> simp
/-! rooms with one number -/
section
variable (w : Wb) (base : List Nat)
def num (n x : Nat) : Nat := (rndF w base n).getD x 0
def lkF (n : Nat) (e : End) : End := (e.2, num w base n e.1)
end
section
variable {w : Wb} {base : List Nat} {mk : Nat → Bool}
theorem num_at (hb : base.length = w.length) {n x : Nat} (hx : x < w.length) : (rndF w base n)[x]? = some (num w base n x) := by
  unfold num
  rw [List.getD_eq_getElem?_getD, List.getElem?_eq_getElem (by rw [rndF_len hb]; exact hx)]
  simp
theorem row_at {x : Nat} (hx : x < w.length) : w[x]? = some (rowD w x) := by
  unfold rowD
  rw [List.getElem?_eq_getElem hx]; rfl
theorem num_succ (hb : base.length = w.length) {n x y : Nat} (hx : x < w.length) (hy : y < w.length) : num w base (n + 1) x = num w base (n + 1) y ↔ num w base n x = num w base n y ∧ (rowD w x).map (lkF w base n) = (rowD w y).map (lkF w base n) := by
  have h1 := num_at hb (n := n + 1) hx
  have h2 := num_at hb (n := n + 1) hy
  have h := numL_eq (finer_get (ns := rndF w base n) (row_at hx)) (finer_get (row_at hy))
  have e1 : (numL (finer w (rndF w base n)))[x]? = some (num w base (n + 1) x) := h1
  have e2 : (numL (finer w (rndF w base n)))[y]? = some (num w base (n + 1) y) := h2
  rw [e1, e2, Option.some.injEq] at h
  rw [h]
  unfold lookR
  rw [Prod.mk.injEq]; rfl
theorem num_mono (hb : base.length = w.length) {n m x y : Nat} (hx : x < w.length) (hy : y < w.length) (h : num w base n x = num w base n y) (hm : m ≤ n) : num w base m x = num w base m y := by
  induction n with
  | zero =>
    have : m = 0 := by omega
    subst this; exact h
  | succ n ih =>
    rcases Nat.lt_or_ge n m with z | z
    · have : m = n + 1 := by omega
      subst this; exact h
    · exact ih ((num_succ hb hx hy).mp h).1 z
theorem map_ends {f : End → End} {l m : List End} : l.map f = m.map f ↔ l.length = m.length ∧ ∀ (d : Nat) (e e' : End), l[d]? = some e → m[d]? = some e' → f e = f e' := by
  constructor
  · intro h
    refine ⟨by simpa using congrArg List.length h, fun d e e' h1 h2 => ?_⟩
    have := congrArg (fun z => z[d]?) h
    simp only [List.getElem?_map, h1, h2, Option.map_some, Option.some.injEq] at this
    exact this
  · rintro ⟨hl, h⟩
    refine List.ext_getElem? fun d => ?_
    rw [List.getElem?_map, List.getElem?_map]
    cases h1 : l[d]? with
    | none =>
      have : m[d]? = none := List.getElem?_eq_none_iff.mpr (by rw [← hl]; exact List.getElem?_eq_none_iff.mp h1)
      rw [this]
    | some e =>
      have hd : d < m.length := by rw [← hl]; exact (List.getElem?_eq_some_iff.mp h1).1
      rw [List.getElem?_eq_getElem hd, Option.map_some, Option.map_some, h d e _ h1 (List.getElem?_eq_getElem hd)]
/-- what the first numbers tell -/
def Base (w : Wb) (base : List Nat) (mk : Nat → Bool) : Prop := base.length = w.length ∧ ∀ x y, x < w.length → y < w.length → (num w base 0 x = num w base 0 y ↔ (rowD w x).length = (rowD w y).length ∧ mk x = mk y)
theorem no_parts (hc : Closed w) (B : Base w base mk) : ∀ {p : List Nat} {n x y : Nat}, x < w.length → y < w.length → num w base n x = num w base n y → p.length ≤ n → ¬ parts w w mk mk x y p
  | [], n, x, y, hx, hy, h, _, hp => by
    have h0 := num_mono B.1 hx hy h (Nat.zero_le n)
    obtain ⟨h1, h2⟩ := (B.2 x y hx hy).mp h0
    exact hp.elim (fun z => z h1) fun z => z h2
  | d :: p, n, x, y, hx, hy, h, hl, hp => by
    have h0 := num_mono B.1 hx hy h (Nat.zero_le n)
    obtain ⟨h1, h2⟩ := (B.2 x y hx hy).mp h0
    rcases hp with hp | ⟨e, e', a1, a2, a3⟩
    · exact hp.elim (fun z => z h1) fun z => z h2
    · cases n with
      | zero => simp at hl
      | succ n =>
        obtain ⟨_, hr⟩ := (num_succ B.1 hx hy).mp h
        have := (map_ends.mp hr).2 d e e' a1 a2
        unfold lkF at this
        simp only [Prod.mk.injEq] at this
        rcases a3 with a3 | a3
        · exact a3 this.1
        · exact no_parts hc B (hc _ _ _ _ (rowD_at.mp a1)) (hc _ _ _ _ (rowD_at.mp a2)) this.2 (by simpa using hl) a3
/-- the first door behind which the numbers of the round ahead are unlike -/
def FirstDoor (w : Wb) (base : List Nat) (n x y d : Nat) : Prop := (∃ (e e' : End), (rowD w x)[d]? = some e ∧ (rowD w y)[d]? = some e' ∧ lkF w base n e ≠ lkF w base n e') ∧ ∀ d' : Nat, d' < d → ∀ e e' : End, (rowD w x)[d']? = some e → (rowD w y)[d']? = some e' → lkF w base n e = lkF w base n e'
/-- the way by the first doors -/
inductive Greedy (w : Wb) (base : List Nat) : Nat → Nat → Nat → List Nat → Prop
  | nil {x y : Nat} : Greedy w base 0 x y []
  | cons {n x y d : Nat} {e e' : End} {p : List Nat} : FirstDoor w base n x y d → (rowD w x)[d]? = some e → (rowD w y)[d]? = some e' → Greedy w base n e.1 e'.1 p → Greedy w base (n + 1) x y (d :: p)
/-- n is the first round that tells x and y apart -/
def Apart (w : Wb) (base : List Nat) (n x y : Nat) : Prop := num w base n x ≠ num w base n y ∧ ∀ m, m < n → num w base m x = num w base m y
theorem first_door (B : Base w base mk) {n x y : Nat} (hx : x < w.length) (hy : y < w.length) (A : Apart w base (n + 1) x y) : ∃ d, FirstDoor w base n x y d := by
  have h1 : num w base n x = num w base n y := A.2 n (Nat.lt_succ_self n)
  have hlen : (rowD w x).length = (rowD w y).length := ((B.2 x y hx hy).mp (num_mono B.1 hx hy h1 (Nat.zero_le n))).1
  have h2 : ¬ (rowD w x).map (lkF w base n) = (rowD w y).map (lkF w base n) := fun z => A.1 ((num_succ B.1 hx hy).mpr ⟨h1, z⟩)
  rw [map_ends] at h2
  have h3 : ∃ (d : Nat) (e e' : End), (rowD w x)[d]? = some e ∧ (rowD w y)[d]? = some e' ∧ lkF w base n e ≠ lkF w base n e' := by
    apply Classical.byContradiction
    intro z
    exact h2 ⟨hlen, fun d e e' a1 a2 => Classical.byContradiction fun b => z ⟨d, e, e', a1, a2, b⟩⟩
  obtain ⟨d, h3⟩ := h3
  have least : ∀ d : Nat, (∃ (e e' : End), (rowD w x)[d]? = some e ∧ (rowD w y)[d]? = some e' ∧ lkF w base n e ≠ lkF w base n e') → ∃ d, FirstDoor w base n x y d := by
    intro d
    induction d using Nat.strongRecOn with
    | ind d ih =>
      intro h
      by_cases z : ∃ d' : Nat, d' < d ∧ ∃ (e e' : End), (rowD w x)[d']? = some e ∧ (rowD w y)[d']? = some e' ∧ lkF w base n e ≠ lkF w base n e'
      · obtain ⟨d', hd', h'⟩ := z
        exact ih d' hd' h'
      · exact ⟨d, h, fun d' hd' e e' a1 a2 => Classical.byContradiction fun b => z ⟨d', hd', e, e', a1, a2, b⟩⟩
  exact least d h3
theorem apart_next (B : Base w base mk) {n x y d : Nat} {e e' : End} (hx : x < w.length) (hy : y < w.length) (A : Apart w base (n + 2) x y) (F : FirstDoor w base (n + 1) x y d) (h1 : (rowD w x)[d]? = some e) (h2 : (rowD w y)[d]? = some e') : e.2 = e'.2 ∧ Apart w base (n + 1) e.1 e'.1 := by
  have back : ∀ m, m < n + 1 → e.2 = e'.2 ∧ num w base m e.1 = num w base m e'.1 := fun m hm => by
    have := A.2 (m + 1) (by omega)
    obtain ⟨_, hr⟩ := (num_succ B.1 hx hy).mp this
    have := (map_ends.mp hr).2 d e e' h1 h2
    unfold lkF at this
    simpa only [Prod.mk.injEq] using this
  refine ⟨(back 0 (by omega)).1, fun z => ?_, fun m hm => (back m hm).2⟩
  obtain ⟨⟨f, f', a1, a2, a3⟩, _⟩ := F
  rw [h1] at a1; cases a1
  rw [h2] at a2; cases a2
  exact a3 (by unfold lkF; rw [(back 0 (by omega)).1, z])
theorem greedy_least (hc : Closed w) (B : Base w base mk) : ∀ {n x y : Nat} {p : List Nat}, x < w.length → y < w.length → Apart w base n x y → Greedy w base n x y p → Least (parts w w mk mk x y) p ∧ p.length = n
  | 0, x, y, _, hx, hy, A, .nil => by
    refine ⟨⟨?_, fun q _ => ?_⟩, rfl⟩
    · have := A.1
      apply Classical.byContradiction
      intro z
      have z : ¬ ((rowD w x).length ≠ (rowD w y).length ∨ mk x ≠ mk y) := z
      refine this ((B.2 x y hx hy).mpr ⟨Classical.byContradiction fun b => z (.inl b), Classical.byContradiction fun b => z (.inr b)⟩)
    · cases q with
      | nil => exact sle_rfl
      | cons a q => exact .inl (.inl (by simp))
  | n + 1, x, y, _, hx, hy, A, .cons (d := d) (e := e) (e' := e') (p := p) F h1 h2 G => by
    have hel := hc _ _ _ _ (rowD_at.mp h1)
    have hel' := hc _ _ _ _ (rowD_at.mp h2)
    have hfar : ∀ q, parts w w mk mk x y q → n + 1 ≤ q.length := fun q hq => by
      apply Classical.byContradiction
      intro z
      exact no_parts hc B hx hy (A.2 n (Nat.lt_succ_self n)) (by omega) hq
    have hdiff : lkF w base n e ≠ lkF w base n e' := by
      obtain ⟨⟨f, f', a1, a2, a3⟩, _⟩ := F
      rw [h1] at a1; cases a1
      rw [h2] at a2; cases a2
      exact a3
    have late : ∀ d' q, parts w w mk mk x y (d' :: q) → q.length = n → d ≤ d' := fun d' q hq hl => by
      rcases Nat.lt_or_ge d' d with z | z
      · exfalso
        have h0 := A.2 0 (by omega)
        obtain ⟨c1, c2⟩ := (B.2 x y hx hy).mp h0
        rcases hq with hq | ⟨f, f', a1, a2, a3⟩
        · exact hq.elim (fun z => z c1) fun z => z c2
        · have := F.2 d' z f f' a1 a2
          unfold lkF at this
          simp only [Prod.mk.injEq] at this
          rcases a3 with a3 | a3
          · exact a3 this.1
          · exact no_parts hc B (hc _ _ _ _ (rowD_at.mp a1)) (hc _ _ _ _ (rowD_at.mp a2)) this.2 (by omega) a3
      · exact z
    cases n with
    | zero =>
      cases G
      refine ⟨⟨?_, fun q hq => ?_⟩, rfl⟩
      · refine .inr ⟨e, e', h1, h2, ?_⟩
        by_cases z : e.2 = e'.2
        · refine .inr ?_
          have h3 : num w base 0 e.1 ≠ num w base 0 e'.1 := fun b => hdiff (by unfold lkF; rw [z, b])
          apply Classical.byContradiction
          intro b
          have b : ¬ ((rowD w e.1).length ≠ (rowD w e'.1).length ∨ mk e.1 ≠ mk e'.1) := b
          exact h3 ((B.2 _ _ hel hel').mpr ⟨Classical.byContradiction fun c => b (.inl c), Classical.byContradiction fun c => b (.inr c)⟩)
        · exact .inl z
      · have hq1 := hfar q hq
        cases q with
        | nil => simp at hq1
        | cons d' q =>
          cases q with
          | nil =>
            have := late d' [] hq rfl
            rcases Nat.lt_or_ge d d' with z | z
            · exact .inl (.inr ⟨rfl, .inl z⟩)
            · have : d = d' := by omega
              subst this; exact sle_rfl
          | cons d'' q => exact .inl (.inl (by simp))
    | succ n =>
      obtain ⟨hsame, A'⟩ := apart_next B hx hy A F h1 h2
      obtain ⟨L, hpl⟩ := greedy_least hc B hel hel' A' G
      refine ⟨⟨.inr ⟨e, e', h1, h2, .inr L.1⟩, fun q hq => ?_⟩, by simp [hpl]⟩
      have hq1 := hfar q hq
      rcases Nat.lt_or_ge (n + 1 + 1) q.length with z | z
      · exact .inl (.inl (by simp [hpl]; omega))
      · cases q with
        | nil => simp at hq1
        | cons d' q =>
          have hql : q.length = n + 1 := by simp at hq1 z; omega
          have := late d' q hq hql
          rcases Nat.lt_or_ge d d' with y | y
          · exact .inl (.inr ⟨by simp [hpl, hql], .inl y⟩)
          · have : d = d' := by omega
            subst this
            have h0 := A.2 0 (by omega)
            obtain ⟨c1, c2⟩ := (B.2 x _ hx hy).mp h0
            rcases hq with hq | ⟨f, f', a1, a2, a3⟩
            · exact (hq.elim (fun z => z c1) fun z => z c2).elim
            · rw [h1] at a1; cases a1
              rw [h2] at a2; cases a2
              rcases a3 with a3 | a3
              · exact absurd hsame a3
              · rcases L.2 q a3 with (l | l) | l
                · omega
                · exact .inl (.inr ⟨by simp [hpl, hql], .inr ⟨rfl, l.2⟩⟩)
                · rw [l]; exact sle_rfl
end
end SW
namespace SW

theorem nodup_sub {α : Type} [DecidableEq α] : ∀ (L M : List α), L.Nodup → (∀ x ∈ L, x ∈ M) → L.length ≤ M.length
  | [], M, _, _ => Nat.zero_le _
  | a :: L, M, hn, hs => by
    rw [List.nodup_cons] at hn
    have ha : a ∈ M := hs a List.mem_cons_self
    have ih := nodup_sub L (M.erase a) hn.2 fun x hx => by
      have hne : x ≠ a := fun e => hn.1 (e ▸ hx)
      exact (List.mem_erase_of_ne hne).mpr (hs x (List.mem_cons_of_mem _ hx))
    have := List.length_erase_of_mem ha
    have := List.length_pos_of_mem ha
    simp; omega
theorem nodup_cover {α : Type} [DecidableEq α] : ∀ (M L : List α), L.Nodup → (∀ x ∈ L, x ∈ M) → M.length ≤ L.length → M.Nodup
  | [], _, _, _, _ => List.nodup_nil
  | a :: M, L, hn, hs, hl => by
    have hno : ¬ ∀ x ∈ L, x ∈ M := fun z => by
      have := nodup_sub L M hn z
      simp at hl; omega
    have hal : a ∈ L := by
      apply Classical.byContradiction
      intro z
      refine hno fun x hx => ?_
      rcases List.mem_cons.mp (hs x hx) with rfl | h
      · exact absurd hx z
      · exact h
    have ham : a ∉ M := fun z => hno fun x hx => by
      rcases List.mem_cons.mp (hs x hx) with rfl | h
      · exact z
      · exact h
    rw [List.nodup_cons]
    refine ⟨ham, nodup_cover M (L.erase a) (hn.erase a) (fun x hx => ?_) ?_⟩
    · have h1 := (hn.mem_erase_iff).mp hx
      rcases List.mem_cons.mp (hs x h1.2) with h | h
      · exact absurd h h1.1
      · exact h
    · rw [List.length_erase_of_mem hal]
      simp at hl; omega
theorem nodup_map_inj {α β : Type} {g : α → β} : ∀ {L : List α} {a b : α}, (L.map g).Nodup → a ∈ L → b ∈ L → g a = g b → a = b
  | [], _, _, _, h, _, _ => by simp at h
  | x :: L, a, b, hn, ha, hb, e => by
    rw [List.map_cons, List.nodup_cons] at hn
    rcases List.mem_cons.mp ha with ea | ha'
    · rcases List.mem_cons.mp hb with eb | hb'
      · rw [ea, eb]
      · exact absurd (List.mem_map.mpr ⟨b, hb', by rw [← ea]; exact e.symm⟩) hn.1
    · rcases List.mem_cons.mp hb with eb | hb'
      · exact absurd (List.mem_map.mpr ⟨a, ha', by rw [← eb]; exact e⟩) hn.1
      · exact nodup_map_inj hn.2 ha' hb' e
section
variable {A B : List Nat}
/-- B is finer than A -/
def Fine (A B : List Nat) : Prop := A.length = B.length ∧ ∀ x y, x < B.length → y < B.length → B.getD x 0 = B.getD y 0 → A.getD x 0 = A.getD y 0
def pick (A B : List Nat) (b : Nat) : Nat := A.getD (B.idxOf b) 0
theorem getD_get {L : List Nat} {x : Nat} (h : x < L.length) : L.getD x 0 = L[x] := by
  rw [List.getD_eq_getElem?_getD, List.getElem?_eq_getElem h]; rfl
theorem pick_at (F : Fine A B) {x : Nat} (h : x < B.length) : pick A B (B.getD x 0) = A.getD x 0 := by
  unfold pick
  have hm : B.getD x 0 ∈ B := by rw [getD_get h]; exact List.getElem_mem h
  have h1 : B.idxOf (B.getD x 0) < B.length := List.idxOf_lt_length_iff.mpr hm
  refine F.2 _ _ h1 h ?_
  rw [getD_get h1, List.getElem_idxOf h1]
theorem cover (F : Fine A B) : ∀ a ∈ seenL A, a ∈ (seenL B).map (pick A B) := by
  intro a ha
  rw [seenL_mem] at ha
  obtain ⟨x, hx, rfl⟩ := List.getElem_of_mem ha
  have hx' : x < B.length := by rw [← F.1]; exact hx
  refine List.mem_map.mpr ⟨B.getD x 0, seenL_mem.mpr (by rw [getD_get hx']; exact List.getElem_mem hx'), ?_⟩
  rw [pick_at F hx', getD_get hx]
theorem fine_eq (F : Fine A B) (h : (seenL B).length ≤ (seenL A).length) {x y : Nat} (hx : x < B.length) (hy : y < B.length) (e : A.getD x 0 = A.getD y 0) : B.getD x 0 = B.getD y 0 := by
  have hn := nodup_cover _ _ (seenL_nd A) (cover F) (by simpa using h)
  refine nodup_map_inj hn (seenL_mem.mpr (by rw [getD_get hx]; exact List.getElem_mem hx)) (seenL_mem.mpr (by rw [getD_get hy]; exact List.getElem_mem hy)) ?_
  rw [pick_at F hx, pick_at F hy, e]
end
section
variable {w : Wb} {base : List Nat} {mk : Nat → Bool}
theorem rnd_fine (hb : base.length = w.length) (n : Nat) : Fine (rndF w base n) (rndF w base (n + 1)) := by
  refine ⟨by rw [rndF_len hb, rndF_len hb], fun x y hx hy h => ?_⟩
  rw [rndF_len hb] at hx hy
  exact ((num_succ hb hx hy).mp h).1
/-- two rounds of one partition: all later ones are of it -/
theorem stay_on (hb : base.length = w.length) (hc : Closed w) {n : Nat} (h : ∀ x y, x < w.length → y < w.length → num w base n x = num w base n y → num w base (n + 1) x = num w base (n + 1) y) : ∀ k x y, x < w.length → y < w.length → num w base n x = num w base n y → num w base (n + k) x = num w base (n + k) y := by
  intro k
  induction k with
  | zero => exact fun x y _ _ e => e
  | succ k ih =>
    intro x y hx hy e
    refine (num_succ hb hx hy).mpr ⟨ih x y hx hy e, ?_⟩
    obtain ⟨_, hr⟩ := (num_succ hb hx hy).mp (h x y hx hy e)
    rw [map_ends] at hr ⊢
    refine ⟨hr.1, fun d f f' a1 a2 => ?_⟩
    have := hr.2 d f f' a1 a2
    unfold lkF at this ⊢
    simp only [Prod.mk.injEq] at this ⊢
    exact ⟨this.1, ih _ _ (hc _ _ _ _ (rowD_at.mp a1)) (hc _ _ _ _ (rowD_at.mp a2)) this.2⟩
theorem stable (hb : base.length = w.length) (hc : Closed w) (hp : 0 < w.length) : ∃ n, n < w.length ∧ ∀ k x y, x < w.length → y < w.length → num w base n x = num w base n y → num w base (n + k) x = num w base (n + k) y := by
  have hex : ∃ n, n < w.length ∧ (seenL (rndF w base (n + 1))).length ≤ (seenL (rndF w base n)).length := by
    apply Classical.byContradiction
    intro z
    have grow : ∀ n, n ≤ w.length → n + 1 ≤ (seenL (rndF w base n)).length := by
      intro n
      induction n with
      | zero =>
        intro _
        have h0 : 0 < (rndF w base 0).length := by rw [rndF_len hb]; exact hp
        have : (rndF w base 0)[0] ∈ seenL (rndF w base 0) := seenL_mem.mpr (List.getElem_mem h0)
        exact List.length_pos_of_mem this
      | succ n ih =>
        intro hn
        have h1 := ih (by omega)
        have h2 : ¬ (seenL (rndF w base (n + 1))).length ≤ (seenL (rndF w base n)).length := fun b => z ⟨n, by omega, b⟩
        omega
    have := grow w.length (Nat.le_refl _)
    have h3 := seenL_len (rndF w base w.length)
    rw [rndF_len hb] at h3
    omega
  obtain ⟨n, hn, hle⟩ := hex
  refine ⟨n, hn, stay_on hb hc fun x y hx hy e => ?_⟩
  exact fine_eq (rnd_fine hb n) hle (by rw [rndF_len hb]; exact hx) (by rw [rndF_len hb]; exact hy) e
theorem greedy_ex (hc : Closed w) (B : Base w base mk) : ∀ {n x y : Nat}, x < w.length → y < w.length → Apart w base n x y → ∃ p, Greedy w base n x y p
  | 0, x, y, _, _, _ => ⟨[], .nil⟩
  | n + 1, x, y, hx, hy, A => by
    obtain ⟨d, F⟩ := first_door B hx hy A
    obtain ⟨⟨e, e', h1, h2, h3⟩, _⟩ := id F
    have hel := hc _ _ _ _ (rowD_at.mp h1)
    have hel' := hc _ _ _ _ (rowD_at.mp h2)
    cases n with
    | zero => exact ⟨[d], .cons F h1 h2 .nil⟩
    | succ n =>
      obtain ⟨_, A'⟩ := apart_next B hx hy A F h1 h2
      obtain ⟨p, G⟩ := greedy_ex hc B hel hel' A'
      exact ⟨d :: p, .cons F h1 h2 G⟩
theorem looks0_base (w : Wb) (marks : List Nat) : Base w (numL (looks0 w marks)) fun r => decide (r ∈ marks) := by
  have hb : (numL (looks0 w marks)).length = w.length := by rw [numL_len, looks0_len]
  refine ⟨hb, fun x y hx hy => ?_⟩
  have h1 := num_at hb (n := 0) hx
  have h2 := num_at hb (n := 0) hy
  have h := numL_eq (looks0_get (marks := marks) (row_at hx)) (looks0_get (marks := marks) (row_at hy))
  have e1 : (numL (looks0 w marks))[x]? = some (num w (numL (looks0 w marks)) 0 x) := h1
  have e2 : (numL (looks0 w marks))[y]? = some (num w (numL (looks0 w marks)) 0 y) := h2
  rw [e1, e2, Option.some.injEq] at h
  rw [h]
  unfold look0
  rw [Prod.mk.injEq]
  by_cases a : x ∈ marks <;> by_cases b : y ∈ marks <;> simp [a, b]
end
end SW
namespace SW
open PySem L2
end SW
namespace SW
open PySem L2

/-! pairs of rooms with ways -/
abbrev Wps := List (End × List Nat)
/-! steps of both at once, and what is seen unlike -/
def st2 (w1 w2 : Wb) (u : End) (d : Nat) : Option End := ((rowD w1 u.1)[d]?).bind fun e => ((rowD w2 u.2)[d]?).map fun e' => (e.1, e'.1)
def sightN (w : Wb) (m : Nat → Bool) (e : End) : Nat × Nat × Bool := (e.2, (rowD w e.1).length, m e.1)
def bad2 (w1 w2 : Wb) (m1 m2 : Nat → Bool) (u : End) (d : Nat) : Prop := ∃ e e' : End, (rowD w1 u.1)[d]? = some e ∧ (rowD w2 u.2)[d]? = some e' ∧ sightN w1 m1 e ≠ sightN w2 m2 e'
section
variable {w1 w2 : Wb} {m1 m2 : Nat → Bool}
/-- both rooms look alike -/
def Like2 (w1 w2 : Wb) (m1 m2 : Nat → Bool) (u : End) : Prop := (rowD w1 u.1).length = (rowD w2 u.2).length ∧ m1 u.1 = m2 u.2
end
def markS (s : Option Nat) (r : Nat) : Bool := decide (s = some r)
end SW
namespace SW
open PySem L2

structure PtOk (w1 w2 : Wb) (m1 m2 : Nat → Bool) (a b : Nat) (ws : Wps) (at_ door : Nat) : Prop where
  bfs : Bfs (st2 w1 w2) (a, b) ws at_ door
  lt : ∀ x ∈ ws, x.1.1 < w1.length ∧ x.1.2 < w2.length
  like : ∀ x ∈ ws, Like2 w1 w2 m1 m2 x.1
  good : ∀ (j : Nat) (u : End) (q : List Nat) (d : Nat), ws[j]? = some (u, q) → Ahead at_ door j d → ¬ bad2 w1 w2 m1 m2 u d
theorem PtOk.nd {w1 w2 : Wb} {m1 m2 : Nat → Bool} {a b at_ door : Nat} {ws : Wps} (h : PtOk w1 w2 m1 m2 a b ws at_ door) : ∀ (i j : Nat) (x y : End × List Nat), i < j → ws[i]? = some x → ws[j]? = some y → x.1 ≠ y.1 := fun i j x y k e1 e2 => (h.bfs.ord i j x y k e1 e2).2
theorem PtOk.few {w1 w2 : Wb} {m1 m2 : Nat → Bool} {a b at_ door : Nat} {ws : Wps} (h : PtOk w1 w2 m1 m2 a b ws at_ door) (h1 : w1.length ≤ 24) (h2 : w2.length ≤ 24) : ws.length ≤ 576 := by
  have := nodup_le (n := 576) (xs := ws.map fun x => x.1.1 * 24 + x.1.2) ?_ ?_
  · simpa using this
  · rw [List.nodup_iff_pairwise_ne, List.pairwise_iff_getElem]
    intro i j hi hj hij
    rw [List.getElem_map, List.getElem_map]
    simp at hi hj
    have hne := h.nd i j _ _ hij (List.getElem?_eq_getElem hi) (List.getElem?_eq_getElem hj)
    have l1 := h.lt _ (List.getElem_mem hi)
    have l2 := h.lt _ (List.getElem_mem hj)
    intro e
    exact hne (Prod.ext (by omega) (by omega))
  · intro x hx
    obtain ⟨y, hy, rfl⟩ := List.mem_map.mp hx
    have := h.lt y hy
    omega
section
variable (S0 : Sto) (w1 w2 : Wb) (s1 s2 : Option Nat) (a b : Nat)
end
end SW
namespace SW
open PySem L2

section
variable (S0 : Sto) (w : Wb) (base : List Nat) (bl f : Nat) (r s : Nat)
end
end SW
namespace SW
open PySem L2

/-! lines with their doors turned -/
def fp (b i : Nat) : Nat := if b = 0 then i else 1 - i
end SW
namespace SW
open PySem L2

end SW
namespace SW
open PySem L2

end SW
namespace SW
open PySem L2

/-- what tells two rooms apart, if anything does -/
def Tells (w1 w2 : Wb) (m1 m2 : Nat → Bool) (a b : Nat) : Option (List Nat) → Prop
  | none => ∀ p, ¬ parts w1 w2 m1 m2 a b p
  | some p => Least (parts w1 w2 m1 m2 a b) p
theorem Tells.uniq {w1 w2 : Wb} {m1 m2 : Nat → Bool} {a b : Nat} {x y : Option (List Nat)} (h : Tells w1 w2 m1 m2 a b x) (g : Tells w1 w2 m1 m2 a b y) : x = y := by
  cases x with
  | none => cases y with
    | none => rfl
    | some q => exact absurd g.1 (h q)
  | some p => cases y with
    | none => exact absurd h.1 (g p)
    | some q => rw [Least.uniq (P := parts w1 w2 m1 m2 a b) h g]
theorem Tells.symm {w1 w2 : Wb} {m1 m2 : Nat → Bool} {a b : Nat} {x : Option (List Nat)} (h : Tells w1 w2 m1 m2 a b x) : Tells w2 w1 m2 m1 b a x := by
  cases x with
  | none => exact fun p hp => h p (parts_symm hp)
  | some p => exact Least.congr (P := parts w1 w2 m1 m2 a b) h fun q => ⟨parts_symm, parts_symm⟩
theorem Tells.self {w : Wb} {m : Nat → Bool} {a : Nat} : Tells w w m m a a none := fun p => parts_self
def ff : Nat → Bool := fun _ => false
end SW
namespace SW
open PySem L2

/-! with a stone in both first rooms: not parted just where told alike -/
section
variable {w1 w2 : Wb} {a b : Nat}
abbrev NP (w1 w2 : Wb) (a b r s : Nat) : Prop := ∀ p, ¬ parts w1 w2 (markS (some a)) (markS (some b)) r s p
theorem NP.len {r s : Nat} (h : NP w1 w2 a b r s) : (rowD w1 r).length = (rowD w2 s).length := Classical.byContradiction fun z => h [] (.inl z)
theorem NP.mark {r s : Nat} (h : NP w1 w2 a b r s) : r = a ↔ s = b := by
  have : markS (some a) r = markS (some b) s := Classical.byContradiction fun z => h [] (.inr z)
  unfold markS at this
  simp only [Option.some.injEq, decide_eq_decide] at this
  exact ⟨fun e => (this.mp e.symm).symm, fun e => (this.mpr e.symm).symm⟩
theorem NP.next {r s d : Nat} {e e' : End} (h : NP w1 w2 a b r s) (h1 : (rowD w1 r)[d]? = some e) (h2 : (rowD w2 s)[d]? = some e') : e.2 = e'.2 ∧ NP w1 w2 a b e.1 e'.1 := by
  refine ⟨Classical.byContradiction fun z => h [d] (.inr ⟨e, e', h1, h2, .inl z⟩), fun p hp => h (d :: p) (.inr ⟨e, e', h1, h2, .inr hp⟩)⟩
theorem NP.symm {r s : Nat} (h : NP w1 w2 a b r s) : NP w2 w1 b a s r := fun p hp => h p (parts_symm hp)
/-- both come to by one way -/
inductive Tw (w1 w2 : Wb) (a b : Nat) : Nat → Nat → Prop
  | base : Tw w1 w2 a b a b
  | step {r s d : Nat} {e e' : End} : Tw w1 w2 a b r s → (rowD w1 r)[d]? = some e → (rowD w2 s)[d]? = some e' → Tw w1 w2 a b e.1 e'.1
theorem Tw.symm {r s : Nat} (h : Tw w1 w2 a b r s) : Tw w2 w1 b a s r := by
  induction h with
  | base => exact .base
  | step _ h1 h2 ih => exact .step ih h2 h1
theorem Tw.np {r s : Nat} (H : NP w1 w2 a b a b) (h : Tw w1 w2 a b r s) : NP w1 w2 a b r s := by
  induction h with
  | base => exact H
  | step _ h1 h2 ih => exact (ih.next h1 h2).2
theorem row_back {w : Wb} (B : Back w) {r d : Nat} {e : End} (h : (rowD w r)[d]? = some e) : (rowD w e.1)[e.2]? = some (r, d) := rowD_at.mpr (B r d e.1 e.2 (rowD_at.mp h))
theorem Tw.uniq {r s : Nat} (B1 : Back w1) (B2 : Back w2) (H : NP w1 w2 a b a b) (h : Tw w1 w2 a b r s) : ∀ t, Tw w1 w2 a b r t → s = t := by
  induction h with
  | base => exact fun t g => ((g.np H).mark.mp rfl).symm
  | @step r s d e e' h0 h1 h2 ih =>
    intro t g
    have hb1 := row_back B1 h1
    have hb2 := row_back B2 h2
    have hj := ((h0.np H).next h1 h2).1
    have hlt : e.2 < (rowD w1 e.1).length := (List.getElem?_eq_some_iff.mp hb1).1
    have hf : (rowD w2 t)[e.2]? = some ((rowD w2 t)[e.2]'(by rw [← (g.np H).len]; exact hlt)) := List.getElem?_eq_getElem _
    generalize (rowD w2 t)[e.2]'(by rw [← (g.np H).len]; exact hlt) = f at hf
    have hfd := ((g.np H).next hb1 hf).1
    have g2 : Tw w1 w2 a b r f.1 := Tw.step g hb1 hf
    have := ih f.1 g2
    have hb3 := row_back B2 hf
    rw [← hfd, ← this] at hb3
    rw [hb3] at h2
    cases h2; rfl
theorem Tw.lt {r s : Nat} (c1 : Closed w1) (c2 : Closed w2) (ha : a < w1.length) (hb : b < w2.length) (h : Tw w1 w2 a b r s) : r < w1.length ∧ s < w2.length := by
  cases h with
  | base => exact ⟨ha, hb⟩
  | step _ h1 h2 => exact ⟨c1 _ _ _ _ (rowD_at.mp h1), c2 _ _ _ _ (rowD_at.mp h2)⟩
theorem Tw.all {r : Nat} (H : NP w1 w2 a b a b) (h : Rch w1 a r) : ∃ s, Tw w1 w2 a b r s := by
  induction h with
  | refl => exact ⟨b, .base⟩
  | step _ ad ih =>
    obtain ⟨s, hs⟩ := ih
    obtain ⟨i, j, h⟩ := ad
    have h1 := rowD_at.mpr h
    have hlt := (List.getElem?_eq_some_iff.mp h1).1
    rw [(hs.np H).len] at hlt
    exact ⟨_, .step hs h1 (List.getElem?_eq_getElem hlt)⟩
open Classical in
end
end SW
namespace SW
open PySem L2
end SW
namespace SW
open PySem L2

/-! _law_row_of of numbers and tuples -/
def rt : Nat → D → Bool
  | _, .int _ => true
  | n + 1, .tup ds => decide (ds.length ≤ 1000) && ds.all (rt n)
  | _, _ => false
end SW
namespace SW
open PySem L2

end SW
namespace SW
open PySem L2
end SW
namespace SW
open PySem L2

/-! pairs of rooms come to by the same ways -/
def sx (w1 w2 : Wb) (p : End) : List End := List.zipWith (fun e e' : End => (e.1, e'.1)) (rowD w1 p.1) (rowD w2 p.2)
theorem sx_mem {w1 w2 : Wb} {p v : End} : v ∈ sx w1 w2 p ↔ ∃ (d : Nat) (e e' : End), (rowD w1 p.1)[d]? = some e ∧ (rowD w2 p.2)[d]? = some e' ∧ v = (e.1, e'.1) := by
  unfold sx
  rw [List.mem_iff_getElem?]
  constructor
  · rintro ⟨d, h⟩
    rw [List.getElem?_zipWith] at h
    cases h1 : (rowD w1 p.1)[d]? with
    | none => rw [h1] at h; simp at h
    | some e =>
      cases h2 : (rowD w2 p.2)[d]? with
      | none => rw [h1, h2] at h; simp at h
      | some e' =>
        rw [h1, h2] at h
        exact ⟨d, e, e', h1, h2, by simpa using h.symm⟩
  · rintro ⟨d, e, e', h1, h2, rfl⟩
    refine ⟨d, ?_⟩
    rw [List.getElem?_zipWith, h1, h2]
abbrev TwP (w1 w2 : Wb) (a b : Nat) (p : End) : Prop := Tw w1 w2 a b p.1 p.2
theorem TwP.next {w1 w2 : Wb} {a b : Nat} {p v : End} (h : TwP w1 w2 a b p) (hv : v ∈ sx w1 w2 p) : TwP w1 w2 a b v := by
  obtain ⟨d, e, e', h1, h2, rfl⟩ := sx_mem.mp hv
  exact Tw.step (e := e) (e' := e') h h1 h2
theorem tw_few {w1 w2 : Wb} {a b : Nat} {ks : List End} (W1 : IsWeb w1) (W2 : IsWeb w2) (ha : a < w1.length) (hb : b < w2.length) (hn : ks.Nodup) (h : ∀ p ∈ ks, TwP w1 w2 a b p) : ks.length ≤ 576 := by
  have f1 := W1.few
  have f2 := W2.few
  have := nodup_le (n := 576) (xs := ks.map fun x => x.1 * 24 + x.2) ?_ ?_
  · simpa using this
  · rw [List.nodup_iff_pairwise_ne, List.pairwise_iff_getElem]
    intro i j hi hj hij
    rw [List.getElem_map, List.getElem_map]
    simp at hi hj
    have l1 := (h _ (List.getElem_mem hi)).lt W1.back.closed W2.back.closed ha hb
    have l2 := (h _ (List.getElem_mem hj)).lt W1.back.closed W2.back.closed ha hb
    have hne : ks[i] ≠ ks[j] := by
      rw [List.nodup_iff_pairwise_ne, List.pairwise_iff_getElem] at hn
      exact hn i j hi hj hij
    intro e
    exact hne (Prod.ext (by omega) (by omega))
  · intro x hx
    obtain ⟨y, hy, rfl⟩ := List.mem_map.mp hx
    have := (h y hy).lt W1.back.closed W2.back.closed ha hb
    omega
/-! sorted -/
def i2 (p : End) : Int × Int := ((p.1 : Int), (p.2 : Int))
/-- all pairs, rising -/
def Rise (w1 w2 : Wb) (a b : Nat) (L : List (Int × Int)) : Prop := ∃ ks : List End, ks.Nodup ∧ (∀ p, p ∈ ks ↔ TwP w1 w2 a b p) ∧ L = sortPL (ks.map i2)
theorem Rise.uniq {w1 w2 : Wb} {a b : Nat} {L M : List (Int × Int)} (h : Rise w1 w2 a b L) (g : Rise w1 w2 a b M) : L = M := by
  obtain ⟨ks, n1, m1, rfl⟩ := h
  obtain ⟨js, n2, m2, rfl⟩ := g
  have hp : ks.Perm js := (List.perm_ext_iff_of_nodup n1 n2).mpr fun p => (m1 p).trans (m2 p).symm
  exact lex_uniq ((sortPL_perm _).trans ((hp.map i2).trans (sortPL_perm _).symm)) (sortPL_pw _) (sortPL_pw _)
theorem Rise.len {w1 w2 : Wb} {a b : Nat} {L : List (Int × Int)} (W1 : IsWeb w1) (W2 : IsWeb w2) (ha : a < w1.length) (hb : b < w2.length) (h : Rise w1 w2 a b L) : L.length ≤ 576 := by
  obtain ⟨ks, n1, m1, rfl⟩ := h
  rw [(sortPL_perm _).length_eq, List.length_map]
  exact tw_few W1 W2 ha hb n1 fun p hp => (m1 p).mp hp
theorem wq_extend {n m : Nat} {ds es : List D} {S : Sto} {Q : D → Sto → Prop} (h : S[n]? = some (.lst ds)) (h2 : S[m]? = some (.lst es)) : Wp (extendM (.loc n) [.loc m] S) Q ↔ ds.length + es.length ≤ 10000000 ∧ Q .non (S.set n (.lst (ds ++ es))) := by
  unfold extendM lstAt
  simp only [h, h2, Option.map_some, Option.bind_some]
  constructor
  · intro q
    split at q
    · exact ⟨by assumption, wp_some.mp q⟩
    · exact (wp_none.mp q).elim
  · rintro ⟨h, q⟩
    rw [if_pos h]; exact wp_some.mpr q
end SW
namespace SW
open PySem L2

/-! pairing -/
section
variable (S0 : Sto) (w1 w2 : Wb) (a b : Nat)
structure PgO (cur : Option End) (ks wt : List End) : Prop where
  nd : ks.Nodup
  tw : ∀ p ∈ ks, TwP w1 w2 a b p
  hd : (a, b) ∈ ks
  wnd : wt.Nodup
  sub : ∀ p ∈ wt, p ∈ ks
  cl : ∀ p ∈ ks, p ∈ wt ∨ some p = cur ∨ ∀ v ∈ sx w1 w2 p, v ∈ ks
end
end SW
namespace SW
open PySem L2

theorem PgO.few {w1 w2 : Wb} {a b : Nat} {cur : Option End} {ks wt : List End} (h : PgO w1 w2 a b cur ks wt) (W1 : IsWeb w1) (W2 : IsWeb w2) (ha : a < w1.length) (hb : b < w2.length) : ks.length ≤ 576 ∧ wt.length ≤ 576 := by
  have h1 := tw_few W1 W2 ha hb h.nd h.tw
  have h2 := nodup_sub wt ks h.wnd h.sub
  omega
end SW
namespace SW
open PySem L2

/-! _law_pairs_from -/
section
variable (S0 : Sto) (w1 w2 : Wb) (a b : Nat)
end
end SW
namespace SW
open PySem L2
end SW
namespace SW
open PySem L2

end SW
namespace SW
open PySem L2

end SW
namespace SW
open PySem L2
end SW
namespace SW
open PySem L2

end SW
namespace SW
open PySem L2

/-! the web of the sheets, told exactly -/
structure ShOf (w : Wb) (es : List (End × End)) (σ : List (List Nat)) (many : Nat) (w' : Wb) : Prop where
  len : w'.length = many * w.length
  row : ∀ (x : Nat) (l : List End), w'[x]? = some l → l.length = rowL w (x % w.length)
  at_ : ∀ (x d : Nat) (e : End), aT w' x d = some e → Rt w es σ x d e
theorem ShOf.uniq {w : Wb} {es : List (End × End)} {σ : List (List Nat)} {many : Nat} {w1 w2 : Wb} (H : Sheets w es σ many) (h1 : ShOf w es σ many w1) (h2 : ShOf w es σ many w2) : w1 = w2 := by
  apply List.ext_getElem?
  intro x
  by_cases hx : x < many * w.length
  · have g1 : w1[x]? = some (w1[x]'(by rw [h1.len]; exact hx)) := List.getElem?_eq_getElem _
    have g2 : w2[x]? = some (w2[x]'(by rw [h2.len]; exact hx)) := List.getElem?_eq_getElem _
    generalize (w1[x]'(by rw [h1.len]; exact hx)) = l1 at g1
    generalize (w2[x]'(by rw [h2.len]; exact hx)) = l2 at g2
    rw [g1, g2]
    congr 1
    have e1 := h1.row x l1 g1
    have e2 := h2.row x l2 g2
    apply List.ext_getElem?
    intro d
    by_cases hd : d < l1.length
    · have k1 : l1[d]? = some l1[d] := List.getElem?_eq_getElem hd
      have k2 : l2[d]? = some (l2[d]'(by omega)) := List.getElem?_eq_getElem _
      generalize l1[d] = a1 at k1
      generalize (l2[d]'(by omega)) = a2 at k2
      rw [k1, k2]
      congr 1
      exact (h1.at_ x d a1 (aT_some.mpr ⟨l1, g1, k1⟩)).fun_ H (h2.at_ x d a2 (aT_some.mpr ⟨l2, g2, k2⟩))
    · rw [List.getElem?_eq_none_iff.mpr (by omega), List.getElem?_eq_none_iff.mpr (by omega)]
  · rw [List.getElem?_eq_none_iff.mpr (by rw [h1.len]; omega), List.getElem?_eq_none_iff.mpr (by rw [h2.len]; omega)]
section
variable {S : Sto} {Q : D → Sto → Prop}
end
end SW
namespace SW
open PySem L2

/-! the program's spread -/
section
variable {g : D → Tau → Option Tau} {b : EvS} {τ : Tau} {S : Sto} {Q : Out → Sto → Prop}
end
/-- rows in the store, wherever they lie -/
structure MkA (S : Sto) (A : Nat → Nat) (T U N : Nat) (M : Mat) : Prop where
  top : S[T]? = some (.lst ((List.range N).map fun x => D.loc (A x)))
  at_ : ∀ x, x < N → S[A x]? = some (.lst ((M x).map oD))
  lo : ∀ x, x < N → T < A x
  hi : ∀ x, x < N → A x < U
  inj : ∀ x y, x < N → y < N → A x = A y → x = y
theorem MkA.of {S S' : Sto} {A : Nat → Nat} {T U N : Nat} {M : Mat} (h : MkA S A T U N M) (hT : T < U) (k : ∀ n, T ≤ n → n < U → S'[n]? = S[n]?) : MkA S' A T U N M :=
  ⟨(k _ (Nat.le_refl _) hT).trans h.top, fun x hx => (k _ (Nat.le_of_lt (h.lo x hx)) (h.hi x hx)).trans (h.at_ x hx), h.lo, h.hi, h.inj⟩
theorem MkA.put {S : Sto} {A : Nat → Nat} {T U N x d : Nat} {M : Mat} {e : End} (h : MkA S A T U N M) (hx : x < N) : MkA (S.set (A x) (.lst (((M x).map oD).set d (eD e)))) A T U N (putM M x d e) := by
  refine ⟨by rw [sto_ne (by have := h.lo x hx; omega)]; exact h.top, fun y hy => ?_, h.lo, h.hi, h.inj⟩
  unfold putM
  by_cases z : y = x
  · subst z
    rw [if_pos rfl, sto_set (h.at_ y hy), List.map_set]; rfl
  · rw [if_neg z, sto_ne fun e => z (h.inj y x hy hx e.symm)]; exact h.at_ y hy
theorem MkA.get {S : Sto} {A : Nat → Nat} {T U N x : Nat} {M : Mat} {Q : D → Sto → Prop} (h : MkA S A T U N M) (hx : x < N) : Wp (sbD (.loc T) (.int (x : Int)) S) Q ↔ Q (.loc (A x)) S := by
  have : atI ((List.range N).map fun x => D.loc (A x)) (x : Int) = some (.loc (A x)) := atI_of (by rw [List.getElem?_map, List.getElem?_range hx]; rfl)
  rw [wq_sbL h.top, this]
  simp
end SW
namespace SW
open PySem L2

end SW
namespace SW
open PySem L2

theorem wq_catF {n : Nat} {as bs : List D} {S : Sto} {Q : D → Sto → Prop} (h2 : S[n]? = some (.lst bs)) : Wp (addD (.fl as) (.loc n) S) Q ↔ as.length + bs.length ≤ 10000000 ∧ Q (.loc S.length) (S ++ [.lst (as ++ bs)]) := by
  simp only [addD, h2, wp_ite, newD, wp_some, wp_none]
  by_cases hl : as.length + bs.length ≤ 10000000
  · simp [hl]
  · simp only [hl, if_false, false_and]
/-- a box out of the script itself -/
theorem boxF_ok {S : Sto} {k : Nat} {cs : List Int} {Q : D → Sto → Prop} (hl : cs.length ≤ 100) (hk : k ≤ 100)
    (q : ∀ (n : Nat) (S' : Sto), Bx S' n 0 → S.length ≤ n → S.length ≤ S'.length → (∀ m, m < S.length → S'[m]? = S[m]?) → Q (.loc n) S') : Wp (g_l_box [.fl (cs.map D.int), .int k] S) Q := by
  unfold g_l_box
  refine (wp_fnD (by rfl)).mpr ?_
  unfold b_l_box
  have h1 : (S ++ [MO.lst [.int 0]])[S.length]? = some (.lst [.int 0]) := sto_new
  (simp! only [])
  have ek : ((k : Int) + 1) = ((k + 1 : Nat) : Int) := by omega
  rw [ek, wq_rep1 h1 (by omega)]
  have h4 : (S ++ [MO.lst [.int 0]] ++ [MO.lst (List.replicate (k + 1) (D.int 0))])[(S ++ [MO.lst [.int 0]]).length]? = some (.lst (List.replicate (k + 1) (D.int 0))) := sto_new
  rw [wq_catF h4]
  refine ⟨by simp; omega, ?_⟩
  generalize hS : S ++ [MO.lst [.int 0]] ++ [MO.lst (List.replicate (k + 1) (D.int 0))] = S1
  have l1 : S1.length = S.length + 2 := by rw [← hS]; simp
  have f1 : ∀ m, m < S.length → S1[m]? = S[m]? := fun m hm => by rw [← hS, sto_app (by simp; omega), sto_app hm]
  have h5 : (S1 ++ [MO.lst (cs.map D.int ++ List.replicate (k + 1) (D.int 0))])[S1.length]? = some (.lst (cs.map D.int ++ List.replicate (k + 1) (D.int 0))) := sto_new
  obtain ⟨c0, hc0⟩ : ∃ c0 : Int, (cs.map D.int ++ List.replicate (k + 1) (D.int 0))[k]? = some (.int c0) := by
    by_cases hk : k < cs.length
    · exact ⟨cs[k], by rw [List.getElem?_append_left (by simpa using hk)]; simp [hk]⟩
    · refine ⟨0, ?_⟩
      rw [List.getElem?_append_right (by simpa using hk), List.getElem?_replicate, if_pos (by simp; omega)]
  (simp! only [wq_sbL h5, atI_of hc0])
  have ha : 0 ≤ (if c0 < 0 then -c0 else c0) := by split <;> omega
  generalize (if c0 < 0 then -c0 else c0) = a at ha ⊢
  (simp! only [])
  have hb : 0 ≤ (if (10 : Int) ^ Int.toNat 18 ≤ a then (1 : Int) else 0) ∧ (if (10 : Int) ^ Int.toNat 18 ≤ a then (1 : Int) else 0) ≤ 1 := by split <;> omega
  generalize (if (10 : Int) ^ Int.toNat 18 ≤ a then (1 : Int) else 0) = e at hb ⊢
  have d0 : 0 ≤ (c0 % 2147483647 + 7919 * (k : Int) + 11) * 48271 % 2147483629 := Int.emod_nonneg _ (by omega)
  have d1 : (c0 % 2147483647 + 7919 * (k : Int) + 11) * 48271 % 2147483629 < 2147483629 := Int.emod_lt_of_pos _ (by omega)
  refine ⟨by decide, by omega, by omega, by omega, by omega, by omega, ?_⟩
  refine q _ _ ⟨_, _, _, sto_new, Int.mul_nonneg ha hb.1, ⟨d0, d1⟩, by omega, by omega⟩ (by simp; omega) (by simp; omega) fun m hm => ?_
  rw [sto_app (by simp; omega), sto_app (by omega)]
  exact f1 m hm
end SW
namespace SW
open PySem L2

/-! a web over another one: kinds by kinds -/
section
variable {α : Type} [DecidableEq α]
def Rep (L L' : List α) : Prop := 0 < L.length ∧ L.length ≤ L'.length ∧ ∀ x, x < L'.length → L'[x]? = L[x % L.length]?
theorem foldl_in : ∀ (L acc : List α), (∀ x ∈ L, x ∈ acc) → L.foldl addL acc = acc
  | [], _, _ => rfl
  | a :: L, acc, h => by
    have : addL acc a = acc := by unfold addL; rw [if_pos (h a (by simp))]
    rw [List.foldl_cons, this]
    exact foldl_in L acc fun x hx => h x (by simp [hx])
theorem Rep.take {L L' : List α} (R : Rep L L') : L'.take L.length = L := by
  obtain ⟨h0, hl, h⟩ := R
  apply List.ext_getElem?
  intro i
  by_cases hi : i < L.length
  · rw [List.getElem?_take_of_lt hi, h i (by omega), Nat.mod_eq_of_lt hi]
  · rw [List.getElem?_eq_none_iff.mpr (by rw [List.length_take]; omega), List.getElem?_eq_none_iff.mpr (by omega)]
theorem Rep.seen {L L' : List α} (R : Rep L L') : seenL L' = seenL L := by
  have e : L' = L ++ L'.drop L.length := by
    conv => lhs; rw [← List.take_append_drop L.length L', R.take]
  have h2 : seenL L' = (L'.drop L.length).foldl addL (seenL L) := by
    conv => lhs; rw [e]
    unfold seenL
    rw [List.foldl_append]
  rw [h2]
  refine foldl_in _ _ fun x hx => seenL_mem.mpr ?_
  obtain ⟨i, hi⟩ := List.getElem?_of_mem (List.mem_of_mem_drop hx)
  have hl := (List.getElem?_eq_some_iff.mp hi).1
  rw [R.2.2 i hl] at hi
  exact List.mem_of_getElem? hi
theorem Rep.num {L L' : List α} (R : Rep L L') : Rep (numL L) (numL L') := by
  obtain ⟨h0, hl, h⟩ := id R
  refine ⟨by rw [numL_len]; exact h0, by rw [numL_len, numL_len]; exact hl, fun x hx => ?_⟩
  rw [numL_len] at hx ⊢
  have hm : x % L.length < L.length := Nat.mod_lt _ h0
  have g : L[x % L.length]? = some L[x % L.length] := List.getElem?_eq_getElem hm
  rw [numL_get g, numL_get ((h x hx).trans g), R.seen]
/-- the same pattern, the same numbers -/
theorem numL_pat {β : Type} [DecidableEq β] {L : List α} {M : List β} (hl : L.length = M.length) (h : ∀ i j, i < L.length → j < L.length → (L[i]? = L[j]? ↔ M[i]? = M[j]?)) : numL L = numL M := by
  have first : ∀ i, i ≤ L.length → ∃ F : List Nat, (∀ f ∈ F, f < i) ∧ (seenL (L.take i)).map some = F.map (L[·]?) ∧ (seenL (M.take i)).map some = F.map (M[·]?) := by
    intro i
    induction i with
    | zero => intro _; exact ⟨[], by simp, rfl, rfl⟩
    | succ i ih =>
      intro hi
      obtain ⟨F, f1, f2, f3⟩ := ih (by omega)
      have g1 : L[i]? = some L[i] := List.getElem?_eq_getElem (by omega)
      have g2 : M[i]? = some (M[i]'(by omega)) := List.getElem?_eq_getElem _
      generalize L[i] = a at g1
      generalize (M[i]'(by omega)) = b at g2
      rw [seenL_take g1, seenL_take g2]
      have m1 : a ∈ seenL (L.take i) ↔ ∃ f ∈ F, L[f]? = L[i]? := by
        rw [g1, ← List.mem_map (f := fun f : Nat => L[f]?), ← f2]
        simp
      have m2 : b ∈ seenL (M.take i) ↔ ∃ f ∈ F, M[f]? = M[i]? := by
        rw [g2, ← List.mem_map (f := fun f : Nat => M[f]?), ← f3]
        simp
      have mm : a ∈ seenL (L.take i) ↔ b ∈ seenL (M.take i) := by
        rw [m1, m2]
        constructor
        · rintro ⟨f, hf, e⟩; exact ⟨f, hf, (h f i (by have := f1 f hf; omega) (by omega)).mp e⟩
        · rintro ⟨f, hf, e⟩; exact ⟨f, hf, (h f i (by have := f1 f hf; omega) (by omega)).mpr e⟩
      unfold addL
      by_cases z : a ∈ seenL (L.take i)
      · rw [if_pos z, if_pos (mm.mp z)]
        exact ⟨F, fun f hf => by have := f1 f hf; omega, f2, f3⟩
      · rw [if_neg z, if_neg fun y => z (mm.mpr y)]
        refine ⟨F ++ [i], fun f hf => ?_, ?_, ?_⟩
        · rw [List.mem_append, List.mem_singleton] at hf
          rcases hf with hf | rfl
          · have := f1 f hf; omega
          · omega
        · rw [List.map_append, List.map_append, f2]; simp [g1]
        · rw [List.map_append, List.map_append, f3]; simp [g2]
  obtain ⟨F, f1, f2, f3⟩ := first L.length (Nat.le_refl _)
  rw [List.take_length] at f2
  rw [hl, List.take_length] at f3
  apply List.ext_getElem?
  intro j
  by_cases hj : j < L.length
  · have g1 : L[j]? = some L[j] := List.getElem?_eq_getElem hj
    have g2 : M[j]? = some (M[j]'(by omega)) := List.getElem?_eq_getElem _
    generalize L[j] = a at g1
    generalize (M[j]'(by omega)) = b at g2
    rw [numL_get g1, numL_get g2]
    congr 1
    have i1 : (seenL L).idxOf a = F.findIdx fun f => L[f]? == some a := by
      have e1 : ((seenL L).map some).findIdx (fun o => o == some a) = (seenL L).findIdx (· == a) := by
        rw [List.findIdx_map]
        congr 1
      unfold List.idxOf
      rw [← e1, f2, List.findIdx_map]; rfl
    have i2 : (seenL M).idxOf b = F.findIdx fun f => M[f]? == some b := by
      have e1 : ((seenL M).map some).findIdx (fun o => o == some b) = (seenL M).findIdx (· == b) := by
        rw [List.findIdx_map]
        congr 1
      unfold List.idxOf
      rw [← e1, f3, List.findIdx_map]; rfl
    rw [i1, i2]
    have : ∀ F : List Nat, (∀ f ∈ F, f < L.length) → F.findIdx (fun f => L[f]? == some a) = F.findIdx fun f => M[f]? == some b := by
      intro F
      induction F with
      | nil => intro _; rfl
      | cons f F ih =>
        intro hf
        have e : (L[f]? == some a) = (M[f]? == some b) := by
          rw [← g1, ← g2]
          have := h f j (hf f (by simp)) hj
          by_cases z : L[f]? = L[j]?
          · rw [beq_iff_eq.mpr z, beq_iff_eq.mpr (this.mp z)]
          · rw [beq_eq_false_iff_ne.mpr z, beq_eq_false_iff_ne.mpr fun y => z (this.mpr y)]
        rw [List.findIdx_cons, List.findIdx_cons, e, ih fun x hx => hf x (by simp [hx])]
    exact this F f1
  · rw [List.getElem?_eq_none_iff.mpr (by rw [numL_len]; omega), List.getElem?_eq_none_iff.mpr (by rw [numL_len]; omega)]
end
structure Cov (w w' : Wb) (many : Nat) : Prop where
  pos : 0 < w.length
  pm : 0 < many
  len : w'.length = many * w.length
  row : ∀ x, x < w'.length → (rowD w' x).map (fun e => (e.1 % w.length, e.2)) = rowD w (x % w.length)
theorem Cov.rep {w w' : Wb} {many : Nat} (C : Cov w w' many) {α : Type} {L L' : List α} (h1 : L.length = w.length) (h2 : L'.length = w'.length) (h : ∀ x, x < w'.length → L'[x]? = L[x % w.length]?) : Rep L L' := by
  have := C.pos
  refine ⟨by omega, ?_, fun x hx => by rw [h1]; exact h x (by omega)⟩
  rw [h1, h2, C.len]
  exact Nat.le_mul_of_pos_left _ C.pm
theorem ShOf.cov {w w' : Wb} {σ : List (List Nat)} {many : Nat} (h0 : 0 < w.length) (hm : 0 < many) (H : Sheets w (endsN w w.length) σ many) (h : ShOf w (endsN w w.length) σ many w') : Cov w w' many := by
  refine ⟨h0, hm, h.len, fun x hx => ?_⟩
  have hr := row_at hx
  have hxm : x % w.length < w.length := Nat.mod_lt _ h0
  have hl := h.row x _ hr
  rw [rowL_of (row_at hxm)] at hl
  apply List.ext_getElem?
  intro d
  by_cases hd : d < (rowD w' x).length
  · have g : (rowD w' x)[d]? = some (rowD w' x)[d] := List.getElem?_eq_getElem hd
    generalize (rowD w' x)[d] = e at g
    rw [List.getElem?_map, g]
    obtain ⟨t, one, other, k, s, L, h1, h2, h3, c⟩ := h.at_ x d e (rowD_at.mp g)
    obtain ⟨a1, a2, a3, a4, a5⟩ := H.at_ h1
    rcases c with ⟨x1, d1, e1⟩ | ⟨x1, d1, e1⟩
    · rw [x1, mod_n a4, d1, rowD_at.mpr a1, e1]
      show some ((other.1 + s * w.length) % w.length, other.2) = _
      rw [mod_n a5]
    · rw [x1, mod_n a5, d1, rowD_at.mpr a2, e1]
      show some ((one.1 + k * w.length) % w.length, one.2) = _
      rw [mod_n a4]
  · rw [List.getElem?_eq_none_iff.mpr (by rw [List.length_map]; omega), List.getElem?_eq_none_iff.mpr (by omega)]
theorem Cov.rnd {w w' : Wb} {many : Nat} (C : Cov w w' many) (hc : Closed w') : ∀ t, Rep (SW.rnd w t) (SW.rnd w' t) := by
  have hlt : ∀ x, x % w.length < w.length := fun x => Nat.mod_lt _ C.pos
  have rl : ∀ x, x < w'.length → (rowD w' x).length = (rowD w (x % w.length)).length := fun x hx => by rw [← C.row x hx, List.length_map]
  intro t
  induction t with
  | zero =>
    refine Rep.num (C.rep (by simp) (by simp) fun x hx => ?_)
    rw [List.getElem?_map, List.getElem?_map, row_at hx, row_at (hlt x)]
    show some _ = some _
    rw [rl x hx]
  | succ t ih =>
    refine Rep.num (C.rep (finer_len _ _) (finer_len _ _) fun x hx => ?_)
    rw [finer_get (row_at hx), finer_get (row_at (hlt x))]
    have hg : ∀ y, y < w'.length → (SW.rnd w' t).getD y 0 = (SW.rnd w t).getD (y % w.length) 0 := fun y hy => by
      have := ih.2.2 y (by rw [rnd_len]; exact hy)
      rw [rnd_len] at this
      rw [List.getD_eq_getElem?_getD, List.getD_eq_getElem?_getD, this]
    congr 1
    show ((SW.rnd w' t).getD x 0, (rowD w' x).map fun e => (e.2, (SW.rnd w' t).getD e.1 0)) = ((SW.rnd w t).getD (x % w.length) 0, (rowD w (x % w.length)).map fun e => (e.2, (SW.rnd w t).getD e.1 0))
    rw [hg x hx, ← C.row x hx, List.map_map]
    congr 1
    refine List.map_congr_left fun e he => ?_
    obtain ⟨d, hd⟩ := List.getElem?_of_mem he
    have := hc x d e.1 e.2 (rowD_at.mp hd)
    show (e.2, (SW.rnd w' t).getD e.1 0) = (e.2, (SW.rnd w t).getD (e.1 % w.length) 0)
    rw [hg e.1 this]
end SW
namespace SW
open PySem L2

theorem numL_idem {α : Type} [DecidableEq α] (L : List α) : numL (numL L) = numL L := by
  refine numL_pat (numL_len L) fun i j hi hj => ?_
  rw [numL_len] at hi hj
  have g1 : L[i]? = some L[i] := List.getElem?_eq_getElem hi
  have g2 : L[j]? = some L[j] := List.getElem?_eq_getElem hj
  generalize L[i] = a at g1
  generalize L[j] = b at g2
  rw [numL_eq g1 g2, g1, g2]
  simp
theorem rnd_num (w : Wb) (t : Nat) : numL (rnd w t) = rnd w t := by
  cases t with
  | zero => exact numL_idem _
  | succ t => exact numL_idem _
/-- after so many rounds as there are rooms nothing changes -/
theorem rnd_stop {w : Wb} (hc : Closed w) (hp : 0 < w.length) {t : Nat} (ht : w.length ≤ t) : rnd w t = rnd w w.length := by
  have hb : (numL (w.map List.length)).length = w.length := by rw [numL_len, List.length_map]
  obtain ⟨m, hm, hs⟩ := stable hb hc hp
  have e : rnd w (m + 1) = rnd w m := by
    rw [← rnd_num w (m + 1), ← rnd_num w m]
    refine numL_pat (by rw [rnd_len, rnd_len]) fun i j hi hj => ?_
    rw [rnd_len] at hi hj
    have a1 := num_at (n := m + 1) hb hi
    have a2 := num_at (n := m + 1) hb hj
    have a3 := num_at (n := m) hb hi
    have a4 := num_at (n := m) hb hj
    unfold rnd
    rw [a1, a2, a3, a4]
    constructor
    · intro h
      rw [num_mono hb hi hj (Option.some.inj h) (Nat.le_succ m)]
    · intro h
      rw [hs 1 i j hi hj (Option.some.inj h)]
  have st := rndF_stay e
  show rndF w _ t = rndF w _ w.length
  rw [st t (by omega), st w.length (by omega)]
theorem Cov.kin {w w' : Wb} {many : Nat} (C : Cov w w' many) (hc : Closed w) (hc' : Closed w') : Rep (SW.rnd w w.length) (SW.rnd w' w'.length) := by
  have h := C.rnd hc' w'.length
  rw [rnd_stop hc C.pos (t := w'.length) (by rw [C.len]; exact Nat.le_mul_of_pos_left _ C.pm)] at h
  exact h
end SW
namespace SW
open PySem L2
end SW
namespace SW
open PySem L2

/-- the numbers of kinds -/
def kd (w : Wb) : List Nat := rnd w w.length
theorem kd_len (w : Wb) : (kd w).length = w.length := rnd_len w _
end SW
namespace SW
open PySem L2

def rowBy (f : Nat → Nat) (row : List End) : List End := row.map fun e => (f e.1, e.2)
/-- the folded web -/
def kdN (w : Wb) (x : Nat) : Nat := (kd w).getD x 0
theorem kd_at {w : Wb} {x : Nat} (h : x < w.length) : (kd w)[x]? = some (kdN w x) := by
  unfold kdN
  rw [List.getD_eq_getElem?_getD, List.getElem?_eq_getElem (by rw [kd_len]; exact h)]; rfl
end SW
namespace SW
open PySem L2

theorem Rep.mem {α : Type} [DecidableEq α] {L L' : List α} (R : Rep L L') (k : α) : k ∈ L ↔ k ∈ L' := by
  rw [← seenL_mem (L := L), ← seenL_mem (L := L'), R.seen]
theorem Cov.kdN {w w' : Wb} {many : Nat} (C : Cov w w' many) (hc : Closed w) (hc' : Closed w') {x : Nat} (hx : x < w'.length) : SW.kdN w' x = SW.kdN w (x % w.length) := by
  have R := C.kin hc hc'
  have h := R.2.2 x (by rw [rnd_len]; exact hx)
  rw [rnd_len] at h
  have a := kd_at hx
  have b := kd_at (w := w) (x := x % w.length) (Nat.mod_lt _ C.pos)
  unfold kd at a b
  rw [a, b] at h
  exact Option.some.inj h
theorem Cov.sheets {w w' : Wb} {many : Nat} (C : Cov w w' many) (hc : Closed w) (hc' : Closed w') (k : Nat) : (grp (kd w') k).length = many * (grp (kd w) k).length := by
  have hn : 0 < w.length := C.pos
  have key : ∀ m, m ≤ many → ((List.range (m * w.length)).filter fun r => decide (SW.kdN w' r = k)).length = m * ((List.range w.length).filter fun r => decide (SW.kdN w r = k)).length := by
    intro m
    induction m with
    | zero => intro _; simp
    | succ m ih =>
      intro hm
      have hle : (m + 1) * w.length ≤ many * w.length := Nat.mul_le_mul_right _ hm
      rw [Nat.succ_mul] at hle
      rw [Nat.succ_mul, List.range_add, List.filter_append, List.length_append, ih (by omega), Nat.succ_mul, List.filter_map, List.length_map]
      congr 2
      refine List.filter_congr fun r hr => ?_
      rw [List.mem_range] at hr
      show decide (SW.kdN w' (m * w.length + r) = k) = _
      rw [C.kdN hc hc' (by rw [C.len]; omega), Nat.add_comm, Nat.add_mul_mod_self_right, Nat.mod_eq_of_lt hr]
  have := key many (Nat.le_refl _)
  rw [← C.len] at this
  unfold grp
  rw [kd_len, kd_len]
  exact this
end SW
namespace SW
open PySem L2

section
variable {g : D → Tau → Option Tau} {t : EvT} {f : EvE} {τ : Tau} {S : Sto} {Q : List D → Sto → Prop}
end
end SW
namespace SW
open PySem L2

end SW
namespace SW
open PySem L2

end SW
namespace SW
open PySem L2
end SW
namespace SW
open PySem L2
end SW
namespace SW
open PySem L2
end SW
namespace SW
open PySem L2
end SW
namespace SW
open PySem L2

end SW
namespace SW
open PySem L2

theorem pat_num {α : Type} [DecidableEq α] {L : List α} {n : Nat} (hn : L.length = n) (x y : Nat) (hx : x < n) (hy : y < n) : (numL L).getD x 0 = (numL L).getD y 0 ↔ L[x]? = L[y]? := by
  have g1 : L[x]? = some (L[x]'(by omega)) := List.getElem?_eq_getElem _
  have g2 : L[y]? = some (L[y]'(by omega)) := List.getElem?_eq_getElem _
  have h := numL_eq g1 g2
  rw [List.getD_eq_getElem?_getD, List.getD_eq_getElem?_getD, numL_get g1, numL_get g2, g1, g2]
  rw [numL_get g1, numL_get g2] at h
  simp only [Option.getD_some, Option.some.injEq] at h ⊢
  exact h
end SW
namespace SW
open PySem L2

theorem map_fun {F G : Nat → Nat} {n : Nat} (h : ∀ a b, a < n → b < n → (F a = F b ↔ G a = G b)) : ∀ {l m : List End}, (∀ e ∈ l, e.1 < n) → (∀ e ∈ m, e.1 < n) → ((l.map fun e => ((e.2, F e.1) : End)) = (m.map fun e => ((e.2, F e.1) : End)) ↔ (l.map fun e => ((e.2, G e.1) : End)) = m.map fun e => ((e.2, G e.1) : End))
  | [], [], _, _ => by simp
  | [], _ :: _, _, _ => by simp
  | _ :: _, [], _, _ => by simp
  | e :: l, f :: m, hl, hm => by
    have ih := map_fun h (l := l) (m := m) (fun e he => hl e (by simp [he])) (fun e he => hm e (by simp [he]))
    have := h e.1 f.1 (hl e (by simp)) (hm f (by simp))
    simp only [List.map_cons, List.cons.injEq, Prod.mk.injEq, ih, this]
/-- renumbered rooms go together as they did -/
theorem Ren.pat {w w' : Wb} {ν : Nat → Nat} (R : Ren w w' ν) (hc : Closed w) : ∀ t x y, x < w.length → y < w.length → ((rnd w' t).getD (ν x) 0 = (rnd w' t).getD (ν y) 0 ↔ (rnd w t).getD x 0 = (rnd w t).getD y 0) := by
  have hlt : ∀ x, x < w.length → ν x < w'.length := fun x hx => by rw [R.len]; exact R.lt x hx
  intro t
  induction t with
  | zero =>
    intro x y hx hy
    have e1 : rnd w' 0 = numL (w'.map List.length) := rfl
    have e2 : rnd w 0 = numL (w.map List.length) := rfl
    rw [e1, e2, pat_num (by simp) _ _ (hlt x hx) (hlt y hy), pat_num (by simp) x y hx hy]
    rw [List.getElem?_map, List.getElem?_map, List.getElem?_map, List.getElem?_map, row_at hx, row_at hy, row_at (hlt x hx), row_at (hlt y hy), R.row x hx, R.row y hy]
    simp [mapE]
  | succ t ih =>
    intro x y hx hy
    have e1 : rnd w' (t + 1) = numL (finer w' (rnd w' t)) := rfl
    have e2 : rnd w (t + 1) = numL (finer w (rnd w t)) := rfl
    rw [e1, e2, pat_num (finer_len _ _) _ _ (hlt x hx) (hlt y hy), pat_num (finer_len _ _) x y hx hy]
    rw [finer_get (row_at hx), finer_get (row_at hy), finer_get (row_at (hlt x hx)), finer_get (row_at (hlt y hy)), R.row x hx, R.row y hy]
    have c : ∀ z, z < w.length → ∀ e ∈ rowD w z, e.1 < w.length := fun z hz e he => by
      obtain ⟨d, hd⟩ := List.getElem?_of_mem he
      exact hc z d e.1 e.2 (rowD_at.mp hd)
    have h1 := map_fun (F := fun a => (rnd w' t).getD (ν a) 0) (G := fun a => (rnd w t).getD a 0) (fun a b ha hb => ih a b ha hb) (c x hx) (c y hy)
    have h2 := ih x y hx hy
    simp only [Option.some.injEq, lookR, Prod.mk.injEq, mapE, List.map_map]
    have m : ∀ l : List End, (l.map ((fun e : End => ((e.2, (rnd w' t).getD e.1 0) : End)) ∘ fun e : End => ((ν e.1, e.2) : End))) = l.map fun e : End => ((e.2, (rnd w' t).getD (ν e.1) 0) : End) := fun l => rfl
    rw [m, m, h1, h2]
theorem Ren.kin {w w' : Wb} {ν : Nat → Nat} (R : Ren w w' ν) (hc : Closed w) {x y : Nat} (hx : x < w.length) (hy : y < w.length) : kdN w' (ν x) = kdN w' (ν y) ↔ kdN w x = kdN w y := by
  have := R.pat hc w.length x y hx hy
  unfold kdN kd
  rw [R.len]
  exact this
end SW
namespace SW
open PySem L2

/-! webs one upon the other -/
structure Mor (w w' : Wb) (f : Nat → Nat) : Prop where
  lt : ∀ x, x < w.length → f x < w'.length
  row : ∀ x, x < w.length → rowD w' (f x) = rowBy f (rowD w x)
theorem Mor.pat {w w' : Wb} {f : Nat → Nat} (R : Mor w w' f) (hc : Closed w) : ∀ t x y, x < w.length → y < w.length → ((rnd w' t).getD (f x) 0 = (rnd w' t).getD (f y) 0 ↔ (rnd w t).getD x 0 = (rnd w t).getD y 0) := by
  intro t
  induction t with
  | zero =>
    intro x y hx hy
    have e1 : rnd w' 0 = numL (w'.map List.length) := rfl
    have e2 : rnd w 0 = numL (w.map List.length) := rfl
    rw [e1, e2, pat_num (by simp) _ _ (R.lt x hx) (R.lt y hy), pat_num (by simp) x y hx hy]
    rw [List.getElem?_map, List.getElem?_map, List.getElem?_map, List.getElem?_map, row_at hx, row_at hy, row_at (R.lt x hx), row_at (R.lt y hy), R.row x hx, R.row y hy]
    simp [rowBy]
  | succ t ih =>
    intro x y hx hy
    have e1 : rnd w' (t + 1) = numL (finer w' (rnd w' t)) := rfl
    have e2 : rnd w (t + 1) = numL (finer w (rnd w t)) := rfl
    rw [e1, e2, pat_num (finer_len _ _) _ _ (R.lt x hx) (R.lt y hy), pat_num (finer_len _ _) x y hx hy]
    rw [finer_get (row_at hx), finer_get (row_at hy), finer_get (row_at (R.lt x hx)), finer_get (row_at (R.lt y hy)), R.row x hx, R.row y hy]
    have c : ∀ z, z < w.length → ∀ e ∈ rowD w z, e.1 < w.length := fun z hz e he => by
      obtain ⟨d, hd⟩ := List.getElem?_of_mem he
      exact hc z d e.1 e.2 (rowD_at.mp hd)
    have h1 := map_fun (F := fun a => (rnd w' t).getD (f a) 0) (G := fun a => (rnd w t).getD a 0) (fun a b ha hb => ih a b ha hb) (c x hx) (c y hy)
    have h2 := ih x y hx hy
    simp only [Option.some.injEq, lookR, Prod.mk.injEq, rowBy, List.map_map]
    have m : ∀ l : List End, (l.map ((fun e : End => ((e.2, (rnd w' t).getD e.1 0) : End)) ∘ fun e : End => ((f e.1, e.2) : End))) = l.map fun e : End => ((e.2, (rnd w' t).getD (f e.1) 0) : End) := fun l => rfl
    rw [m, m, h1, h2]
theorem Mor.kin {w w' : Wb} {f : Nat → Nat} (R : Mor w w' f) (hc : Closed w) (hc' : Closed w') (h0 : 0 < w.length) {x y : Nat} (hx : x < w.length) (hy : y < w.length) : kdN w' (f x) = kdN w' (f y) ↔ kdN w x = kdN w y := by
  have h0' : 0 < w'.length := Nat.lt_of_le_of_lt (Nat.zero_le _) (R.lt x hx)
  have := R.pat hc (max w.length w'.length) x y hx hy
  rw [rnd_stop hc h0 (Nat.le_max_left _ _), rnd_stop hc' h0' (Nat.le_max_right _ _)] at this
  exact this
end SW
namespace SW
open PySem L2

end SW
namespace SW
open PySem L2

def f0 : Nat → Bool := fun _ => false
/-- rooms that no way parts are of one kind -/
theorem np_kin {w : Wb} (hc : Closed w) {x y : Nat} (hx : x < w.length) (hy : y < w.length) (h : ∀ p, ¬ parts w w f0 f0 x y p) : kdN w x = kdN w y := by
  have B := looks0_base w []
  have e0 : (fun r : Nat => decide (r ∈ ([] : List Nat))) = f0 := by funext r; simp [f0]
  rw [e0] at B
  have key : ∀ n, num w (numL (looks0 w [])) n x = num w (numL (looks0 w [])) n y := by
    intro n
    induction n using Nat.strongRecOn with
    | ind n ih =>
      refine Classical.byContradiction fun hne => ?_
      have A : Apart w (numL (looks0 w [])) n x y := ⟨hne, ih⟩
      obtain ⟨p, G⟩ := greedy_ex hc B hx hy A
      exact h p (greedy_least hc B hx hy A G).1.1
  have := key w.length
  unfold num at this
  have hr : rndF w (numL (looks0 w [])) w.length = rnd w w.length := rndM_nil w w.length
  rw [hr] at this
  exact this
end SW
namespace SW
open PySem L2
end SW
namespace SW
open PySem L2

end SW
namespace SW
open PySem L2

/-! rooms that no way parts -/
def NQ (w1 w2 : Wb) (a b : Nat) : Prop := ∀ p, ¬ parts w1 w2 ff ff a b p
theorem NQ.len {w1 w2 : Wb} {a b : Nat} (h : NQ w1 w2 a b) : (rowD w1 a).length = (rowD w2 b).length :=
  Classical.byContradiction fun z => h [] (.inl z)
theorem NQ.step {w1 w2 : Wb} {a b d : Nat} {e e' : End} (h : NQ w1 w2 a b) (h1 : (rowD w1 a)[d]? = some e) (h2 : (rowD w2 b)[d]? = some e') : e.2 = e'.2 ∧ NQ w1 w2 e.1 e'.1 :=
  ⟨Classical.byContradiction fun z => h [d] (.inr ⟨e, e', h1, h2, .inl z⟩), fun p hp => h (d :: p) (.inr ⟨e, e', h1, h2, .inr hp⟩)⟩
theorem NQ.symm {w1 w2 : Wb} {a b : Nat} (h : NQ w1 w2 a b) : NQ w2 w1 b a := fun p hp => h p (parts_symm hp)
theorem NQ.trans {w1 w2 w3 : Wb} : ∀ {a b c : Nat}, NQ w1 w2 a b → NQ w2 w3 b c → NQ w1 w3 a c := by
  intro a b c h g p
  induction p generalizing a b c with
  | nil =>
    rintro (z | z)
    · exact z (h.len.trans g.len)
    · exact z rfl
  | cons d p ih =>
    rintro ((z | z) | ⟨e, e'', h1, h3, z⟩)
    · exact z (h.len.trans g.len)
    · exact z rfl
    · have hd : d < (rowD w2 b).length := by rw [← h.len]; exact (List.getElem?_eq_some_iff.mp h1).1
      have h2 : (rowD w2 b)[d]? = some (rowD w2 b)[d] := List.getElem?_eq_getElem hd
      obtain ⟨a1, a2⟩ := h.step h1 h2
      obtain ⟨b1, b2⟩ := g.step h2 h3
      rcases z with z | z
      · exact z (a1.trans b1)
      · exact ih a2 b2 z
theorem NQ.kin {w : Wb} (hc : Closed w) {x y : Nat} (hx : x < w.length) (hy : y < w.length) (h : NQ w w x y) : kdN w x = kdN w y := np_kin hc hx hy h
end SW
namespace SW
open PySem L2

end SW
namespace SW
open PySem L2
end SW
namespace SW
open PySem L2

end SW
namespace SW
open PySem L2
end SW
namespace SW
open PySem L2

/-! no way of at most n doors parts -/
def NB (n : Nat) (w1 w2 : Wb) (a b : Nat) : Prop := ∀ p : List Nat, p.length ≤ n → ¬ parts w1 w2 ff ff a b p
theorem NB.symm {n : Nat} {w1 w2 : Wb} {a b : Nat} (h : NB n w1 w2 a b) : NB n w2 w1 b a := fun p hp z => h p hp (parts_symm z)
theorem NB.len {n : Nat} {w1 w2 : Wb} {a b : Nat} (h : NB n w1 w2 a b) : (rowD w1 a).length = (rowD w2 b).length :=
  Classical.byContradiction fun z => h [] (by simp) (.inl z)
theorem NB.step {n : Nat} {w1 w2 : Wb} {a b d : Nat} {e e' : End} (h : NB (n + 1) w1 w2 a b) (h1 : (rowD w1 a)[d]? = some e) (h2 : (rowD w2 b)[d]? = some e') : e.2 = e'.2 ∧ NB n w1 w2 e.1 e'.1 :=
  ⟨Classical.byContradiction fun z => h [d] (by simp) (.inr ⟨e, e', h1, h2, .inl z⟩), fun p hp z => h (d :: p) (by simp; omega) (.inr ⟨e, e', h1, h2, .inr z⟩)⟩
theorem NB.trans {w1 w2 w3 : Wb} : ∀ {n a b c : Nat}, NB n w1 w2 a b → NB n w2 w3 b c → NB n w1 w3 a c := by
  intro n a b c h g p
  induction p generalizing n a b c with
  | nil =>
    rintro _ (z | z)
    · exact z (h.len.trans g.len)
    · exact z rfl
  | cons d p ih =>
    rintro hn ((z | z) | ⟨e, e'', h1, h3, z⟩)
    · exact z (h.len.trans g.len)
    · exact z rfl
    · cases n with
      | zero => simp at hn
      | succ n =>
        have hd : d < (rowD w2 b).length := by rw [← h.len]; exact (List.getElem?_eq_some_iff.mp h1).1
        have h2 : (rowD w2 b)[d]? = some (rowD w2 b)[d] := List.getElem?_eq_getElem hd
        obtain ⟨a1, a2⟩ := h.step h1 h2
        obtain ⟨b1, b2⟩ := g.step h2 h3
        rcases z with z | z
        · exact z (a1.trans b1)
        · exact ih a2 b2 (by simp at hn; omega) z
end SW
namespace SW
open PySem L2

end SW
namespace SW
open PySem L2
end SW
namespace SW
open PySem L2

end SW
namespace SW
open PySem L2
end SW
namespace SW
open PySem L2

end SW
namespace SW
open PySem L2

section
variable {τ : Tau} {S : Sto} {cs : List String} {f : Str}
theorem wp_fstS {fo fv : EvE} {Q} : Wp (fstS cs f fo fv τ S) Q ↔ Wp (fv τ S) fun d S1 => Wp (fo τ S1) fun o S2 => ∃ S3, fstD cs f o d S2 = some S3 ∧ Q (.nx τ) S3 := by
  unfold fstS
  rw [wp_bind]
  simp only [wp_bind]
  constructor
  · rintro ⟨d, S1, e1, o, S2, e2, q⟩
    refine ⟨d, S1, e1, o, S2, e2, ?_⟩
    obtain ⟨a, S3, e3, q⟩ := q
    obtain ⟨S4, e4, e5⟩ := Option.map_eq_some_iff.mp e3
    cases e5
    exact ⟨_, e4, q⟩
  · rintro ⟨d, S1, e1, o, S2, e2, S3, e3, q⟩
    refine ⟨d, S1, e1, o, S2, e2, ?_⟩
    simp only [e3, Option.map_some]
    exact wp_some.mpr q
theorem wp_fldG {fo : EvE} {d : D} {Q} : Wp (fldG cs f fo d τ S) Q ↔ Wp (fo τ S) fun o S2 => ∃ S3, fstD cs f o d S2 = some S3 ∧ Q τ S3 := by
  unfold fldG
  rw [wp_bind]
  constructor
  · rintro ⟨o, S2, e2, a, S3, e3, q⟩
    obtain ⟨S4, e4, e5⟩ := Option.map_eq_some_iff.mp e3
    cases e5
    exact ⟨o, S2, e2, _, e4, q⟩
  · rintro ⟨o, S2, e2, S3, e3, q⟩
    refine ⟨o, S2, e2, ?_⟩
    simp only [e3, Option.map_some]
    exact wp_some.mpr q
theorem wp_fagS {g : D → D → Sto → Option (D × Sto)} {fo fv : EvE} {Q} : Wp (fagS cs f g fo fv τ S) Q ↔ Wp (fo τ S) fun o S1 => Wp (fldD cs f o S1) fun x S2 => Wp (fv τ S2) fun y S3 => Wp (g x y S3) fun z S4 => ∃ c S5, clsD o S1 = some c ∧ fstD [c] f o z S4 = some S5 ∧ Q (.nx τ) S5 := by
  unfold fagS
  rw [wp_bind]
  simp only [wp_bind]
  constructor
  · rintro ⟨o, S1, e1, x, S2, e2, y, S3, e3, z, S4, e4, q⟩
    refine ⟨o, S1, e1, x, S2, e2, y, S3, e3, z, S4, e4, ?_⟩
    obtain ⟨a, S5, e5, q⟩ := q
    obtain ⟨c, ec, e6⟩ := Option.bind_eq_some_iff.mp e5
    obtain ⟨S6, e7, e8⟩ := Option.map_eq_some_iff.mp e6
    cases e8
    exact ⟨c, _, ec, e7, q⟩
  · rintro ⟨o, S1, e1, x, S2, e2, y, S3, e3, z, S4, e4, c, S5, ec, e5, q⟩
    refine ⟨o, S1, e1, x, S2, e2, y, S3, e3, z, S4, e4, ?_⟩
    simp only [ec, e5, Option.bind_some, Option.map_some]
    exact wp_some.mpr q
theorem wp_sagS {g : D → D → Sto → Option (D × Sto)} {fo fi fv : EvE} {Q} : Wp (sagS g fo fi fv τ S) Q ↔ Wp (fo τ S) fun o S1 => Wp (fi τ S1) fun i S2 => Wp (ixLD o i S2) fun x S3 => Wp (fv τ S3) fun y S4 => Wp (g x y S4) fun z S5 => ∃ S6, stD o i z S5 = some S6 ∧ Q (.nx τ) S6 := by
  unfold sagS
  rw [wp_bind]
  simp only [wp_bind]
  constructor
  · rintro ⟨o, S1, e1, i, S2, e2, x, S3, e3, y, S4, e4, z, S5, e5, q⟩
    refine ⟨o, S1, e1, i, S2, e2, x, S3, e3, y, S4, e4, z, S5, e5, ?_⟩
    obtain ⟨a, S6, e6, q⟩ := q
    obtain ⟨S7, e7, e8⟩ := Option.map_eq_some_iff.mp e6
    cases e8
    exact ⟨_, e7, q⟩
  · rintro ⟨o, S1, e1, i, S2, e2, x, S3, e3, y, S4, e4, z, S5, e5, S6, e6, q⟩
    refine ⟨o, S1, e1, i, S2, e2, x, S3, e3, y, S4, e4, z, S5, e5, ?_⟩
    simp only [e6, Option.map_some]
    exact wp_some.mpr q
theorem wp_mtE {c : String} {m : Str} {g : Fn} {fo : EvE} {fa : EvA} {Q} : Wp (mtE c m g fo fa τ S) Q ↔ Wp (fo τ S) fun o S1 => selfD c m o S1 = true ∧ Wp (fa τ S1) fun ds S2 => Wp (g (o :: ds) S2) Q := by
  unfold mtE
  rw [wp_bind]
  constructor
  · rintro ⟨o, S1, e1, q⟩
    refine ⟨o, S1, e1, ?_⟩
    simp only at q
    split at q
    · rename_i h
      rw [wp_bind] at q
      exact ⟨h, q⟩
    · exact (wp_none.mp q).elim
  · rintro ⟨o, S1, e1, h, q⟩
    refine ⟨o, S1, e1, ?_⟩
    simp only [h, if_true]
    rw [wp_bind]
    exact q
theorem wp_mkE {c : String} {g : Fn} {fa : EvA} {Q} : Wp (mkE c g fa τ S) Q ↔ Wp (fa τ S) fun ds S1 => Wp (g (.loc S1.length :: ds) (S1 ++ [.ins c []])) fun d S2 => d = .non ∧ Q (.loc S1.length) S2 := by
  unfold mkE
  rw [wp_bind]
  simp only [wp_bind]
  constructor
  · rintro ⟨ds, S1, e1, d, S2, e2, q⟩
    refine ⟨ds, S1, e1, d, S2, e2, ?_⟩
    cases d with
    | non => exact ⟨rfl, wp_some.mp q⟩
    | _ => exact (wp_none.mp q).elim
  · rintro ⟨ds, S1, e1, d, S2, e2, rfl, q⟩
    exact ⟨ds, S1, e1, .non, S2, e2, wp_some.mpr q⟩
theorem wq_fld {n : Nat} {c : String} {fs : List (Str × D)} {v : D} {Q : D → Sto → Prop} (h : S[n]? = some (.ins c fs)) (hc : c ∈ cs) (l : fs.lookup f = some v) : Wp (fldD cs f (.loc n) S) Q ↔ Q v S := by
  have : fldD cs f (.loc n) S = some (v, S) := by
    unfold fldD
    simp only [h, if_pos hc, l, Option.map_some]
  rw [this]; exact wp_some
theorem fst_at {n : Nat} {c : String} {fs : List (Str × D)} {d : D} (h : S[n]? = some (.ins c fs)) (hc : c ∈ cs) (hl : fs.length < 999) : fstD cs f (.loc n) d S = some (S.set n (.ins c (pF f d fs))) := by
  unfold fstD
  simp only [h]
  rw [if_pos ⟨hc, hl⟩]
end
/-! a walker -/
structure Wk where
  w : Wb
  r : Nat
  hand : Nat
  came : D
  steps : Nat
  ly : List Nat
def Wk.fs (W : Wk) (l : Nat) : List (Str × D) := [("web", wD W.w), ("room", nD W.r), ("stones_left", nD W.hand), ("came_by", W.came), ("gone_through", nD W.steps), ("lying", .loc l)]
def CameOk (d : D) : Prop := d = .non ∨ ∃ c : Nat, d = nD c
structure WkAt (S : Sto) (n l : Nat) (W : Wk) : Prop where
  ob : S[n]? = some (.ins "Walker" (W.fs l))
  ls : S[l]? = some (.lst (W.ly.map nD))
  ne : n ≠ l
  web : IsWeb W.w
  lt : W.r < W.w.length
  len : W.ly.length = W.w.length
  cm : CameOk W.came
theorem WkAt.of {S S' : Sto} {n l : Nat} {W : Wk} (h : WkAt S n l W) (e1 : S'[n]? = S[n]?) (e2 : S'[l]? = S[l]?) : WkAt S' n l W := ⟨e1.trans h.ob, e2.trans h.ls, h.ne, h.web, h.lt, h.len, h.cm⟩
section
variable {S : Sto} {n l : Nat} {W : Wk} {Q : D → Sto → Prop}
end
/-- what is here -/
def Wk.here (W : Wk) : D := .tup [nD (rowL W.w W.r), W.came, nD (W.ly.getD W.r 0)]
/-! what a walker does -/
structure FrW (S S' : Sto) (n l : Nat) : Prop where
  len : S'.length = S.length
  at_ : ∀ m, m ≠ n → m ≠ l → S'[m]? = S[m]?
def Wk.go (W : Wk) (e : End) : Wk := {W with r := e.1, came := nD e.2, steps := W.steps + 1}
def Wk.lay (W : Wk) : Wk := {W with hand := W.hand - 1, ly := W.ly.set W.r (W.ly.getD W.r 0 + 1)}
def Wk.take (W : Wk) : Wk := {W with hand := W.hand + 1, ly := W.ly.set W.r (W.ly.getD W.r 0 - 1)}
theorem WkAt.put {S : Sto} {n l : Nat} {W W' : Wk} {f : Str} {v : D} (h : WkAt S n l W) (e : pF f v (W.fs l) = W'.fs l) (hw : W'.w = W.w) (hr : W'.r < W.w.length) (hl : W'.ly = W.ly) (hc : CameOk W'.came) : WkAt (S.set n (.ins "Walker" (pF f v (W.fs l)))) n l W' ∧ FrW S (S.set n (.ins "Walker" (pF f v (W.fs l)))) n l :=
  ⟨⟨by rw [sto_set h.ob, e], by rw [sto_ne h.ne, hl]; exact h.ls, h.ne, by rw [hw]; exact h.web, by rw [hw]; exact hr, by rw [hl, hw]; exact h.len, hc⟩, by simp, fun m h1 _ => sto_ne (Ne.symm h1)⟩
theorem FrW.trans {S S' S2 : Sto} {n l : Nat} (a : FrW S S' n l) (b : FrW S' S2 n l) : FrW S S2 n l := ⟨b.len.trans a.len, fun m h1 h2 => (b.at_ m h1 h2).trans (a.at_ m h1 h2)⟩
/-! a new walker -/
theorem pF_len (f : Str) (d : D) : ∀ fs : List (Str × D), (pF f d fs).length ≤ fs.length + 1
  | [] => by simp [pF]
  | (g, x) :: r => by
    have := pF_len f d r
    unfold pF
    split <;> simp <;> omega
def W0 (w : Wb) (r h : Nat) : Wk := ⟨w, r, h, .non, 0, List.replicate w.length 0⟩
/-! onlooker -/
def expL (L : List Nat) (i : Nat) : List Nat := (List.range i).flatMap fun k => List.replicate (L.getD k 0) k
def Wk.onl (W : Wk) : D := .tup [nD W.r, .tup ((expL W.ly W.ly.length).map nD)]
theorem expL_len (L : List Nat) : ∀ i, i ≤ L.length → (expL L i).length = (L.take i).sum
  | 0, _ => rfl
  | i + 1, h => by
    have hi : L[i]? = some (L.getD i 0) := by rw [List.getD_eq_getElem?_getD, List.getElem?_eq_getElem (by omega)]; rfl
    unfold expL
    rw [List.range_succ, List.flatMap_append, List.length_append, List.take_add_one, hi, List.sum_append]
    have := expL_len L i (by omega)
    unfold expL at this
    rw [this]
    simp
end SW
namespace SW
open PySem L2

/-! one deed -/
def Wk.did (W : Wk) (a b : Nat) : Wk × D :=
  if a < 4 ∧ 0 < rowL W.w W.r then
    match (rowD W.w W.r)[b % rowL W.w W.r]? with
    | some e => (W.go e, (W.go e).here)
    | none => (W, W.here)
  else if a < 6 ∧ 0 < W.hand then (W.lay, W.lay.here)
  else if 0 < W.ly.getD W.r 0 then (W.take, W.take.here)
  else (W, W.here)
/-! many deeds -/
def runW (W : Wk) (ds : List (Nat × Nat)) : Wk × List D := ds.foldl (fun p x => ((p.1.did x.1 x.2).1, p.2 ++ [(p.1.did x.1 x.2).2])) (W, [])
/-- what stays so on a walk: few stones, plain trees -/
structure Wk.Ok (W : Wk) (t : Nat) : Prop where
  came : CameOk W.came
  sum : W.hand + W.ly.sum = t
  lt : W.r < W.ly.length
theorem gn_came {d : D} (h : CameOk d) : gn d = true ∧ dp d = 0 := by
  rcases h with rfl | ⟨c, rfl⟩
  · exact ⟨rfl, rfl⟩
  · exact ⟨rfl, rfl⟩
theorem gn_here {W : Wk} {t : Nat} (h : W.Ok t) : gn W.here = true ∧ dp W.here ≤ 2 := by
  obtain ⟨h1, h2⟩ := gn_came h.came
  unfold Wk.here nD
  refine ⟨by simp [gn, gns, h1], ?_⟩
  simp [dp, dps, h2]
theorem sum_set : ∀ (L : List Nat) (i v : Nat), i < L.length → (L.set i v).sum + L.getD i 0 = L.sum + v
  | [], i, v, h => by simp at h
  | a :: L, 0, v, _ => by simp; omega
  | a :: L, i + 1, v, h => by
    have := sum_set L i v (by simpa using h)
    simp at this ⊢
    omega
theorem Wk.Ok.did {W : Wk} {t a b : Nat} (h : W.Ok t) (hc : ∀ (d : Nat) (e : End), (rowD W.w W.r)[d]? = some e → e.1 < W.ly.length) : (W.did a b).1.Ok t ∧ gn (W.did a b).2 = true ∧ dp (W.did a b).2 ≤ 2 ∧ (W.did a b).1.w = W.w ∧ (W.did a b).1.ly.length = W.ly.length := by
  have self : W.Ok t ∧ gn W.here = true ∧ dp W.here ≤ 2 ∧ W.w = W.w ∧ W.ly.length = W.ly.length := ⟨h, (gn_here h).1, (gn_here h).2, rfl, rfl⟩
  unfold Wk.did
  split
  · split
    · rename_i e he
      have h2 : (W.go e).Ok t := ⟨.inr ⟨e.2, rfl⟩, h.sum, hc _ e he⟩
      exact ⟨h2, (gn_here h2).1, (gn_here h2).2, rfl, rfl⟩
    · exact self
  · split
    · rename_i h3
      have hs := sum_set W.ly W.r (W.ly.getD W.r 0 + 1) h.lt
      have h2 : (W.lay).Ok t := ⟨h.came, by have := h.sum; show W.hand - 1 + (W.ly.set W.r (W.ly.getD W.r 0 + 1)).sum = t; omega, by have := h.lt; simpa [Wk.lay] using this⟩
      exact ⟨h2, (gn_here h2).1, (gn_here h2).2, rfl, by simp [Wk.lay]⟩
    · split
      · rename_i h3
        have hs := sum_set W.ly W.r (W.ly.getD W.r 0 - 1) h.lt
        have h2 : (W.take).Ok t := ⟨h.came, by have := h.sum; show W.hand + 1 + (W.ly.set W.r (W.ly.getD W.r 0 - 1)).sum = t; omega, by have := h.lt; simpa [Wk.take] using this⟩
        exact ⟨h2, (gn_here h2).1, (gn_here h2).2, rfl, by simp [Wk.take]⟩
      · exact self
end SW
namespace SW
open PySem L2

structure Ad where
  (p4 p5 n0 l0 n1 l1 p6 d0 d1 p7 t0 t1 p8 : Nat)
def prN (x : Nat × Nat) : D := .tup [nD x.1, nD x.2]
structure L28 (S : Sto) (c b z : Nat) (cs : List Int) (A : Ad) (w : Wb) (s0 s1 h0 h1 : Nat) (x0 x1 : List (Nat × Nat)) : Prop where
  hc : S[c]? = some (.lst (cs.map D.int))
  bx : Bx S b z
  a4 : S[A.p4]? = some (.lst [nD s0, nD s1])
  a5 : S[A.p5]? = some (.lst [nD h0, nD h1])
  w0 : WkAt S A.n0 A.l0 (runW (W0 w s0 h0) x0).1
  w1 : WkAt S A.n1 A.l1 (runW (W0 w s1 h1) x1).1
  a6 : S[A.p6]? = some (.lst [.loc A.n0, .loc A.n1])
  e0 : S[A.d0]? = some (.lst (x0.map prN))
  e1 : S[A.d1]? = some (.lst (x1.map prN))
  a7 : S[A.p7]? = some (.lst [.loc A.d0, .loc A.d1])
  t0 : S[A.t0]? = some (.lst (runW (W0 w s0 h0) x0).2)
  t1 : S[A.t1]? = some (.lst (runW (W0 w s1 h1) x1).2)
  a8 : S[A.p8]? = some (.lst [.loc A.t0, .loc A.t1])
  ord : c < b ∧ b < A.p4 ∧ A.p4 < A.p5 ∧ A.p5 < A.n0 ∧ A.n0 < A.l0 ∧ A.l0 < A.n1 ∧ A.n1 < A.l1 ∧ A.l1 < A.p6 ∧ A.p6 < A.d0 ∧ A.d0 < A.d1 ∧ A.d1 < A.p7 ∧ A.p7 < A.t0 ∧ A.t0 < A.t1 ∧ A.t1 < A.p8 ∧ A.p8 < S.length
end SW
namespace SW
open PySem L2

theorem L28.keep {S S' : Sto} {c b z : Nat} {cs : List Int} {A : Ad} {w : Wb} {s0 s1 h0 h1 : Nat} {x0 x1 : List (Nat × Nat)} (H : L28 S c b z cs A w s0 s1 h0 h1 x0 x1) (l : S.length ≤ S'.length) (f : ∀ m, m < S.length → S'[m]? = S[m]?) : L28 S' c b z cs A w s0 s1 h0 h1 x0 x1 := by
  have ord := H.ord
  exact { hc := by rw [f _ (by omega)]; exact H.hc, bx := H.bx.of (f _ (by omega)), a4 := by rw [f _ (by omega)]; exact H.a4, a5 := by rw [f _ (by omega)]; exact H.a5, w0 := H.w0.of (f _ (by omega)) (f _ (by omega)), w1 := H.w1.of (f _ (by omega)) (f _ (by omega)), a6 := by rw [f _ (by omega)]; exact H.a6, e0 := by rw [f _ (by omega)]; exact H.e0, e1 := by rw [f _ (by omega)]; exact H.e1, a7 := by rw [f _ (by omega)]; exact H.a7, t0 := by rw [f _ (by omega)]; exact H.t0, t1 := by rw [f _ (by omega)]; exact H.t1, a8 := by rw [f _ (by omega)]; exact H.a8, ord := by omega }
end SW
namespace SW
open PySem L2
end SW
namespace SW
open PySem L2

/-! views: trees as deep as asked -/
def viewT (w : Wb) : Nat → Nat → D
  | 0, r => .tup [nD (rowL w r)]
  | k + 1, r => .tup (nD (rowL w r) :: (rowD w r).map fun e => .tup [nD e.2, viewT w k e.1])
theorem gns_allN {n : Nat} : ∀ {ds : List D}, (∀ d ∈ ds, gn d = true ∧ dp d ≤ n) → gns ds = true ∧ dps ds ≤ n
  | [], _ => ⟨rfl, by simp [dps]⟩
  | d :: ds, h => by
    obtain ⟨h1, h2⟩ := h d (by simp)
    obtain ⟨g1, g2⟩ := gns_allN (ds := ds) fun x hx => h x (by simp [hx])
    refine ⟨by simp [gns, h1, g1], ?_⟩
    simp only [dps]
    omega
/-! the walk -/
structure Wk.Like (W W' : Wk) : Prop where
  w : W'.w = W.w
  hand : W'.hand = W.hand
  ly : W'.ly = W.ly
  steps : W.steps ≤ W'.steps
theorem Wk.Like.refl (W : Wk) : W.Like W := ⟨rfl, rfl, rfl, Nat.le_refl _⟩
theorem Wk.Like.trans {W W' W2 : Wk} (a : W.Like W') (b : W'.Like W2) : W.Like W2 := ⟨b.w.trans a.w, b.hand.trans a.hand, b.ly.trans a.ly, Nat.le_trans a.steps b.steps⟩
structure FrV (S S' : Sto) (n l : Nat) : Prop where
  len : S.length ≤ S'.length
  at_ : ∀ m, m < S.length → m ≠ n → m ≠ l → S'[m]? = S[m]?
theorem FrV.trans {S S' S2 : Sto} {n l : Nat} (a : FrV S S' n l) (b : FrV S' S2 n l) : FrV S S2 n l := ⟨Nat.le_trans a.len b.len, fun m h h1 h2 => (b.at_ m (by have := a.len; omega) h1 h2).trans (a.at_ m h h1 h2)⟩
theorem FrW.v {S S' : Sto} {n l : Nat} (a : FrW S S' n l) : FrV S S' n l := ⟨by rw [a.len]; exact Nat.le_refl _, fun m _ h1 h2 => a.at_ m h1 h2⟩
end SW
namespace SW
open PySem L2
end SW
namespace SW
open PySem L2

/-! a way gone by a walker -/
theorem WayAt.fr {S S' : Sto} {n l : Nat} {d : D} {ds : List Nat} (h : WayAt S d ds) (f : FrV S S' n l) (hn : d ≠ .loc n) (hl : d ≠ .loc l) : WayAt S' d ds := by
  unfold WayAt at h ⊢
  split at h
  · exact h
  · rename_i m
    rw [f.at_ m (sto_lt h) (fun e => hn (by rw [e])) (fun e => hl (by rw [e]))]
    exact h
  · exact h.elim
end SW
namespace SW
open PySem L2

/-! lists of trees: in, index -/
theorem toPs_map : ∀ ts : List D, toPs ts = ts.map toP
  | [] => rfl
  | t :: ts => by simp only [toPs, List.map_cons, toPs_map ts]
theorem pyOf_lst {S : Sto} {n : Nat} {ts : List D} (h : S[n]? = some (.lst ts)) (hg : ∀ t ∈ ts, gn t = true ∧ dp t ≤ 50) : pyOf S (.loc n) = some (.list (ts.map toP)) := by
  obtain ⟨g1, g2⟩ := gns_allN hg
  have e : pyL S 4 n = some (.list (toPs ts)) := by
    simp only [pyL, h]
    rw [gns_py _ ts g1]; rfl
  have d := gns_dep ts g1
  have c := gns_can ts g1
  unfold pyOf
  simp only [pyD, e, Option.bind_some]
  rw [if_pos, toPs_map]
  unfold SeqAt.shaped
  rw [Bool.and_eq_true]
  refine ⟨by simpa [PyData.canLay0] using c, decide_eq_true ?_⟩
  have : PyData.depth (.list (toPs ts)) = PyData.depthAll (toPs ts) + 1 := by simp [PyData.depth]
  omega
theorem any_eqv {t : D} (ht : gn t = true) : ∀ {ts : List D}, (∀ x ∈ ts, gn x = true) → ((ts.map toP).any fun z => PyData.eqv z (toP t)) = decide (t ∈ ts)
  | [], _ => by simp
  | x :: ts, h => by
    rw [List.map_cons, List.any_cons, gn_eqv x t (h x (by simp)) ht, any_eqv ht fun y hy => h y (by simp [hy])]
    by_cases e : x = t
    · simp [e]
    · have : ¬ t = x := fun z => e z.symm
      simp [e, this]
theorem idx_eqv {t : D} (ht : gn t = true) : ∀ {ts : List D}, (∀ x ∈ ts, gn x = true) → t ∈ ts → ((ts.map toP).findIdx? fun z => PyData.eqv z (toP t)) = some (ts.idxOf t)
  | [], _, h => by simp at h
  | x :: ts, h, hm => by
    rw [List.map_cons, List.findIdx?_cons, gn_eqv x t (h x (by simp)) ht]
    by_cases e : x = t
    · subst e
      simp
    · have hm' : t ∈ ts := by
        rcases List.mem_cons.mp hm with z | z
        · exact (e z.symm).elim
        · exact z
      rw [idx_eqv ht (fun y hy => h y (by simp [hy])) hm', List.idxOf_cons]
      have : (x == t) = false := by simpa using e
      simp [e, this]
theorem wq_notInTr {S : Sto} {n : Nat} {t : D} {ts : List D} {Q : D → Sto → Prop} (h : S[n]? = some (.lst ts)) (hg : ∀ t ∈ ts, gn t = true ∧ dp t ≤ 50) (ht : gd t) : Wp (notInD t (.loc n) S) Q ↔ Q (.bl (!decide (t ∈ ts))) S := by
  have e : notInD t (.loc n) S = some (.bl (!decide (t ∈ ts)), S) := by
    have e1 : inSq not t (.loc n) S = some (.bl (!decide (t ∈ ts)), S) := by
      unfold inSq
      simp only [gd_py ht, pyOf_lst h hg, Option.bind_some, any_eqv ht.1 fun x hx => (hg x hx).1]
    unfold notInD
    rw [e1]; rfl
  rw [e]
  exact wp_some
theorem wq_indexTr {S : Sto} {n : Nat} {t : D} {ts : List D} {Q : D → Sto → Prop} (h : S[n]? = some (.lst ts)) (hg : ∀ t ∈ ts, gn t = true ∧ dp t ≤ 50) (ht : gd t) (hm : t ∈ ts) : Wp (indexG (.loc n) [t] S) Q ↔ Q (nD (ts.idxOf t)) S := by
  have e : indexG (.loc n) [t] S = some (nD (ts.idxOf t), S) := by
    unfold indexG
    simp only [gd_py ht, pyOf_lst h hg, Option.bind_some, idx_eqv ht.1 (fun x hx => (hg x hx).1) hm]
    rfl
  rw [e]
  exact wp_some
end SW
namespace SW
open PySem L2

def Ln.fs (n k lv lw lm : Nat) : List (Str × D) := [("walker", .loc n), ("deep", nD k), ("views", .loc lv), ("ways", .loc lw), ("made", .loc lm)]
structure Ln (S : Sto) (g n l lv lw lm : Nat) (W : Wk) (k a : Nat) (L ps : List Nat) : Prop where
  ob : S[g]? = some (.ins "Learning" (Ln.fs n k lv lw lm))
  wk : WkAt S n l W
  vs : S[lv]? = some (.lst (L.map (viewT W.w k)))
  ws : S[lw]? = some (.lst (ps.map D.loc))
  lt : ∀ s ∈ L, s < W.w.length
  nd : (L.map (viewT W.w k)).Nodup
  pl : ps.length = L.length
  way : ∀ (i p s : Nat), ps[i]? = some p → L[i]? = some s → ∃ (ds : List Nat) (es : List End), S[p]? = some (.lst (ds.map nD)) ∧ spots W.w a ds = some es ∧ lastR a es = s ∧ ds.length ≤ i
  od : n < g ∧ l < g ∧ g < lv ∧ lv < lw ∧ lw < lm ∧ ∀ p ∈ ps, lm < p
section
variable {S : Sto} {g n l lv lw lm k a : Nat} {W : Wk} {L ps : List Nat} {Q : D → Sto → Prop}
theorem Ln.few (h : Ln S g n l lv lw lm W k a L ps) : L.length ≤ W.w.length := by
  have h1 : L.Nodup := List.Pairwise.of_map _ (fun a b z e => z (by rw [e])) h.nd
  exact nodup_le h1 h.lt
/-- the walker went somewhere, new things were made -/
theorem Ln.go {S' : Sto} {W' : Wk} (h : Ln S g n l lv lw lm W k a L ps) (h' : WkAt S' n l W') (e : W'.w = W.w) (f : FrV S S' n l) : Ln S' g n l lv lw lm W' k a L ps := by
  obtain ⟨o1, o2, o3, o4, o5, o6⟩ := h.od
  have hg := sto_lt h.ob
  have hv := sto_lt h.vs
  have hw := sto_lt h.ws
  refine ⟨(f.at_ _ hg (by omega) (by omega)).trans h.ob, h', ?_, (f.at_ _ hw (by omega) (by omega)).trans h.ws, by rw [e]; exact h.lt, by rw [e]; exact h.nd, h.pl, fun i p s h1 h2 => ?_, h.od⟩
  · rw [e]; exact (f.at_ _ hv (by omega) (by omega)).trans h.vs
  · obtain ⟨ds, es, a1, a2, a3, a4⟩ := h.way i p s h1 h2
    have := o6 p (List.mem_of_getElem? h1)
    exact ⟨ds, es, (f.at_ _ (sto_lt a1) (by omega) (by omega)).trans a1, by rw [e]; exact a2, a3, a4⟩
end
/-- a place that is none of these changes -/
theorem Ln.keep {S S' : Sto} {g n l lv lw lm k a x : Nat} {W : Wk} {L ps : List Nat} (h : Ln S g n l lv lw lm W k a L ps) (hx : lm ≤ x) (hp : x ∉ ps) (f : ∀ m, m ≠ x → S'[m]? = S[m]?) : Ln S' g n l lv lw lm W k a L ps := by
  obtain ⟨o1, o2, o3, o4, o5, o6⟩ := h.od
  refine ⟨(f _ (by omega)).trans h.ob, h.wk.of (f _ (by omega)) (f _ (by omega)), (f _ (by omega)).trans h.vs, (f _ (by omega)).trans h.ws, h.lt, h.nd, h.pl, fun i p s h1 h2 => ?_, h.od⟩
  obtain ⟨ds, es, a1, a2, a3, a4⟩ := h.way i p s h1 h2
  have : p ≠ x := fun e => hp (e ▸ List.mem_of_getElem? h1)
  exact ⟨ds, es, (f _ this).trans a1, a2, a3, a4⟩
structure FrL (S S' : Sto) (n l lv lw : Nat) : Prop where
  len : S.length ≤ S'.length
  at_ : ∀ m, m < S.length → m ≠ n → m ≠ l → m ≠ lv → m ≠ lw → S'[m]? = S[m]?
theorem FrV.l {S S' : Sto} {n l lv lw : Nat} (f : FrV S S' n l) : FrL S S' n l lv lw := ⟨f.len, fun m h1 h2 h3 _ _ => f.at_ m h1 h2 h3⟩
theorem FrL.trans {S S' S2 : Sto} {n l lv lw : Nat} (a : FrL S S' n l lv lw) (b : FrL S' S2 n l lv lw) : FrL S S2 n l lv lw := ⟨Nat.le_trans a.len b.len, fun m h h1 h2 h3 h4 => (b.at_ m (by have := a.len; omega) h1 h2 h3 h4).trans (a.at_ m h h1 h2 h3 h4)⟩
end SW
namespace SW
open PySem L2

theorem idx_app {α : Type} [BEq α] [LawfulBEq α] : ∀ {l m : List α} {x : α}, x ∈ l → (l ++ m).idxOf x = l.idxOf x
  | [], _, _, h => by simp at h
  | y :: l, m, x, h => by
    rw [List.cons_append, List.idxOf_cons, List.idxOf_cons]
    by_cases e : (y == x) = true
    · simp [e]
    · have : x ∈ l := by
        rcases List.mem_cons.mp h with z | z
        · subst z; simp at e
        · exact z
      simp only [Bool.not_eq_true] at e
      rw [e, idx_app this]
theorem FrL.lt {S S' : Sto} {n l lv lw m : Nat} (f : FrL S S' n l lv lw) (h : m < S.length) : m < S'.length := Nat.lt_of_lt_of_le h f.len
end SW
namespace SW
open PySem L2

end SW
namespace SW
open PySem L2

end SW
namespace SW
open PySem L2

end SW
namespace SW
open PySem L2

end SW
namespace SW
open PySem L2

/-! where a walker may be -/
def kinL (w : Wb) (r : Nat) : List Nat := (List.range w.length).filter fun x => decide (kdN w x = kdN w r)
end SW
namespace SW
open PySem L2

end SW
namespace SW
open PySem L2

end SW
namespace SW
open PySem L2

end SW
namespace SW
open PySem L2
end SW
namespace SW
open PySem L2
end SW
namespace SW
open PySem L2
end SW
namespace SW
open PySem L2

end SW
namespace SW
open PySem L2

/-! a web tied tie by tie -/
def HasE (hs : Wb) (e : End) : Prop := ∃ (r : Nat) (x : List End), hs[r]? = some x ∧ e ∈ x
theorem has_ins {hs : Wb} {r v : Nat} {x : List End} {e0 e : End} (hx : hs[r]? = some x) : HasE (hs.set r (insAt x v e0)) e ↔ HasE hs e ∨ e = e0 := by
  have hr : r < hs.length := (List.getElem?_eq_some_iff.mp hx).1
  have hm : ∀ y, y ∈ insAt x v e0 ↔ y = e0 ∨ y ∈ x := fun y => by rw [(ins_perm x v e0).mem_iff, List.mem_cons]
  constructor
  · rintro ⟨r', y, hy, he⟩
    by_cases q : r = r'
    · subst q
      rw [List.getElem?_set_self hr] at hy
      cases hy
      rcases (hm e).mp he with z | z
      · exact .inr z
      · exact .inl ⟨r, x, hx, z⟩
    · rw [List.getElem?_set_ne q] at hy
      exact .inl ⟨r', y, hy, he⟩
  · rintro (⟨r', y, hy, he⟩ | rfl)
    · by_cases q : r = r'
      · subst q
        rw [hx] at hy; cases hy
        exact ⟨r, _, List.getElem?_set_self hr, (hm e).mpr (.inr he)⟩
      · exact ⟨r', y, by rw [List.getElem?_set_ne q]; exact hy, he⟩
    · exact ⟨r, _, List.getElem?_set_self hr, (hm e).mpr (.inl rfl)⟩
def EntOk (hs : Wb) (kvs : List (Key × D)) (k : Nat) : Prop := ∀ e, HasE hs e → e.1 < k ∧ e.2 ≤ 1 ∧ ∃ lp : Bool, lk kvs (kN e.1) = some (.bl lp) ∧ HasE hs (e.1, if lp = true then e.2 else 1 - e.2) ∧ (lp = true → e.2 = 0)
def totL (hs : Wb) : Nat := (hs.map List.length).sum
theorem tot_set : ∀ {hs : Wb} {r : Nat} {x y : List End}, hs[r]? = some x → totL (hs.set r y) + x.length = totL hs + y.length
  | [], r, x, y, h => by simp at h
  | a :: hs, 0, x, y, h => by
    simp at h; subst h
    simp [totL]; omega
  | a :: hs, r + 1, x, y, h => by
    have := tot_set (hs := hs) (r := r) (y := y) (by simpa using h)
    simp [totL] at this ⊢; omega
theorem ins_len {x : List End} {v : Nat} {e : End} : (insAt x v e).length = x.length + 1 := (ins_perm x v e).length_eq
structure G2 (hs : Wb) (kvs : List (Key × D)) (many k : Nat) : Prop where
  len : hs.length = many
  ent : EntOk hs kvs k
  six : ∀ (r : Nat) (x : List End), hs[r]? = some x → x.length ≤ 6
  tot : totL hs ≤ 2 * k
  emp : ∀ (r : Nat) (x : List End), hs[r]? = some x → k < r → x = []
  kl : kvs.length ≤ k
  nd : hs.flatten.Nodup
  two : (0 < k → HasE hs (0, 0)) ∧ (1 < k → HasE hs (1, 0))
theorem has_flat {hs : Wb} {e : End} : HasE hs e ↔ e ∈ hs.flatten := by
  rw [List.mem_flatten]
  constructor
  · rintro ⟨r, x, h1, h2⟩; exact ⟨x, List.mem_of_getElem? h1, h2⟩
  · rintro ⟨x, h1, h2⟩
    obtain ⟨r, hr⟩ := List.getElem?_of_mem h1
    exact ⟨r, x, hr, h2⟩
theorem flat_ins : ∀ {hs : Wb} {r v : Nat} {x : List End} {e : End}, hs[r]? = some x → (hs.set r (insAt x v e)).flatten.Perm (e :: hs.flatten)
  | [], r, v, x, e, h => by simp at h
  | a :: hs, 0, v, x, e, h => by
    simp at h; subst h
    show (insAt a v e ++ hs.flatten).Perm (e :: (a ++ hs.flatten))
    exact (ins_perm a v e).append_right _
  | a :: hs, r + 1, v, x, e, h => by
    have ih := flat_ins (hs := hs) (r := r) (v := v) (e := e) (by simpa using h)
    show (a ++ (hs.set r (insAt x v e)).flatten).Perm (e :: (a ++ hs.flatten))
    exact (ih.append_left a).trans List.perm_middle
theorem lk_ptN {kvs : List (Key × D)} {a b : Nat} {d : D} : lk (ptK kvs (kN a) d) (kN b) = if b = a then some d else lk kvs (kN b) := by
  rw [lk_pt]
  by_cases h : b = a
  · rw [if_pos h, if_pos (by rw [h])]
  · rw [if_neg h, if_neg fun z => h (kN_inj z)]
/-- a tie more -/
theorem G2.loop {hs : Wb} {kvs : List (Key × D)} {many k r v : Nat} {x : List End} (G : G2 hs kvs many k) (hx : hs[r]? = some x) (h5 : x.length < 5) (hr : r ≤ k + 1) : G2 (hs.set r (insAt x v (k, 0))) (ptK kvs (kN k) (.bl true)) many (k + 1) := by
  have fresh : (k, 0) ∉ hs.flatten := fun h => by have := (G.ent _ (has_flat.mpr h)).1; simp at this
  refine ⟨by simpa using G.len, fun e he => ?_, fun r' y hy => ?_, ?_, fun r' y hy hlt => ?_, Nat.le_trans (pt_len _ _ _) (by have := G.kl; omega), (flat_ins hx).nodup_iff.mpr (List.nodup_cons.mpr ⟨fresh, G.nd⟩), fun _ => ?_, fun _ => ?_⟩
  rotate_left 4
  · by_cases e : k = 0
    · subst e; exact (has_ins hx).mpr (.inr rfl)
    · exact (has_ins hx).mpr (.inl (G.two.1 (by omega)))
  · by_cases e : k = 1
    · subst e; exact (has_ins hx).mpr (.inr rfl)
    · exact (has_ins hx).mpr (.inl (G.two.2 (by omega)))
  · rcases (has_ins hx).mp he with z | rfl
    · obtain ⟨a, b, lp, c, d, dd⟩ := G.ent e z
      refine ⟨by omega, b, lp, by rw [lk_ptN, if_neg (by omega)]; exact c, (has_ins hx).mpr (.inl d), dd⟩
    · exact ⟨by simp, by simp, true, by rw [lk_ptN, if_pos rfl], (has_ins hx).mpr (.inr (by simp)), fun _ => rfl⟩
  · by_cases q : r = r'
    · subst q
      rw [List.getElem?_set_self (List.getElem?_eq_some_iff.mp hx).1] at hy
      cases hy
      rw [ins_len]; omega
    · rw [List.getElem?_set_ne q] at hy; exact G.six r' y hy
  · have := tot_set (y := insAt x v (k, 0)) hx
    have h2 := G.tot
    rw [ins_len] at this
    omega
  · rw [List.getElem?_set_ne (by omega)] at hy
    exact G.emp r' y hy (by omega)
theorem G2.tie {hs : Wb} {kvs : List (Key × D)} {many k r r2 v v2 : Nat} {x x2 : List End} (G : G2 hs kvs many k) (hx : hs[r]? = some x) (h5 : x.length < 5) (hr : r ≤ k + 1) (hx2 : (hs.set r (insAt x v (k, 0)))[r2]? = some x2) (h6 : x2.length ≤ 5) (hr2 : r2 ≤ k + 1) : G2 ((hs.set r (insAt x v (k, 0))).set r2 (insAt x2 v2 (k, 1))) (ptK kvs (kN k) (.bl false)) many (k + 1) := by
  have hm : ∀ e, HasE ((hs.set r (insAt x v (k, 0))).set r2 (insAt x2 v2 (k, 1))) e ↔ HasE hs e ∨ e = (k, 0) ∨ e = (k, 1) := fun e => by rw [has_ins hx2, has_ins hx, or_assoc]
  have fresh : (k, 0) ∉ hs.flatten := fun h => by have := (G.ent _ (has_flat.mpr h)).1; simp at this
  have fresh2 : (k, 1) ∉ (hs.set r (insAt x v (k, 0))).flatten := fun h => by
    rcases List.mem_cons.mp ((flat_ins hx).mem_iff.mp h) with h | h
    · cases h
    · have := (G.ent _ (has_flat.mpr h)).1; simp at this
  refine ⟨by simpa using G.len, fun e he => ?_, fun r' y hy => ?_, ?_, fun r' y hy hlt => ?_, Nat.le_trans (pt_len _ _ _) (by have := G.kl; omega), (flat_ins hx2).nodup_iff.mpr (List.nodup_cons.mpr ⟨fresh2, (flat_ins hx).nodup_iff.mpr (List.nodup_cons.mpr ⟨fresh, G.nd⟩)⟩), fun _ => ?_, fun _ => ?_⟩
  rotate_left 4
  · by_cases e : k = 0
    · subst e; exact (hm _).mpr (.inr (.inl rfl))
    · exact (hm _).mpr (.inl (G.two.1 (by omega)))
  · by_cases e : k = 1
    · subst e; exact (hm _).mpr (.inr (.inl rfl))
    · exact (hm _).mpr (.inl (G.two.2 (by omega)))
  · rcases (hm e).mp he with z | rfl | rfl
    · obtain ⟨a, b, lp, c, d, dd⟩ := G.ent e z
      exact ⟨by omega, b, lp, by rw [lk_ptN, if_neg (by omega)]; exact c, (hm _).mpr (.inl d), dd⟩
    · exact ⟨by simp, by simp, false, by rw [lk_ptN, if_pos rfl], (hm _).mpr (.inr (.inr (by simp))), fun h => nomatch h⟩
    · exact ⟨by simp, by simp, false, by rw [lk_ptN, if_pos rfl], (hm _).mpr (.inr (.inl (by simp))), fun h => nomatch h⟩
  · by_cases q2 : r2 = r'
    · subst q2
      rw [List.getElem?_set_self (List.getElem?_eq_some_iff.mp hx2).1] at hy
      cases hy
      rw [ins_len]; omega
    · rw [List.getElem?_set_ne q2] at hy
      by_cases q : r = r'
      · subst q
        rw [List.getElem?_set_self (List.getElem?_eq_some_iff.mp hx).1] at hy
        cases hy
        rw [ins_len]; omega
      · rw [List.getElem?_set_ne q] at hy; exact G.six r' y hy
  · have h1 := tot_set (y := insAt x v (k, 0)) hx
    have h3 := tot_set (y := insAt x2 v2 (k, 1)) hx2
    have h2 := G.tot
    rw [ins_len] at h1 h3
    omega
  · rw [List.getElem?_set_ne (by omega), List.getElem?_set_ne (by omega)] at hy
    exact G.emp r' y hy (by omega)
end SW
namespace SW
open PySem L2

theorem Hw.low {S S' : Sto} {L many : Nat} {hs : Wb} (H : Hw S L many hs) (k : ∀ n, L ≤ n → n ≤ L + many → S'[n]? = S[n]?) : Hw S' L many hs :=
  ⟨(k _ (by omega) (by omega)).trans H.top, H.len, fun r x a => (k _ (by omega) (by have := H.len; have := (List.getElem?_eq_some_iff.mp a).1; omega)).trans (H.at_ r x a)⟩
end SW
namespace SW
open PySem L2

/-! where each end is -/
def Whr (hs : Wb) (many : Nat) (kvs : List (List Key × D)) (r i : Nat) : Prop := ∀ r' i' e, (r' < r ∨ (r' = r ∧ i' < i)) → aT hs r' i' = some e → ∃ p : End, lk kvs (kE e) = some (eD p) ∧ p.1 < many ∧ aT hs p.1 p.2 = some e
theorem Whr.put {hs : Wb} {many : Nat} {kvs : List (List Key × D)} {r i : Nat} {e : End} (h : Whr hs many kvs r i) (he : aT hs r i = some e) (hr : r < many) : Whr hs many (ptK kvs (kE e) (eD (r, i))) r (i + 1) := by
  intro r' i' e' hlt h'
  rw [lk_pt]
  by_cases q : kE e' = kE e
  · exact ⟨(r, i), by rw [if_pos q], hr, by rw [kE_inj q]; exact he⟩
  · rw [if_neg q]
    refine h r' i' e' ?_ h'
    rcases hlt with z | ⟨z, y⟩
    · exact .inl z
    · subst z
      by_cases q2 : i' = i
      · subst q2
        rw [he] at h'; cases h'
        exact absurd rfl q
      · exact .inr ⟨rfl, by omega⟩
end SW
namespace SW
open PySem L2

end SW
namespace SW
open PySem L2

end SW
namespace SW
open PySem L2

/-! stories -/
abbrev St := Nat × (Nat × Nat)
end SW
namespace SW
open PySem L2

end SW
namespace SW
open PySem L2

theorem spots_nx {w : Wb} {r i x : Nat} {ds : List Nat} {es es1 : List End} (hs : spots w r ds = some es) (hs1 : spots w r (ds.take i) = some es1) (hx : ds[i]? = some x) : ∃ e, aT w (lastR r es1) x = some e ∧ spots w r (ds.take (i + 1)) = some (es1 ++ [e]) := by
  have hd1 : ds = ds.take i ++ x :: ds.drop (i + 1) := by
    obtain ⟨hi, rfl⟩ := List.getElem?_eq_some_iff.mp hx
    rw [← List.drop_eq_getElem_cons hi, List.take_append_drop]
  rw [hd1, spots_split, hs1] at hs
  simp only [Option.bind_some, spots] at hs
  obtain ⟨_, h2, _⟩ := Option.map_eq_some_iff.mp hs
  obtain ⟨e, h3, _⟩ := Option.bind_eq_some_iff.mp h2
  refine ⟨e, h3, ?_⟩
  rw [List.take_succ, hx]
  exact spots_app _ _ _ _ _ hs1 h3
end SW
namespace SW
open PySem L2

end SW
namespace SW
open PySem L2

end SW
namespace SW
open PySem L2
end SW
namespace SW
open PySem L2

end SW
namespace SW
open PySem L2

theorem Hw.sb {S : Sto} {L many r : Nat} {hs : Wb} {Q : D → Sto → Prop} (H : Hw S L many hs) (hr : r < many) : Wp (sbD (.loc (L + many)) (.int (r : Int)) S) Q ↔ Q (.loc (L + r)) S := by
  have at1 : atI ((List.range many).map fun i => D.loc (L + i)) (r : Int) = some (.loc (L + r)) := atI_of (by rw [List.getElem?_map, List.getElem?_range hr]; rfl)
  rw [wq_sbL H.top, at1]; simp
end SW
namespace SW
open PySem L2

end SW
namespace SW
open PySem L2

theorem spots_tk {w : Wb} {r : Nat} {ds : List Nat} {es : List End} (h : spots w r ds = some es) : ∀ i, spots w r (ds.take i) = some (es.take i)
  | 0 => by rw [List.take_zero, List.take_zero]; rfl
  | i + 1 => by
    have ih := spots_tk h i
    have hl := spots_len _ r es h
    by_cases hi : i < ds.length
    · obtain ⟨e, h1, h2⟩ := spots_nx h ih (List.getElem?_eq_getElem hi)
      rw [h2]
      have h3 : (es.take i ++ [e]).length = i + 1 := by rw [List.length_append, List.length_take]; simp; omega
      have := spots_split (w := w) (ds.take (i + 1)) (ds.drop (i + 1)) r
      rw [List.take_append_drop, h, h2, Option.bind_some] at this
      obtain ⟨es2, _, e2⟩ := Option.map_eq_some_iff.mp this.symm
      have h4 := congrArg (List.take (i + 1)) e2
      rw [List.take_append_of_le_length (by omega), List.take_of_length_le (by omega)] at h4
      rw [h4]
    · rw [List.take_of_length_le (by omega), List.take_of_length_le (by omega)]; exact h
end SW
namespace SW
open PySem L2
end SW
namespace SW
open PySem L2

section
variable {w : Wb} {K k : Nat}
end
section
variable {w : Wb} {K k a : Nat}
end
end SW
namespace SW
open PySem L2

end SW
namespace SW
open PySem L2

/-! pairs of a list of trees and a truth, compared -/
theorem eqvs_tr : ∀ {ts us : List D}, (∀ t ∈ ts, gn t = true) → (∀ t ∈ us, gn t = true) → PyData.eqvAll (ts.map toP) (us.map toP) = decide (ts = us)
  | [], [], _, _ => rfl
  | [], _ :: _, _, _ => rfl
  | _ :: _, [], _, _ => rfl
  | t :: ts, u :: us, h, g => by
    rw [List.map_cons, List.map_cons]
    have ih := eqvs_tr (ts := ts) (us := us) (fun x hx => h x (by simp [hx])) (fun x hx => g x (by simp [hx]))
    simp only [PyData.eqvAll, gn_eqv t u (h t (by simp)) (g u (by simp)), ih, List.cons.injEq]
    by_cases h1 : t = u <;> by_cases h2 : ts = us <;> simp [h1, h2]
end SW
namespace SW
open PySem L2

end SW
namespace SW
open PySem L2
end SW
namespace SW
open PySem L2

end SW
namespace SW
open PySem L2

structure Plain (W : Wk) (w : Wb) (r h : Nat) : Prop where
  ww : W.w = w
  rr : W.r = r
  hand : W.hand = h
  ly : W.ly = List.replicate w.length 0
theorem Plain.like {W W' : Wk} {w : Wb} {r h : Nat} (P : Plain W w r h) (lk : W.Like W') (er : W'.r = W.r) : Plain W' w r h := ⟨lk.w.trans P.ww, er.trans P.rr, lk.hand.trans P.hand, lk.ly.trans P.ly⟩
end SW
namespace SW
open PySem L2

/-! whereabouts in rings and lines -/
theorem Fr.v {S0 S S' : Sto} {b n l : Nat} (f : Fr S0 S b) (g : FrV S S' n l) (hn : S0.length ≤ n) (hl : S0.length ≤ l) : Fr S0 S' b :=
  ⟨Nat.le_trans f.len g.len, fun m hm hmb => (g.at_ m (by have := f.len; omega) (by omega) (by omega)).trans (f.at_ m hm hmb)⟩
theorem Fr.keep {S0 S S' : Sto} {b : Nat} (f : Fr S0 S b) (l : S.length ≤ S'.length) (g : ∀ m, m < S.length → S'[m]? = S[m]?) : Fr S0 S' b :=
  ⟨Nat.le_trans f.len l, fun m hm hmb => (g m (by have := f.len; omega)).trans (f.at_ m hm hmb)⟩
theorem sum_rep (n : Nat) : (List.replicate n 0).sum = 0 := by
  induction n with
  | zero => rfl
  | succ n ih => rw [List.replicate_succ, List.sum_cons, ih]
theorem Plain.sum {V : Wk} {w : Wb} {r h : Nat} (P : Plain V w r h) : V.ly.sum = 0 := by rw [P.ly, sum_rep]
theorem Plain.onl {V : Wk} {w : Wb} {r h : Nat} (P : Plain V w r h) : V.onl = .tup [nD r, .tup []] := by
  unfold Wk.onl
  have h1 := expL_len V.ly V.ly.length (Nat.le_refl _)
  rw [List.take_length, P.sum] at h1
  rw [List.length_eq_zero_iff.mp h1, P.rr]; rfl
end SW
namespace SW
open PySem L2

end SW
namespace SW
open PySem L2

structure RR (S0 S : Sto) (b z n l p : Nat) (w : Wb) (r h : Nat) (V : Wk) : Prop where
  hb : Bx S b z
  wk : WkAt S n l V
  pl : Plain V w r h
  hp : S[p]? = some (.lst ((kinL w r).map nD))
  F : Fr S0 S b
  ord : b < S0.length ∧ p < S0.length ∧ S0.length ≤ n ∧ S0.length ≤ l
  pb : p ≠ b
theorem RR.keep {S0 S S' : Sto} {b z n l p r h : Nat} {w : Wb} {V : Wk} (R : RR S0 S b z n l p w r h V) (hl : S.length ≤ S'.length) (f : ∀ m, m < S.length → S'[m]? = S[m]?) : RR S0 S' b z n l p w r h V :=
  ⟨R.hb.of (f b R.hb.lt), R.wk.of (f _ (sto_lt R.wk.ob)) (f _ (sto_lt R.wk.ls)), R.pl, (f p (sto_lt R.hp)).trans R.hp, R.F.keep hl f, R.ord, R.pb⟩
theorem RR.go {S0 S S' : Sto} {b z n l p r h : Nat} {w : Wb} {V V' : Wk} (R : RR S0 S b z n l p w r h V) (w' : WkAt S' n l V') (lk : V.Like V') (er : V'.r = V.r) (f : FrV S S' n l) : RR S0 S' b z n l p w r h V' := by
  obtain ⟨a1, a2, a3, a4⟩ := R.ord
  exact ⟨R.hb.of (f.at_ b R.hb.lt (by omega) (by omega)), w', R.pl.like lk er, (f.at_ p (sto_lt R.hp) (by omega) (by omega)).trans R.hp, R.F.v f a3 a4, R.ord, R.pb⟩
end SW
namespace SW
open PySem L2

end SW
namespace SW
open PySem L2

end SW
namespace SW
open PySem L2
def b_l_pairs : EvS := (seqS (stS 2 (aE lstD nilA))
  (seqS (forS (rgI1 (aE lenD (consA (vE 0) nilA))) (.nm 3) (seqS (stS 4 (aE g_l_gone (consA (vE 0) (consA (vE 3) (consA (lcE (sqI (b2E sbD (vE 1) (cE (.int 1)))) (.nm 5) yesT (b2E sbD (vE 5) (cE (.int 0))) [5]) nilA)))))
  (ifS (andT (tB (b2E isNotD (vE 4) (cE .non))) (tB (b2E eqD (aE lenD (consA (b2E sbD (vE 0) (vE 3)) nilA)) (b2E sbD (vE 1) (cE (.int 0)))))) (ifS (tB (b2E eqD (lcE (sqI (slE (vE 4) (someO (cE (.int 1))) noO)) (.tp [(.nm 6), (.nm 7)]) yesT (aE tupD (consA (vE 7) (consA (aE lenD (consA (b2E sbD (vE 0) (vE 6)) nilA)) nilA))) [6, 7]) (lcE (sqI (b2E sbD (vE 1) (cE (.int 1)))) (.nm 5) yesT (slE (vE 5) (someO (cE (.int 1))) noO) [5]))) (exS (mE appendM (vE 2) (consA (aE tupD (consA (vE 3) (consA (b2E sbD (b2E sbD (vE 4) (u1E negD (cE (.int 1)))) (cE (.int 0))) nilA))) nilA))) nxS) nxS)))
  (rtS (vE 2))))
def g_l_pairs : Fn := fnD 2 8 b_l_pairs
def b_l_leads_home : EvS := (seqS (forS (sqI (aE g_l_pairs (consA (vE 0) (consA (vE 1) nilA)))) (.tp [(.nm 3), (.nm 4)]) (seqS (stS 5 (aE g_l_gone (consA (vE 0) (consA (vE 4) (consA (vE 2) nilA)))))
  (ifS (orT' (tB (b2E isD (vE 5) (cE .non))) (tB (b2E neD (b2E sbD (b2E sbD (vE 5) (u1E negD (cE (.int 1)))) (cE (.int 0))) (vE 3)))) (rtS (cE (.bl false))) nxS)))
  (rtS (cE (.bl true))))
def g_l_leads_home : Fn := fnD 3 6 b_l_leads_home
end SW
namespace SW
open PySem L2

/-! a search over things of any kind, kept in a dict with nested keys -/
section
variable {σ : Type}
def kvG (key : σ → NestedKey) (f : List Nat → D) (ws : List (σ × List Nat)) : List (NestedKey × D) := ws.map fun x => (key x.1, f x.2)
def rmG (enc : σ → D) (ws : List (σ × List Nat)) : List D := ws.map fun x => enc x.1
variable {key : σ → NestedKey} {enc : σ → D} {f : List Nat → D}
structure LvG (S0 S : Sto) (st : σ → Nat → Option σ) (s0 : σ) (key : σ → NestedKey) (P : σ → Prop) (dl : Nat) (ws : List (σ × List Nat)) (a door : Nat) : Prop where
  dict : S[dl]? = some (.dN (kvG key wF ws))
  bfs : Bfs st s0 ws a door
  ok : ∀ x ∈ ws, P x.1
  len : S0.length ≤ S.length
  fr : ∀ n, n < S0.length → S[n]? = S0[n]?
structure LgI (S0 S : Sto) (st : σ → Nat → Option σ) (s0 : σ) (key : σ → NestedKey) (enc : σ → D) (P : σ → Prop) (dl l g : Nat) (ws0 more : List (σ × List Nat)) (a i door : Nat) : Prop where
  at_ : LvG S0 S st s0 key P dl (ws0 ++ more) (a + i) door
  last : S[l]? = some (.lst (rmG enc (ws0.drop a)))
  next : S[g]? = some (.lst (rmG enc more))
  gl : g ≠ l
  dg : S0.length ≤ dl
  gg : S0.length ≤ g
variable {S0 S : Sto} {st : σ → Nat → Option σ} {s0 : σ} {P : σ → Prop} {dl l g a i door : Nat} {ws0 more : List (σ × List Nat)}
theorem LgI.spot (h : LgI S0 S st s0 key enc P dl l g ws0 more a i door) {x : σ × List Nat} (hx : (ws0.drop a)[i]? = some x) : (ws0 ++ more)[a + i]? = some x := by
  rw [List.getElem?_drop] at hx
  rw [List.getElem?_append_left (List.getElem?_eq_some_iff.mp hx).1]
  exact hx
theorem LgI.old (h : LgI S0 S st s0 key enc P dl l g ws0 more a i door) {u : σ} {q : List Nat} (hx : (ws0.drop a)[i]? = some (u, q)) {v : σ} (hv : st u door = some v) (ho : ∃ (i : Nat) (p : List Nat), (ws0 ++ more)[i]? = some (v, p)) : LgI S0 S st s0 key enc P dl l g ws0 more a i (door + 1) :=
  ⟨⟨h.at_.dict, h.at_.bfs.old (h.spot hx) fun v' hv' => by rw [hv] at hv'; cases hv'; exact ho, h.at_.ok, h.at_.len, h.at_.fr⟩, h.last, h.next, h.gl, h.dg, h.gg⟩
theorem LgI.new (h : LgI S0 S st s0 key enc P dl l g ws0 more a i door) {u : σ} {q : List Nat} (hx : (ws0.drop a)[i]? = some (u, q)) {v : σ} (hv : st u door = some v) (hP : P v) (hn : ∀ (i : Nat) (p : List Nat), (ws0 ++ more)[i]? ≠ some (v, p)) :
    LgI S0 ((S.set dl (.dN (kvG key wF (ws0 ++ more ++ [(v, q ++ [door])])))).set g (.lst (rmG enc more ++ [enc v]))) st s0 key enc P dl l g ws0 (more ++ [(v, q ++ [door])]) a i (door + 1) := by
  have hd := h.at_.dict
  have hl := h.last
  have hg := h.next
  have n1 : dl ≠ g := fun z => by subst z; rw [hd] at hg; cases hg
  have n2 : dl ≠ l := fun z => by subst z; rw [hd] at hl; cases hl
  have n3 := h.gl
  have b := h.at_.bfs.new (h.spot hx) hv hn
  rw [List.append_assoc] at b
  refine ⟨⟨?_, b, ?_, ?_, ?_⟩, ?_, ?_, n3, h.dg, h.gg⟩
  · rw [sto_ne (Ne.symm n1), sto_set hd, List.append_assoc]
  · intro x hx
    rw [← List.append_assoc] at hx
    rcases List.mem_append.mp hx with hx | hx
    · exact h.at_.ok x hx
    · simp at hx; subst hx; exact hP
  · simpa using h.at_.len
  · intro n hn
    rw [sto_ne (by have := h.gg; omega), sto_ne (by have := h.dg; omega)]
    exact h.at_.fr n hn
  · rw [sto_ne n3, sto_ne n2]; exact hl
  · rw [sto_set (p := .lst (rmG enc more)) (by rw [sto_ne n1]; exact hg)]
    unfold rmG
    rw [List.map_append]; rfl
/-- a thing that a way leads to stands there, or the search isn't at its end -/
theorem LvG.left {ws : List (σ × List Nat)} (h : LvG S0 S st s0 key P dl ws a 0) {p : List Nat} {v : σ} (hr : runS st s0 p = some v) : (∃ (i : Nat) (q : List Nat), ws[i]? = some (v, q)) ∨ a < ws.length := by
  rcases h.bfs.reach p.length p v rfl hr with ⟨i, q, e, _⟩ | ⟨j, x, q', q1, h1, h2, _, _⟩
  · exact .inl ⟨i, q, e⟩
  · exact .inr (by have := (List.getElem?_eq_some_iff.mp h2).1; omega)
end
end SW
namespace SW
open PySem L2

end SW
namespace SW
open PySem L2

theorem LvG.keep {σ : Type} {S0 S S' : Sto} {st : σ → Nat → Option σ} {s0 : σ} {key : σ → NestedKey} {P : σ → Prop} {dl a door : Nat} {ws : List (σ × List Nat)} (h : LvG S0 S st s0 key P dl ws a door) (l : S.length ≤ S'.length) (f : ∀ m, m < S.length → S'[m]? = S[m]?) : LvG S0 S' st s0 key P dl ws a door :=
  ⟨(f _ (sto_lt h.dict)).trans h.dict, h.bfs, h.ok, Nat.le_trans h.len l, fun n hn => (f n (by have := h.len; omega)).trans (h.fr n hn)⟩
theorem LgI.keep {σ : Type} {S0 S S' : Sto} {st : σ → Nat → Option σ} {s0 : σ} {key : σ → NestedKey} {enc : σ → D} {P : σ → Prop} {dl l g a i door : Nat} {ws0 more : List (σ × List Nat)} (h : LgI S0 S st s0 key enc P dl l g ws0 more a i door) (hl : S.length ≤ S'.length) (f : ∀ m, m < S.length → S'[m]? = S[m]?) : LgI S0 S' st s0 key enc P dl l g ws0 more a i door :=
  ⟨h.at_.keep hl f, (f _ (sto_lt h.last)).trans h.last, (f _ (sto_lt h.next)).trans h.next, h.gl, h.dg, h.gg⟩
end SW
namespace SW
open PySem L2

end SW
namespace SW
open PySem L2

end SW
namespace SW
open PySem L2

/-! the law's own look at pairs of rooms -/
theorem wq_eqTr {S : Sto} {m n : Nat} {ts us : List D} {Q : D → Sto → Prop} (h1 : S[m]? = some (.lst ts)) (h2 : S[n]? = some (.lst us)) (g1 : ∀ t ∈ ts, gn t = true ∧ dp t ≤ 50) (g2 : ∀ t ∈ us, gn t = true ∧ dp t ≤ 50) : Wp (eqD (.loc m) (.loc n) S) Q ↔ Q (.bl (decide (ts = us))) S := by
  have e : eqD (.loc m) (.loc n) S = some (.bl (decide (ts = us)), S) := by
    unfold eqD
    rw [pyOf_lst h1 g1, pyOf_lst h2 g2]
    simp only [Option.bind_some, Option.map_some, PyData.eqv, eqvs_tr (fun t ht => (g1 t ht).1) (fun t ht => (g2 t ht).1)]
  rw [e]; exact wp_some
section
variable {S : Sto} {w : Wb} {n r : Nat} {ss : List St} {es : List End} {Q : D → Sto → Prop}
end
end SW
namespace SW
open PySem L2

end SW
namespace SW
open PySem L2

end SW
namespace SW
open PySem L2

end SW
namespace SW
open PySem L2

end SW
namespace SW
open PySem L2

def TA : EvE := (aE anyD (consA (lcE (sqI (vE 9)) (.nm 13) yesT (aE g_l_leads_home (consA (vE 4) (consA (vE 7) (consA (vE 13) nilA)))) [13]) nilA))
end SW
namespace SW
open PySem L2
end SW
namespace SW
open PySem L2

end SW
namespace SW
open PySem L2

def endR (w : Wb) (x d : Nat) : End := ((rowD w x)[d]?).getD (0, 0)
theorem endR_of {w : Wb} {x d : Nat} {e : End} (h : (rowD w x)[d]? = some e) : endR w x d = e := by unfold endR; rw [h]; rfl
end SW
namespace SW
open PySem L2

end SW
namespace SW
open PySem L2

end SW
namespace SW
open PySem L2

end SW
namespace SW
open PySem L2

end SW
namespace SW
open PySem L2

end SW
namespace SW
open PySem L2

end SW
namespace SW
open PySem L2

end SW
namespace SW
open PySem L2

end SW
namespace SW
open PySem L2

end SW
namespace SW
open PySem L2

end SW
namespace SW
open PySem L2

end SW
namespace SW
open PySem L2

end SW
namespace SW
open PySem L2
end SW
namespace SW
open PySem L2
end SW
namespace SW
open PySem L2

/-! maps with a stone: what is known of a web, by rooms and by ties gone through -/
theorem endR_at {w : Wb} {x d : Nat} (hd : d < (rowD w x).length) : (rowD w x)[d]? = some (endR w x d) := by
  unfold endR
  rw [List.getElem?_eq_getElem hd]; rfl
theorem endR_back {w : Wb} {x d : Nat} (W : IsWeb w) (hd : d < (rowD w x).length) : (endR w x d).1 < w.length ∧ (endR w x d).2 < (rowD w (endR w x d).1).length ∧ endR w (endR w x d).1 (endR w x d).2 = (x, d) := by
  have h := endR_at hd
  have b := W.back _ _ _ _ (rowD_at.mp h)
  have h2 := rowD_at.mpr b
  exact ⟨W.back.closed _ _ _ _ (rowD_at.mp h), (List.getElem?_eq_some_iff.mp h2).1, endR_of h2⟩
def isKn (w : Wb) (T : List End) (x d : Nat) : Bool := decide ((x, d) ∈ T ∨ endR w x d ∈ T)
theorem isKn_iff {w : Wb} {T : List End} {x d : Nat} : isKn w T x d = true ↔ (x, d) ∈ T ∨ endR w x d ∈ T := by
  unfold isKn
  rw [decide_eq_true_eq]
theorem isKn_back {w : Wb} {T : List End} {x d : Nat} (W : IsWeb w) (hd : d < (rowD w x).length) : isKn w T (endR w x d).1 (endR w x d).2 = isKn w T x d := by
  rw [Bool.eq_iff_iff, isKn_iff, isKn_iff, (endR_back W hd).2.2]
  exact Or.comm
theorem isKn_add {w : Wb} {T : List End} {x d y c : Nat} : isKn w (T ++ [(x, d)]) y c = true ↔ isKn w T y c = true ∨ (y, c) = (x, d) ∨ endR w y c = (x, d) := by
  rw [isKn_iff, isKn_iff, List.mem_append, List.mem_append, List.mem_singleton, List.mem_singleton]
  constructor
  · rintro ((h | h) | (h | h))
    · exact .inl (.inl h)
    · exact .inr (.inl h)
    · exact .inl (.inr h)
    · exact .inr (.inr h)
  · rintro ((h | h) | h | h)
    · exact .inl (.inl h)
    · exact .inr (.inl h)
    · exact .inl (.inr h)
    · exact .inr (.inr h)
structure Kst (w : Wb) (a : Nat) (L : List Nat) (T : List End) : Prop where
  hd : L[0]? = some a
  lt : ∀ x ∈ L, x < w.length
  nd : L.Nodup
  vt : ∀ t ∈ T, t.1 ∈ L ∧ t.2 < (rowD w t.1).length ∧ (endR w t.1 t.2).1 ∈ L
  tn : T.Nodup
  cn : ∀ x ∈ L, ∀ P : Nat → Prop, (∀ t ∈ T, P t.1 ↔ P (endR w t.1 t.2).1) → (P a ↔ P x)
  od : met w w.length 0 L = metL w a
section
variable {w : Wb} {a : Nat} {L : List Nat} {T : List End}
theorem Kst.few (k : Kst w a L T) : L.length ≤ w.length := nodup_le k.nd k.lt
theorem Kst.known (k : Kst w a L T) (W : IsWeb w) {x d : Nat} (hd : d < (rowD w x).length) (h : isKn w T x d = true) : x ∈ L ∧ (endR w x d).1 ∈ L := by
  rcases isKn_iff.mp h with h | h
  · exact ⟨(k.vt _ h).1, (k.vt _ h).2.2⟩
  · have := k.vt _ h
    rw [(endR_back W hd).2.2] at this
    exact ⟨this.2.2, this.1⟩
/-- from any room known to any other one -/
theorem Kst.conn (k : Kst w a L T) {x y : Nat} (hx : x ∈ L) (hy : y ∈ L) {P : Nat → Prop} (hP : ∀ t ∈ T, P t.1 ↔ P (endR w t.1 t.2).1) (h : P x) : P y := (k.cn y hy P hP).mp ((k.cn x hx P hP).mpr h)
end
theorem metRow_all : ∀ {row : List End} {xs : List Nat}, (∀ e ∈ row, e.1 ∈ xs) → metRow xs row = xs
  | [], _, _ => rfl
  | e :: row, xs, h => by
    show metRow (metStep xs e) row = xs
    unfold metStep
    rw [if_pos (h e (by simp))]
    exact metRow_all fun e' he => h e' (by simp [he])
/-- rooms whose ends all lead to rooms met: nothing is met on the way -/
theorem met_rows {w : Wb} : ∀ (i k n : Nat) (xs : List Nat), (∀ j, k ≤ j → j < k + i → ∃ x, xs[j]? = some x ∧ ∀ e ∈ rowD w x, e.1 ∈ xs) → met w (n + i) k xs = met w n (k + i) xs
  | 0, k, n, xs, _ => rfl
  | i + 1, k, n, xs, h => by
    obtain ⟨x, hx, he⟩ := h k (Nat.le_refl _) (by omega)
    have e1 : met w (n + (i + 1)) k xs = met w (n + i) (k + 1) (metRow xs (rowD w x)) := by
      show met w ((n + i) + 1) k xs = _
      simp only [met, hx]; rfl
    rw [e1, metRow_all he, met_rows i (k + 1) n xs fun j h1 h2 => h j (by omega) (by omega)]
    congr 1
    omega
/-- all ends known: all rooms are met, in their order -/
theorem met_full {w : Wb} {L : List Nat} (hl : L.length ≤ w.length) (h : ∀ x ∈ L, ∀ e ∈ rowD w x, e.1 ∈ L) : met w w.length 0 L = L := by
  obtain ⟨n, hn⟩ : ∃ n, w.length = n + L.length := ⟨w.length - L.length, by omega⟩
  rw [hn, met_rows L.length 0 n L fun j _ hj => ⟨L[j], List.getElem?_eq_getElem (by omega), fun e he => h _ (List.getElem_mem _) e he⟩]
  exact met_done (by omega)
end SW
namespace SW
open PySem L2

/-! a known web in the store; ways by known ties -/
def kEnd (w : Wb) (L : List Nat) (T : List End) (x d : Nat) : D := if isKn w T x d = true then eD (L.idxOf (endR w x d).1, (endR w x d).2) else .non
def kRow (w : Wb) (L : List Nat) (T : List End) (x : Nat) : List D := (List.range (rowD w x).length).map (kEnd w L T x)
theorem kRow_len {w : Wb} {L : List Nat} {T : List End} {x : Nat} : (kRow w L T x).length = (rowD w x).length := by simp [kRow]
theorem kRow_at {w : Wb} {L : List Nat} {T : List End} {x d : Nat} (hd : d < (rowD w x).length) : (kRow w L T x)[d]? = some (kEnd w L T x d) := by
  unfold kRow
  rw [List.getElem?_map, List.getElem?_range hd]; rfl
def Kw.fs (n le s : Nat) : List (Str × D) := [("walker", .loc n), ("ends", .loc le), ("spot", nD s)]
structure KwAt (S : Sto) (g n l le : Nat) (ps : List Nat) (W : Wk) (L : List Nat) (T : List End) (s : Nat) : Prop where
  ob : S[g]? = some (.ins "KnownWeb" (Kw.fs n le s))
  wk : WkAt S n l W
  en : S[le]? = some (.lst (ps.map D.loc))
  pl : ps.length = L.length
  rw : ∀ i p x : Nat, ps[i]? = some p → L[i]? = some x → S[p]? = some (.lst (kRow W.w L T x))
  pn : ps.Nodup
  od : n < g ∧ l < g ∧ g < le ∧ ∀ p ∈ ps, g < p ∧ p ≠ le
  sl : s < L.length
section
variable {S : Sto} {g n l le s : Nat} {ps : List Nat} {W : Wk} {L : List Nat} {T : List End} {Q : D → Sto → Prop}
theorem KwAt.plt (h : KwAt S g n l le ps W L T s) {p : Nat} (hp : p ∈ ps) : p < S.length := by
  obtain ⟨i, hi⟩ := List.getElem?_of_mem hp
  have hl : i < L.length := by rw [← h.pl]; exact (List.getElem?_eq_some_iff.mp hi).1
  exact sto_lt (h.rw i p _ hi (List.getElem?_eq_getElem hl))
theorem KwAt.of {S' : Sto} (h : KwAt S g n l le ps W L T s) (f : ∀ m, m < S.length → S'[m]? = S[m]?) : KwAt S' g n l le ps W L T s :=
  ⟨(f _ (sto_lt h.ob)).trans h.ob, h.wk.of (f _ (sto_lt h.wk.ob)) (f _ (sto_lt h.wk.ls)), (f _ (sto_lt h.en)).trans h.en, h.pl, fun i p x e1 e2 => (f _ (h.plt (List.mem_of_getElem? e1))).trans (h.rw i p x e1 e2), h.pn, h.od, h.sl⟩
/-- the walker did something -/
theorem KwAt.go {S' : Sto} {W' : Wk} (h : KwAt S g n l le ps W L T s) (h' : WkAt S' n l W') (e : W'.w = W.w) (f : FrV S S' n l) : KwAt S' g n l le ps W' L T s := by
  obtain ⟨o1, o2, o3, o4⟩ := h.od
  refine ⟨(f.at_ _ (sto_lt h.ob) (by omega) (by omega)).trans h.ob, h', (f.at_ _ (sto_lt h.en) (by omega) (by omega)).trans h.en, h.pl, fun i p x e1 e2 => ?_, h.pn, h.od, h.sl⟩
  have := o4 p (List.mem_of_getElem? e1)
  rw [e]
  exact (f.at_ _ (h.plt (List.mem_of_getElem? e1)) (by omega) (by omega)).trans (h.rw i p x e1 e2)
theorem KwAt.room (h : KwAt S g n l le ps W L T s) {i x : Nat} (hx : L[i]? = some x) : ∃ p, ps[i]? = some p ∧ S[p]? = some (.lst (kRow W.w L T x)) := by
  have hi : i < ps.length := by rw [h.pl]; exact (List.getElem?_eq_some_iff.mp hx).1
  exact ⟨ps[i], List.getElem?_eq_getElem hi, h.rw i _ x (List.getElem?_eq_getElem hi) hx⟩
end
section
variable {w : Wb} {a : Nat} {L : List Nat} {T : List End}
theorem getD_of {L : List Nat} {i x : Nat} (h : L[i]? = some x) : L.getD i 0 = x := by rw [List.getD_eq_getElem?_getD, h]; rfl
theorem idx_get {L : List Nat} {x : Nat} (h : x ∈ L) : L[L.idxOf x]? = some x := by
  have h1 := List.idxOf_lt_length_iff.mpr h
  rw [List.getElem?_eq_getElem h1, List.getElem_idxOf h1]
/-- ways found so far -/
structure WbP (w : Wb) (L : List Nat) (T : List End) (s a : Nat) (ws : Wys) : Prop where
  nd : ∀ (i j : Nat) (x y : Nat × List Nat), i < j → ws[i]? = some x → ws[j]? = some y → x.1 ≠ y.1
  hd : ws[0]? = some (s, [])
  ok : ∀ (i j : Nat) (p : List Nat), ws[i]? = some (j, p) → p.length ≤ i ∧ j < L.length ∧ ∃ es, spots w (L.getD s 0) p = some es ∧ lastR (L.getD s 0) es = L.getD j 0
  cl : ∀ (k j : Nat) (p : List Nat), k < a → ws[k]? = some (j, p) → ∀ d, d < (rowD w (L.getD j 0)).length → isKn w T (L.getD j 0) d = true → ∃ (i : Nat) (q : List Nat), ws[i]? = some (L.idxOf (endR w (L.getD j 0) d).1, q)
theorem WbP.few {s a : Nat} {ws : Wys} (h : WbP w L T s a ws) : ws.length ≤ L.length := by
  have := nodup_le (n := L.length) (xs := ws.map (·.1)) ?_ ?_
  · simpa using this
  · rw [List.nodup_iff_pairwise_ne, List.pairwise_iff_getElem]
    intro i j hi hj hij
    rw [List.getElem_map, List.getElem_map]
    simp at hi hj
    exact h.nd i j _ _ hij (List.getElem?_eq_getElem hi) (List.getElem?_eq_getElem hj)
  · intro x hx
    obtain ⟨y, hy, rfl⟩ := List.mem_map.mp hx
    obtain ⟨i, hi⟩ := List.getElem?_of_mem hy
    exact (h.ok i y.1 y.2 hi).2.1
/-- all is found where nothing is left to do -/
theorem WbP.full {s : Nat} {ws : Wys} (h : WbP w L T s ws.length ws) (W : IsWeb w) (K : Kst w a L T) {goal : Nat} (hs : s < L.length) (hg : goal < L.length) : ∃ (i : Nat) (p : List Nat), ws[i]? = some (goal, p) := by
  have hgs : ∀ i, i < L.length → L.getD i 0 ∈ L ∧ L.idxOf (L.getD i 0) = i := fun i hi => by
    have e : L[i]? = some L[i] := List.getElem?_eq_getElem hi
    rw [getD_of e]
    exact ⟨List.getElem_mem hi, idx_at K.nd e⟩
  have step : ∀ x d, x ∈ L → d < (rowD w x).length → isKn w T x d = true → (∃ (i : Nat) (q : List Nat), ws[i]? = some (L.idxOf x, q)) → ∃ (i : Nat) (q : List Nat), ws[i]? = some (L.idxOf (endR w x d).1, q) := fun x d hx hd hk ⟨i, q, e⟩ => by
    have ex : L.getD (L.idxOf x) 0 = x := getD_of (idx_get hx)
    have := h.cl i (L.idxOf x) q (List.getElem?_eq_some_iff.mp e).1 e d (by rw [ex]; exact hd) (by rw [ex]; exact hk)
    rw [ex] at this
    exact this
  have := K.conn (hgs s hs).1 (hgs goal hg).1 (P := fun x => ∃ (i : Nat) (q : List Nat), ws[i]? = some (L.idxOf x, q)) (fun t ht => ?_) ⟨0, [], by rw [(hgs s hs).2]; exact h.hd⟩
  · rw [(hgs goal hg).2] at this
    exact this
  · obtain ⟨v1, v2, v3⟩ := K.vt t ht
    have hk : isKn w T t.1 t.2 = true := isKn_iff.mpr (.inl ht)
    obtain ⟨b1, b2, b3⟩ := endR_back W v2
    refine ⟨step _ _ v1 v2 hk, fun z => ?_⟩
    have := step _ _ v3 b2 (by rw [isKn_back W v2]; exact hk) z
    rw [b3] at this
    exact this
end
end SW
namespace SW
open PySem L2

end SW
namespace SW
open PySem L2

/-! the map with a stone: going to a known room, the room with the stone, the first open door -/
structure FrG (S S' : Sto) (g n l : Nat) : Prop where
  len : S.length ≤ S'.length
  at_ : ∀ m, m < S.length → m ≠ g → m ≠ n → m ≠ l → S'[m]? = S[m]?
theorem FrG.refl (S : Sto) (g n l : Nat) : FrG S S g n l := ⟨Nat.le_refl _, fun _ _ _ _ _ => rfl⟩
theorem FrG.trans {S S' S2 : Sto} {g n l : Nat} (a : FrG S S' g n l) (b : FrG S' S2 g n l) : FrG S S2 g n l := ⟨Nat.le_trans a.len b.len, fun m h h1 h2 h3 => (b.at_ m (by have := a.len; omega) h1 h2 h3).trans (a.at_ m h h1 h2 h3)⟩
theorem FrV.g {S S' : Sto} {g n l : Nat} (a : FrV S S' n l) : FrG S S' g n l := ⟨a.len, fun m h _ h2 h3 => a.at_ m h h2 h3⟩
theorem KwAt.spot {S : Sto} {g n l le s s' : Nat} {ps : List Nat} {V : Wk} {L : List Nat} {T : List End} (h : KwAt S g n l le ps V L T s) (hs : s' < L.length) :
    fstD ["KnownWeb"] "spot" (.loc g) (nD s') S = some (S.set g (.ins "KnownWeb" (Kw.fs n le s'))) ∧ KwAt (S.set g (.ins "KnownWeb" (Kw.fs n le s'))) g n l le ps V L T s' := by
  obtain ⟨o1, o2, o3, o4⟩ := h.od
  refine ⟨fst_at h.ob (by simp) (by simp [Kw.fs]), sto_set h.ob, h.wk.of (sto_ne (by omega)) (sto_ne (by omega)), by rw [sto_ne (by omega)]; exact h.en, h.pl, fun i p x e1 e2 => ?_, h.pn, h.od, hs⟩
  have := o4 p (List.mem_of_getElem? e1)
  rw [sto_ne (by omega)]
  exact h.rw i p x e1 e2
/-! the first open door -/
theorem wq_inTr {S : Sto} {n : Nat} {t : D} {ts : List D} {Q : D → Sto → Prop} (h : S[n]? = some (.lst ts)) (hg : ∀ t ∈ ts, gn t = true ∧ dp t ≤ 50) (ht : gd t) : Wp (inD t (.loc n) S) Q ↔ Q (.bl (decide (t ∈ ts))) S := by
  have e : inD t (.loc n) S = some (.bl (decide (t ∈ ts)), S) := by
    have e1 : inSq id t (.loc n) S = some (.bl (decide (t ∈ ts)), S) := by
      unfold inSq
      simp only [gd_py ht, pyOf_lst h hg, Option.bind_some, any_eqv ht.1 fun x hx => (hg x hx).1, id]
    unfold inD
    rw [e1]; rfl
  rw [e]
  exact wp_some
end SW
namespace SW
open PySem L2

/-! the map with a stone: a tie more -/
section
variable {w : Wb} {a : Nat} {L : List Nat} {T : List End} {i j x d : Nat}
theorem endR_iff (W : IsWeb w) (hd : d < (rowD w x).length) {z t : Nat} (ht : t < (rowD w z).length) : endR w z t = (x, d) ↔ (z, t) = endR w x d := by
  constructor
  · intro h
    have := (endR_back W ht).2.2
    rw [h] at this
    exact this.symm
  · intro h
    have := (endR_back W hd).2.2
    rw [← h] at this
    exact this
def tied (y c : Nat) (e : End) (R : List D) (z : Nat) : List D := if z = y then R.set c (eD e) else R
theorem tied_len {y c : Nat} {e : End} {R : List D} {z : Nat} : (tied y c e R z).length = R.length := by
  unfold tied; split <;> simp
theorem tied_at {y c : Nat} {e : End} {R : List D} {z t : Nat} (ht : t < R.length) : (tied y c e R z)[t]? = if (z, t) = (y, c) then some (eD e) else R[t]? := by
  unfold tied
  by_cases hz : z = y
  · rw [if_pos hz, List.getElem?_set]
    by_cases hc : c = t
    · rw [if_pos hc, if_pos (by omega), if_pos (by rw [hz, hc])]
    · rw [if_neg hc, if_neg (fun h => hc (by injection h with _ h; exact h.symm))]
  · rw [if_neg hz, if_neg (fun h => hz (by injection h))]
theorem kRow_add (W : IsWeb w) (hn : L.Nodup) (hx : L[i]? = some x) (hd : d < (rowD w x).length) (hj : L[j]? = some (endR w x d).1) (z : Nat) :
    kRow w L (T ++ [(x, d)]) z = tied (endR w x d).1 (endR w x d).2 (i, d) (tied x d (j, (endR w x d).2) (kRow w L T z) z) z := by
  obtain ⟨b1, b2, b3⟩ := endR_back W hd
  apply List.ext_getElem?
  intro t
  by_cases ht : t < (rowD w z).length
  · rw [kRow_at ht, tied_at (by rw [tied_len, kRow_len]; exact ht), tied_at (by rw [kRow_len]; exact ht), kRow_at ht]
    have ka := isKn_add (w := w) (T := T) (x := x) (d := d) (y := z) (c := t)
    rw [endR_iff W hd ht] at ka
    have ee : ((endR w x d).1, (endR w x d).2) = endR w x d := rfl
    rw [ee]
    unfold kEnd
    by_cases h1 : (z, t) = endR w x d
    · rw [if_pos h1, if_pos (ka.mpr (.inr (.inr h1)))]
      have e2 := (endR_iff W hd ht).mpr h1
      rw [e2, idx_at hn hx]
    · rw [if_neg h1]
      by_cases h2 : (z, t) = (x, d)
      · rw [if_pos h2, if_pos (ka.mpr (.inr (.inl h2)))]
        have e1 : z = x := by injection h2
        have e2 : t = d := by injection h2
        subst e1 e2
        rw [idx_at hn hj]
      · rw [if_neg h2]
        by_cases h3 : isKn w T z t = true
        · rw [if_pos h3, if_pos (ka.mpr (.inl h3))]
        · rw [if_neg h3, if_neg fun z => ?_]
          rcases ka.mp z with z | z | z
          · exact h3 z
          · exact h2 z
          · exact h1 z
  · rw [List.getElem?_eq_none (by rw [kRow_len]; omega), List.getElem?_eq_none (by rw [tied_len, tied_len, kRow_len]; omega)]
end
theorem KwAt.tie {S S' : Sto} {g n l le s i j x d p q : Nat} {ps : List Nat} {V : Wk} {L : List Nat} {T : List End} (h : KwAt S g n l le ps V L T s) (hn : L.Nodup) (hx : L[i]? = some x) (hd : d < (rowD V.w x).length) (hj : L[j]? = some (endR V.w x d).1) (hp : ps[i]? = some p) (hq : ps[j]? = some q)
    (e1 : ∀ m, m ≠ p → m ≠ q → S'[m]? = S[m]?) (e2 : S'[p]? = some (.lst (kRow V.w L (T ++ [(x, d)]) x))) (e3 : S'[q]? = some (.lst (kRow V.w L (T ++ [(x, d)]) (endR V.w x d).1))) : KwAt S' g n l le ps V L (T ++ [(x, d)]) s := by
  obtain ⟨o1, o2, o3, o4⟩ := h.od
  have op := o4 p (List.mem_of_getElem? hp)
  have oq := o4 q (List.mem_of_getElem? hq)
  refine ⟨(e1 _ (by omega) (by omega)).trans h.ob, h.wk.of (e1 _ (by omega) (by omega)) (e1 _ (by omega) (by omega)), (e1 _ (fun z => op.2 z.symm) (fun z => oq.2 z.symm)).trans h.en, h.pl, fun k r z hr hz => ?_, h.pn, h.od, h.sl⟩
  have W := h.wk.web
  by_cases hpr : r = p
  · subst hpr
    have hkl := (List.getElem?_eq_some_iff.mp hr).1
    have : k = i := (List.getElem?_inj hkl h.pn).mp (by rw [hr, hp])
    subst this
    rw [hx] at hz; cases hz
    exact e2
  · by_cases hqr : r = q
    · subst hqr
      have hkl := (List.getElem?_eq_some_iff.mp hr).1
      have : k = j := (List.getElem?_inj hkl h.pn).mp (by rw [hr, hq])
      subst this
      rw [hj] at hz; cases hz
      exact e3
    · rw [e1 r hpr hqr, h.rw k r z hr hz, kRow_add W hn hx hd hj]
      have n1 : z ≠ x := fun e => by
        subst e
        have : k = i := (List.getElem?_inj (List.getElem?_eq_some_iff.mp hz).1 hn).mp (by rw [hz, hx])
        subst this
        rw [hp] at hr; exact hpr (Option.some.inj hr).symm
      have n2 : z ≠ (endR V.w x d).1 := fun e => by
        have : k = j := (List.getElem?_inj (List.getElem?_eq_some_iff.mp hz).1 hn).mp (by rw [hz, hj, e])
        subst this
        rw [hq] at hr; exact hqr (Option.some.inj hr).symm
      unfold tied
      rw [if_neg n1, if_neg n2]
end SW
namespace SW
open PySem L2

structure FrK (S S' : Sto) (g n l : Nat) : Prop where
  len : S.length ≤ S'.length
  at_ : ∀ m, m < g → m ≠ n → m ≠ l → S'[m]? = S[m]?
theorem FrK.refl (S : Sto) (g n l : Nat) : FrK S S g n l := ⟨Nat.le_refl _, fun _ _ _ _ => rfl⟩
theorem FrK.trans {S S' S2 : Sto} {g n l : Nat} (a : FrK S S' g n l) (b : FrK S' S2 g n l) : FrK S S2 g n l := ⟨Nat.le_trans a.len b.len, fun m h h1 h2 => (b.at_ m h h1 h2).trans (a.at_ m h h1 h2)⟩
theorem FrG.k {S S' : Sto} {g n l : Nat} (a : FrG S S' g n l) (hg : g < S.length) : FrK S S' g n l := ⟨a.len, fun m h h2 h3 => a.at_ m (by omega) (by omega) h2 h3⟩
end SW
namespace SW
open PySem L2

/-! the map with a stone: all of it -/
theorem kRow_nil {w : Wb} {L : List Nat} {x : Nat} : kRow w L [] x = List.replicate (rowD w x).length .non := by
  unfold kRow
  apply List.ext_getElem?
  intro t
  by_cases ht : t < (rowD w x).length
  · rw [List.getElem?_map, List.getElem?_range ht, List.getElem?_replicate, if_pos ht]
    unfold kEnd isKn
    simp
  · rw [List.getElem?_eq_none (by simp; omega), List.getElem?_eq_none (by simp; omega)]
theorem Kst.full {w : Wb} {a : Nat} {L : List Nat} {T : List End} (W : IsWeb w) (K : Kst w a L T) (h : ∀ x ∈ L, ∀ d, d < (rowD w x).length → isKn w T x d = true) : L = metL w a := by
  rw [← K.od, met_full K.few fun x hx e he => ?_]
  obtain ⟨t, ht⟩ := List.getElem?_of_mem he
  have htl := (List.getElem?_eq_some_iff.mp ht).1
  have := (K.known W htl (h x hx t htl)).2
  rw [endR_of ht] at this
  exact this
end SW
namespace SW
open PySem L2

/-! what is seen with a stone, and what parts -/
section
variable {w1 w2 : Wb} {a b : Nat}
end
end SW
namespace SW
open PySem L2

end SW
namespace SW
open PySem L2

section
variable {w1 w2 : Wb} {a b : Nat} {p : List Nat} {S : Sto}
end
end SW
namespace SW
open PySem L2
end SW
namespace SW
open PySem L2
end SW
namespace SW
open PySem L2
end SW
namespace SW
open PySem L2
end SW
namespace SW
open PySem L2
end SW
namespace SW
open PySem L2
end SW
namespace SW
open PySem L2
end SW
namespace SW
open PySem L2
end SW
namespace SW
open PySem L2
end SW
namespace SW
open PySem L2
end SW
namespace SW
open PySem L2
end SW
namespace SW
open PySem L2
end SW
namespace SW
open PySem L2
end SW
namespace SW
open PySem L2
end SW
namespace SW
open PySem L2
end SW
namespace SW
open PySem L2
def b_Chart___init__ : EvS := (seqS (fstS ["Chart"] "marks" (vE 0) (aE lstD (consA (vE 1) nilA)))
  (seqS (fstS ["Chart"] "ends" (vE 0) (aE lstD (consA (b2E mulD (aE lstD (consA (cE .non) nilA)) (vE 2)) nilA)))
  (fstS ["Chart"] "spot" (vE 0) (cE (.int 0)))))
def g_Chart___init__ : Fn := fnD 3 3 b_Chart___init__
def b_l_mark : EvS := (seqS (stS 1 (b2E sbD (cE (.str "abcdefghijklmnopqrstuvwxyz")) (b2E modD (b2E addD (b2E mulD (vE 0) (cE (.int 7))) (cE (.int 3))) (cE (.int 26)))))
  (rtS (b2E mulSD (vE 1) (b2E sbD (aE lstD (consA (cE (.int 1)) (consA (cE (.int 3)) (consA (cE (.int 1)) (consA (cE (.int 8)) (consA (cE (.int 2)) nilA)))))) (b2E modD (vE 0) (cE (.int 5)))))))
def g_l_mark : Fn := fnD 1 2 b_l_mark
def b_Chart_open_at : EvS := (rtS (lcE (enI (b2E sbD (u1E (fldD ["Chart"] "ends") (vE 0)) (vE 1))) (.tp [(.nm 2), (.nm 3)]) (tB (b2E isD (vE 3) (cE .non))) (vE 2) [2, 3]))
def g_Chart_open_at : Fn := fnD 2 4 b_Chart_open_at
def b_Chart_open_doors : EvS := (seqS (stS 1 (aE lstD nilA))
  (seqS (forS (rgI1 (aE lenD (consA (u1E (fldD ["Chart"] "ends") (vE 0)) nilA))) (.nm 2) (exS (mE extendM (vE 1) (consA (lcE (sqI (mtE "Chart" "open_at" g_Chart_open_at (vE 0) (consA (vE 2) nilA))) (.nm 3) yesT (aE tupD (consA (vE 2) (consA (vE 3) nilA))) [3]) nilA))))
  (rtS (vE 1))))
def g_Chart_open_doors : Fn := fnD 1 4 b_Chart_open_doors
def b_Chart_rooms : EvS := (rtS (aE tupleD (consA (lcE (ziI (u1E (fldD ["Chart"] "marks") (vE 0)) (u1E (fldD ["Chart"] "ends") (vE 0))) (.tp [(.nm 1), (.nm 2)]) yesT (aE tupD (consA (vE 1) (consA (aE lenD (consA (vE 2) nilA)) nilA))) [1, 2]) nilA)))
def g_Chart_rooms : Fn := fnD 1 3 b_Chart_rooms
def b_Chart_here : EvS := (rtS (b2E sbD (u1E (fldD ["Chart"] "marks") (vE 0)) (u1E (fldD ["Chart"] "spot") (vE 0))))
def g_Chart_here : Fn := fnD 1 1 b_Chart_here
def b_Chart_sketch : EvS := (rtS (aE tupleD (consA (lcE (sqI (u1E (fldD ["Chart"] "ends") (vE 0))) (.nm 1) yesT (aE tupleD (consA (vE 1) nilA)) [1]) nilA)))
def g_Chart_sketch : Fn := fnD 1 2 b_Chart_sketch
end SW
namespace SW
open PySem L2
def b_l_begun : EvS := (rtS (d4E (cE (.str "order")) (aE lstD (consA (vE 0) nilA)) (cE (.str "many")) (d1E (vE 0) (vE 1)) (cE (.str "ends")) nT (cE (.str "at")) (vE 0)))
def g_l_begun : Fn := fnD 2 2 b_l_begun
def b_l_sketch_due : EvS := (seqS (stS 1 (aE lstD nilA))
  (seqS (forS (sqI (b2E sbD (vE 0) (cE (.str "order")))) (.nm 2) (seqS (stS 3 (lcE (rgI1 (b2E sbD (b2E sbD (vE 0) (cE (.str "many"))) (vE 2))) (.nm 4) yesT (getE (b2E sbD (vE 0) (cE (.str "ends"))) (aE tupD (consA (vE 2) (consA (vE 4) nilA)))) [4]))
  (exS (mE appendM (vE 1) (consA (aE tupleD (consA (lcE (sqI (vE 3)) (.nm 5) yesT (iteE (tB (b2E isD (vE 5) (cE .non))) (cE .non) (aE tupD (consA (mE indexG (b2E sbD (vE 0) (cE (.str "order"))) (consA (b2E sbD (vE 5) (cE (.int 0))) nilA)) (consA (b2E sbD (vE 5) (cE (.int 1))) nilA)))) [5]) nilA)) nilA)))))
  (rtS (aE tupleD (consA (vE 1) nilA)))))
def g_l_sketch_due : Fn := fnD 1 6 b_l_sketch_due
def b_l_chart_right : EvS := (seqS (stS 2 (aE tupleD (consA (lcE (sqI (b2E sbD (vE 1) (cE (.str "order")))) (.nm 6) yesT (aE tupD (consA (vE 6) (consA (b2E sbD (b2E sbD (vE 1) (cE (.str "many"))) (vE 6)) nilA))) [6]) nilA)))
  (seqS (ifS (orT' (tB (b2E neD (mtE "Chart" "here" g_Chart_here (vE 0) nilA) (b2E sbD (vE 1) (cE (.str "at"))))) (tB (b2E neD (mtE "Chart" "rooms" g_Chart_rooms (vE 0) nilA) (vE 2)))) (rtS (cE (.bl false))) nxS)
  (seqS (stS 3 (aE g_l_sketch_due (consA (vE 1) nilA)))
  (seqS (stS 4 (aE lstD nilA))
  (seqS (forS (rgI1 (aE lenD (consA (vE 3) nilA))) (.nm 5) (exS (mE extendM (vE 4) (consA (lcE (rgI1 (aE lenD (consA (b2E sbD (vE 3) (vE 5)) nilA))) (.nm 7) (tB (b2E isD (b2E sbD (b2E sbD (vE 3) (vE 5)) (vE 7)) (cE .non))) (aE tupD (consA (vE 5) (consA (vE 7) nilA))) [7]) nilA))))
  (rtS (andE (b2E eqD (mtE "Chart" "sketch" g_Chart_sketch (vE 0) nilA) (vE 3)) (b2E eqD (mtE "Chart" "open_doors" g_Chart_open_doors (vE 0) nilA) (vE 4)))))))))
def g_l_chart_right : Fn := fnD 2 8 b_l_chart_right
def b_l_stepped : EvS := (seqS (ifS (tB (b2E notInD (vE 3) (b2E sbD (vE 0) (cE (.str "order"))))) (seqS (exS (mE appendM (b2E sbD (vE 0) (cE (.str "order"))) (consA (vE 3) nilA)))
  (asS (vE 4) (subG (b2E sbD (vE 0) (cE (.str "many"))) (vE 3)))) nxS)
  (seqS (asS (aE tupD (consA (vE 3) (consA (vE 2) nilA))) (subG (b2E sbD (vE 0) (cE (.str "ends"))) (aE tupD (consA (b2E sbD (vE 0) (cE (.str "at"))) (consA (vE 1) nilA)))))
  (seqS (asS (aE tupD (consA (b2E sbD (vE 0) (cE (.str "at"))) (consA (vE 1) nilA))) (subG (b2E sbD (vE 0) (cE (.str "ends"))) (aE tupD (consA (vE 3) (consA (vE 2) nilA)))))
  (asS (vE 3) (subG (vE 0) (cE (.str "at")))))))
def g_l_stepped : Fn := fnD 5 5 b_l_stepped
end SW
namespace SW
open PySem L2
end SW
namespace SW
open PySem L2
def b_l_step : EvS := (seqS (stS 2 (b2E sbD (vE 1) (cE (.str "at"))))
  (seqS (stS 3 (aE g_l_take (consA (vE 0) (consA (aE max2D (consA (cE (.int 1)) (consA (b2E addD (b2E sbD (b2E sbD (vE 1) (cE (.str "many"))) (vE 2)) (aE intD (consA (b2E eqD (aE g_l_take (consA (vE 0) (consA (cE (.int 6)) nilA))) (cE (.int 0))) nilA))) nilA))) nilA))))
  (seqS (ifS (tB (b2E eqD (aE g_l_take (consA (vE 0) (consA (cE (.int 16)) nilA))) (cE (.int 0)))) (stS 3 (u1E negD (cE (.int 1)))) nxS)
  (seqS (stS 4 (getE (b2E sbD (vE 1) (cE (.str "ends"))) (aE tupD (consA (vE 2) (consA (vE 3) nilA)))))
  (seqS (stS 5 (aE g_l_mark (consA (aE g_l_take (consA (vE 0) (consA (b2E sbD (aE lstD (consA (cE (.int 4)) (consA (cE (.int 12)) nilA))) (aE intD (consA (b2E eqD (aE g_l_take (consA (vE 0) (consA (cE (.int 3)) nilA))) (cE (.int 0))) nilA))) nilA))) nilA)))
  (seqS (ifS (andT (tB (b2E isNotD (vE 4) (cE .non))) (tB (b2E gtD (aE g_l_take (consA (vE 0) (consA (cE (.int 3)) nilA))) (cE (.int 0))))) (stS 5 (b2E sbD (vE 4) (cE (.int 0)))) nxS)
  (seqS (stS 6 (getE2 (b2E sbD (vE 1) (cE (.str "many"))) (vE 5) (b2E addD (cE (.int 1)) (aE g_l_take (consA (vE 0) (consA (cE (.int 6)) nilA))))))
  (seqS (ifS (tB (b2E eqD (aE g_l_take (consA (vE 0) (consA (cE (.int 5)) nilA))) (cE (.int 0)))) (stS 6 (aE g_l_take (consA (vE 0) (consA (cE (.int 7)) nilA)))) nxS)
  (seqS (stS 7 (aE g_l_take (consA (vE 0) (consA (aE max2D (consA (cE (.int 1)) (consA (b2E addD (vE 6) (aE intD (consA (b2E eqD (aE g_l_take (consA (vE 0) (consA (cE (.int 6)) nilA))) (cE (.int 0))) nilA))) nilA))) nilA))))
  (seqS (ifS (andT (tB (b2E isNotD (vE 4) (cE .non))) (andT (tB (b2E eqD (vE 5) (b2E sbD (vE 4) (cE (.int 0))))) (tB (b2E gtD (aE g_l_take (consA (vE 0) (consA (cE (.int 4)) nilA))) (cE (.int 0)))))) (stS 7 (b2E sbD (vE 4) (cE (.int 1)))) nxS)
  (rtS (aE tupD (consA (vE 3) (consA (vE 7) (consA (vE 5) (consA (vE 6) nilA))))))))))))))))
def g_l_step : Fn := fnD 2 8 b_l_step
def b_l_due_v7 : EvS := (seqS (ifS (orT' (notT (tB (chE leD ltD (cE (.int 0)) (vE 1) (b2E sbD (b2E sbD (vE 0) (cE (.str "many"))) (b2E sbD (vE 0) (cE (.str "at"))))))) (tB (b2E geD (vE 2) (vE 4)))) (rtS (cE (.str "door"))) nxS)
  (seqS (ifS (tB (b2E neD (getE2 (b2E sbD (vE 0) (cE (.str "many"))) (vE 3) (vE 4)) (vE 4))) (rtS (cE (.str "doors"))) nxS)
  (seqS (ifS (tB (b2E neD (getE2 (b2E sbD (vE 0) (cE (.str "ends"))) (aE tupD (consA (b2E sbD (vE 0) (cE (.str "at"))) (consA (vE 1) nilA))) (aE tupD (consA (vE 3) (consA (vE 2) nilA)))) (aE tupD (consA (vE 3) (consA (vE 2) nilA))))) (rtS (cE (.str "end"))) nxS)
  (seqS (ifS (tB (b2E neD (getE2 (b2E sbD (vE 0) (cE (.str "ends"))) (aE tupD (consA (vE 3) (consA (vE 2) nilA))) (aE tupD (consA (b2E sbD (vE 0) (cE (.str "at"))) (consA (vE 1) nilA)))) (aE tupD (consA (b2E sbD (vE 0) (cE (.str "at"))) (consA (vE 1) nilA))))) (rtS (cE (.str "taken"))) nxS)
  (rtS (cE .non))))))
def g_l_due_v7 : Fn := fnD 5 5 b_l_due_v7
def b_x_Chart_look_clash : EvS := (seqS (stS 5 (cE .non))
  (seqS (ifS (tB (b2E inD (vE 3) (u1E (fldD ["Chart"] "marks") (vE 0)))) (seqS (stS 7 (mE indexG (u1E (fldD ["Chart"] "marks") (vE 0)) (consA (vE 3) nilA)))
  (seqS (ifS (tB (b2E neD (aE lenD (consA (b2E sbD (u1E (fldD ["Chart"] "ends") (vE 0)) (vE 7)) nilA)) (vE 4))) (raiseF "Clash" "why" (consA (cE (.str "a room with another number of doors")) (consA (cE (.str "doors")) nilA))) nxS)
  (stS 5 (aE tupD (consA (vE 7) (consA (vE 2) nilA)))))) nxS)
  (seqS (stS 6 (b2E sbD (b2E sbD (u1E (fldD ["Chart"] "ends") (vE 0)) (u1E (fldD ["Chart"] "spot") (vE 0))) (vE 1)))
  (seqS (ifS (andT (tB (b2E isNotD (vE 6) (cE .non))) (tB (b2E neD (vE 6) (vE 5)))) (raiseF "Clash" "why" (consA (cE (.str "a door that leads elsewhere")) (consA (cE (.str "end")) nilA))) nxS)
  (ifS (andT (tB (b2E isNotD (vE 5) (cE .non))) (tB (b2E (inTD not) (b2E sbD (b2E sbD (u1E (fldD ["Chart"] "ends") (vE 0)) (b2E sbD (vE 5) (cE (.int 0)))) (vE 2)) (aE tupD (consA (cE .non) (consA (aE tupD (consA (u1E (fldD ["Chart"] "spot") (vE 0)) (consA (vE 1) nilA))) nilA)))))) (raiseF "Clash" "why" (consA (cE (.str "a door that comes from elsewhere")) (consA (cE (.str "taken")) nilA))) nxS)))))
def g_x_Chart_look_clash : FnX := fnX 5 8 b_x_Chart_look_clash
def b_x_Chart_went : EvS := (seqS (ifS (orT' (notT (tB (chE leD ltD (cE (.int 0)) (vE 1) (aE lenD (consA (b2E sbD (u1E (fldD ["Chart"] "ends") (vE 0)) (u1E (fldD ["Chart"] "spot") (vE 0))) nilA))))) (notT (tB (chE leD ltD (cE (.int 0)) (vE 2) (vE 4))))) (raiseS "NoDoor") nxS)
  (seqS (exX (mtX "Chart" "look_clash" g_x_Chart_look_clash (vE 0) (consA (vE 1) (consA (vE 2) (consA (vE 3) (consA (vE 4) nilA))))))
  (seqS (ifS (tB (b2E notInD (vE 3) (u1E (fldD ["Chart"] "marks") (vE 0)))) (seqS (exS (mE appendM (u1E (fldD ["Chart"] "marks") (vE 0)) (consA (vE 3) nilA)))
  (exS (mE appendM (u1E (fldD ["Chart"] "ends") (vE 0)) (consA (b2E mulD (aE lstD (consA (cE .non) nilA)) (vE 4)) nilA)))) nxS)
  (seqS (stS 5 (mE indexG (u1E (fldD ["Chart"] "marks") (vE 0)) (consA (vE 3) nilA)))
  (seqS (asS (aE tupD (consA (vE 5) (consA (vE 2) nilA))) (subG (b2E sbD (u1E (fldD ["Chart"] "ends") (vE 0)) (u1E (fldD ["Chart"] "spot") (vE 0))) (vE 1)))
  (seqS (asS (aE tupD (consA (u1E (fldD ["Chart"] "spot") (vE 0)) (consA (vE 1) nilA))) (subG (b2E sbD (u1E (fldD ["Chart"] "ends") (vE 0)) (vE 5)) (vE 2)))
  (fstS ["Chart"] "spot" (vE 0) (vE 5))))))))
def g_x_Chart_went : FnX := fnX 5 6 b_x_Chart_went
def b_l_told_v4 : EvS := (seqS (stS 5 (cE .non))
  (seqS (tryF ["NoDoor", "Clash"] 6 5 (exX (mtX "Chart" "went" g_x_Chart_went (vE 0) (consA (vE 1) (consA (vE 2) (consA (vE 3) (consA (vE 4) nilA)))))))
  (seqS (ifS (tB (b2E isD (vE 5) (cE .non))) (rtS (cE .non)) nxS)
  (seqS (ifS (orT' (tB (u1E (isExF [("NoDoor", false), ("Clash", false)]) (vE 5))) (notT (tB (u1E (isExF [("NoDoor", true), ("Clash", true)]) (vE 5))))) (rtS (cE (.str "other"))) nxS)
  (seqS (ifS (tB (b2E eqD (u1E (isExF [("NoDoor", true), ("Clash", false)]) (vE 5)) (u1E (isExF [("NoDoor", false), ("Clash", true)]) (vE 5)))) (rtS (cE (.str "other"))) nxS)
  (rtS (iteE (tB (u1E (isExF [("NoDoor", false), ("Clash", true)]) (vE 5))) (u1E (xfD "Clash" "why") (vE 5)) (cE (.str "door")))))))))
def g_l_told_v4 : Fn := fnD 5 7 b_l_told_v4
def b_law_v80 : EvS := (seqS (stS 1 (aE g_l_box (consA (vE 0) (consA (cE (.int 0)) nilA))))
  (seqS (stS 2 (aE g_l_take (consA (vE 1) (consA (cE (.int 7)) nilA))))
  (seqS (stS 3 (mkE "Chart" g_Chart___init__ (consA (aE g_l_mark (consA (cE (.int 1)) nilA)) (consA (vE 2) nilA))))
  (seqS (stS 4 (aE g_l_begun (consA (aE g_l_mark (consA (cE (.int 1)) nilA)) (consA (vE 2) nilA))))
  (seqS (forS (rgI1 (aE max2D (consA (cE (.int 8)) (consA (aE lenD (consA (slE (vE 0) (someO (cE (.int 1))) (someO (cE (.int 63)))) nilA)) nilA)))) (.nm 5) (seqS (stS 1 (aE g_l_box (consA (vE 0) (consA (b2E addD (vE 5) (cE (.int 1))) nilA))))
  (forS (rgI1 (cE (.int 2))) (.nm 6) (seqS (asS (aE g_l_step (consA (vE 1) (consA (vE 4) nilA))) (patG (.tp [(.nm 8), (.nm 9), (.nm 10), (.nm 2)])))
  (seqS (stS 7 (aE g_l_due_v7 (consA (vE 4) (consA (vE 8) (consA (vE 9) (consA (vE 10) (consA (vE 2) nilA)))))))
  (seqS (ifS (tB (b2E neD (aE g_l_told_v4 (consA (vE 3) (consA (vE 8) (consA (vE 9) (consA (vE 10) (consA (vE 2) nilA)))))) (vE 7))) (rtS (cE (.bl false))) nxS)
  (seqS (ifS (tB (b2E isD (vE 7) (cE .non))) (exS (aE g_l_stepped (consA (vE 4) (consA (vE 8) (consA (vE 9) (consA (vE 10) (consA (vE 2) nilA))))))) nxS)
  (ifS (notT (tB (aE g_l_chart_right (consA (vE 3) (consA (vE 4) nilA))))) (rtS (cE (.bl false))) nxS))))))))
  (rtS (cE (.bl true))))))))
def g_law_v80 : Fn := fnD 1 11 b_law_v80
end SW
namespace SW
open PySem L2

end SW
namespace SW
open PySem L2

/-- as it was -/
structure AsW (V V' : Wk) : Prop where
  w : V'.w = V.w
  r : V'.r = V.r
  hand : V'.hand = V.hand
  ly : V'.ly = V.ly
theorem AsW.refl (V : Wk) : AsW V V := ⟨rfl, rfl, rfl, rfl⟩
theorem AsW.trans {A B C : Wk} (a : AsW A B) (b : AsW B C) : AsW A C := ⟨b.w.trans a.w, b.r.trans a.r, b.hand.trans a.hand, b.ly.trans a.ly⟩
theorem AsW.onl {V V' : Wk} (a : AsW V V') : V'.onl = V.onl := by unfold Wk.onl; rw [a.r, a.ly]
section
variable {S : Sto} {n l : Nat} {V : Wk}
end
end SW
namespace SW
open PySem L2

/-! draws by a dict of three texts: k36 to k40 -/
def drK (c : Nat) (a r : Int) : List (Key × D) := [(.inr (Str.ofString "cells"), .loc c), (.inr (Str.ofString "at"), .int a), (.inr (Str.ofString "rest"), .int r)]
def Dr (S : Sto) (dl c z : Nat) : Prop := ∃ (cs : List Int) (a : Nat) (r : Int), S[dl]? = some (.dK (drK c a r)) ∧ S[c]? = some (.lst (cs.map D.int)) ∧ cs ≠ [] ∧ a ≤ z ∧ 0 ≤ r
theorem Dr.of {S S' : Sto} {dl c z : Nat} (h : Dr S dl c z) (h1 : S'[dl]? = S[dl]?) (h2 : S'[c]? = S[c]?) : Dr S' dl c z := by
  obtain ⟨cs, a, r, g1, g2, g3⟩ := h
  exact ⟨cs, a, r, h1.trans g1, h2.trans g2, g3⟩
theorem Dr.le {S : Sto} {dl c z z' : Nat} (h : Dr S dl c z) (hz : z ≤ z') : Dr S dl c z' := by
  obtain ⟨cs, a, r, g1, g2, g3, g4, g5⟩ := h
  exact ⟨cs, a, r, g1, g2, g3, by omega, g5⟩
theorem Dr.lt {S : Sto} {dl c z : Nat} (h : Dr S dl c z) : dl < S.length ∧ c < S.length ∧ dl ≠ c := by
  obtain ⟨cs, a, r, g1, g2, g3⟩ := h
  refine ⟨sto_lt g1, sto_lt g2, fun e => ?_⟩
  rw [e, g2] at g1
  cases g1
theorem wq_sbS {S : Sto} {a : Nat} {kvs : List (Key × D)} {x : Str} {d : D} {Q : D → Sto → Prop} (h : S[a]? = some (.dK kvs)) (e : lk kvs (.inr x) = some d) : Wp (sbD (.loc a) (.str x) S) Q ↔ Q d S := by
  have : sbD (.loc a) (.str x) S = some (d, S) := by
    simp [sbD, ixD, dgD, kOf, h, e]
  rw [this]; exact wp_some
theorem stD_S {S : Sto} {n : Nat} {kvs : List (Key × D)} {x : Str} {v : D} (h : S[n]? = some (.dK kvs)) (hl : kvs.length ≤ 10000000) : stD (.loc n) (.str x) v S = some (S.set n (.dK (ptK kvs (.inr x) v))) := by
  simp only [stD, h, kOf]
  rw [if_pos hl]
end SW
namespace SW
open PySem L2

end SW
namespace SW
open PySem L2

/-! webs by marks: which end has which mark -/
def flipM (e : End) : End := (e.1, 1 - e.2)
structure Mrk (n ties doors : Nat) (hs : Wb) (D : List (End × Nat)) : Prop where
  hi : HI n hs D
  nd : (D.map (·.1)).Nodup
  sd : ∀ x ∈ D, x.1.1 < ties ∧ x.1.2 ≤ 1 ∧ x.2 < n
  dr : ∀ (r : Nat) (x : List End), hs[r]? = some x → x.length ≤ doors
section
variable {n ties doors : Nat} {hs : Wb} {D : List (End × Nat)}
theorem Mrk.uniq (h : Mrk n ties doors hs D) {e : End} {r r' : Nat} (h1 : (e, r) ∈ D) (h2 : (e, r') ∈ D) : r = r' := by
  obtain ⟨i, hi⟩ := List.getElem?_of_mem h1
  obtain ⟨j, hj⟩ := List.getElem?_of_mem h2
  have hil : i < (D.map (·.1)).length := by rw [List.length_map]; exact (List.getElem?_eq_some_iff.mp hi).1
  have : i = j := (List.getElem?_inj hil h.nd).mp (by rw [List.getElem?_map, List.getElem?_map, hi, hj]; rfl)
  subst this
  rw [hi] at hj
  cases hj; rfl
theorem Mrk.ins (h : Mrk n ties doors hs D) {r v : Nat} {x : List End} {e : End} {ties' : Nat} (hx : hs[r]? = some x) (hxl : x.length < doors) (he : e.1 < ties') (hs1 : e.2 ≤ 1) (ht : ties ≤ ties') (hf : ∀ r, (e, r) ∉ D) : Mrk n ties' doors (hs.set r (insAt x v e)) (D ++ [(e, r)]) := by
  have hr : r < hs.length := (List.getElem?_eq_some_iff.mp hx).1
  refine ⟨h.hi.ins hx (hf r), ?_, fun y hy => ?_, fun r' y hy => ?_⟩
  · rw [List.map_append, List.nodup_append]
    refine ⟨h.nd, by simp, fun a ha b hb => ?_⟩
    simp at hb
    subst hb
    obtain ⟨y, hy, rfl⟩ := List.mem_map.mp ha
    rintro rfl
    exact hf y.2 hy
  · rcases List.mem_append.mp hy with z | z
    · obtain ⟨a, b, c⟩ := h.sd y z
      exact ⟨by omega, b, c⟩
    · rw [List.mem_singleton.mp z]
      exact ⟨he, hs1, by rw [← h.hi.len]; exact hr⟩
  · by_cases q : r = r'
    · subst q
      rw [List.getElem?_set_self hr] at hy
      cases hy
      rw [(ins_perm x v e).length_eq, List.length_cons]
      omega
    · rw [List.getElem?_set_ne q] at hy
      exact h.dr r' y hy
theorem Mrk.at_inj (h : Mrk n ties doors hs D) {e : End} {r i r' i' : Nat} (h1 : aT hs r i = some e) (h2 : aT hs r' i' = some e) : r = r' ∧ i = i' := by
  obtain ⟨m1, _⟩ := h.hi.of_at h1
  obtain ⟨m2, _⟩ := h.hi.of_at h2
  have hr := h.uniq m1 m2
  subst hr
  obtain ⟨x, hx, hi⟩ := aT_some.mp h1
  obtain ⟨y, hy, hj⟩ := aT_some.mp h2
  rw [hx] at hy
  cases hy
  have hil := (List.getElem?_eq_some_iff.mp hi).1
  exact ⟨rfl, (List.getElem?_inj hil (h.hi.nd r x hx)).mp (hi.trans hj.symm)⟩
/-- where each mark is -/
def rowK (r : Nat) (x : List End) (k : Nat) : List (End × End) := (List.range k).map fun i => (x.getD i (0, 0), (r, i))
def posK (hs : Wb) (k : Nat) : List (End × End) := (List.range k).flatMap fun r => rowK r (rowD hs r) (rowD hs r).length
def lkM (K : List (End × End)) (e : End) : Option End := (K.find? fun p => decide (p.1 = e)).map (·.2)
theorem rowK_mem {r k : Nat} {x : List End} {p : End × End} (hk : k ≤ x.length) : p ∈ rowK r x k ↔ p.2.1 = r ∧ p.2.2 < k ∧ x[p.2.2]? = some p.1 := by
  unfold rowK
  rw [List.mem_map]
  constructor
  · rintro ⟨i, hi, rfl⟩
    rw [List.mem_range] at hi
    refine ⟨rfl, hi, ?_⟩
    have hx : x[i]? = some (x[i]'(by omega)) := List.getElem?_eq_getElem (by omega)
    show x[i]? = some (x.getD i (0, 0))
    rw [List.getD_eq_getElem?_getD, hx]; rfl
  · rintro ⟨h1, h2, h3⟩
    refine ⟨p.2.2, List.mem_range.mpr h2, ?_⟩
    rw [List.getD_eq_getElem?_getD, h3]
    exact Prod.ext rfl (Prod.ext h1.symm rfl)
theorem posK_mem {hs : Wb} {k : Nat} {p : End × End} : p ∈ posK hs k ↔ p.2.1 < k ∧ aT hs p.2.1 p.2.2 = some p.1 := by
  unfold posK
  rw [List.mem_flatMap]
  constructor
  · rintro ⟨r, hr, h⟩
    rw [List.mem_range] at hr
    obtain ⟨h1, h2, h3⟩ := (rowK_mem (Nat.le_refl _)).mp h
    rw [h1]
    exact ⟨hr, rowD_at.mp h3⟩
  · rintro ⟨h1, h2⟩
    have h3 := rowD_at.mpr h2
    exact ⟨p.2.1, List.mem_range.mpr h1, (rowK_mem (Nat.le_refl _)).mpr ⟨rfl, (List.getElem?_eq_some_iff.mp h3).1, h3⟩⟩
theorem lkM_iff (h : Mrk n ties doors hs D) {k : Nat} {e p : End} : lkM (posK hs k) e = some p ↔ p.1 < k ∧ aT hs p.1 p.2 = some e := by
  unfold lkM
  constructor
  · intro h1
    obtain ⟨q, hq, rfl⟩ := Option.map_eq_some_iff.mp h1
    have h2 := List.mem_of_find?_eq_some hq
    have h3 : q.1 = e := by have := List.find?_some hq; exact of_decide_eq_true this
    obtain ⟨a, b⟩ := posK_mem.mp h2
    rw [h3] at b
    exact ⟨a, b⟩
  · rintro ⟨h1, h2⟩
    have hm : (e, p) ∈ posK hs k := posK_mem.mpr ⟨h1, h2⟩
    cases hf : (posK hs k).find? fun p => decide (p.1 = e) with
    | none =>
      rw [List.find?_eq_none] at hf
      exact absurd (decide_eq_true (show (e, p).1 = e from rfl)) (hf _ hm)
    | some q =>
      have h3 := List.mem_of_find?_eq_some hf
      have h4 : q.1 = e := by have := List.find?_some hf; exact of_decide_eq_true this
      obtain ⟨_, b⟩ := posK_mem.mp h3
      rw [h4] at b
      obtain ⟨c, d⟩ := h.at_inj b h2
      have : q.2 = p := Prod.ext c d
      rw [Option.map_some, this]
theorem Mrk.lk (h : Mrk n ties doors hs D) {r i : Nat} {e : End} (he : aT hs r i = some e) : lkM (posK hs hs.length) e = some (r, i) :=
  (lkM_iff h).mpr ⟨by rw [h.hi.len]; exact (h.hi.of_at he).2, he⟩
theorem Mrk.side (h : Mrk n ties doors hs D) {r i : Nat} {e : End} (he : aT hs r i = some e) : flipM (flipM e) = e := by
  have := (h.sd _ (h.hi.of_at he).1).2.1
  unfold flipM
  exact Prod.ext rfl (by show 1 - (1 - e.2) = e.2; simp at this; omega)
end
end SW
namespace SW
open PySem L2

/-- what a draw and the lists of marks leave as it was -/
structure FrM (S S' : Sto) (dl L : Nat) : Prop where
  len : S.length ≤ S'.length
  at_ : ∀ m, m < L → m ≠ dl → S'[m]? = S[m]?
theorem FrM.refl (S : Sto) (dl L : Nat) : FrM S S dl L := ⟨Nat.le_refl _, fun _ _ _ => rfl⟩
theorem FrM.trans {S S' S2 : Sto} {dl L : Nat} (a : FrM S S' dl L) (b : FrM S' S2 dl L) : FrM S S2 dl L := ⟨Nat.le_trans a.len b.len, fun m h h1 => (b.at_ m h h1).trans (a.at_ m h h1)⟩
section
variable {S : Sto} {dl c z L n : Nat} {hs : Wb} {τ : Tau} {Q : Out → Sto → Prop}
structure SmS (S0 S : Sto) (dl c z L n ties doors : Nat) (hs : Wb) (E0 E : List (End × Nat)) : Prop where
  d : Dr S dl c z
  h : Hw S L n hs
  m : Mrk n ties doors hs E
  sub : ∀ x ∈ E0, x ∈ E
  fr : FrM S0 S dl L
section
variable {S0 : Sto} {ties doors : Nat} {E0 E : List (End × Nat)} {o4 o5 o6 o7 o8 : Option D}
theorem SmS.keep {S' : Sto} (h : SmS S0 S dl c z L n ties doors hs E0 E) (l : S.length ≤ S'.length) (f : ∀ m, m < S.length → S'[m]? = S[m]?) : SmS S0 S' dl c z L n ties doors hs E0 E := by
  obtain ⟨h1, h2, _⟩ := h.d.lt
  have ht := sto_lt h.h.top
  exact ⟨h.d.of (f _ h1) (f _ h2), h.h.of fun k _ hk => f k hk, h.m, h.sub, h.fr.trans ⟨l, fun m hm _ => f m (by omega)⟩⟩
theorem SmS.pick {S' : Sto} (hL : dl < L ∧ c < L) (h : SmS S0 S dl c z L n ties doors hs E0 E) (d : Dr S' dl c (z + 1)) (l : S'.length = S.length) (f : ∀ m, m ≠ dl → S'[m]? = S[m]?) : SmS S0 S' dl c (z + 1) L n ties doors hs E0 E :=
  ⟨d, h.h.of fun k hk _ => f k (by omega), h.m, h.sub, h.fr.trans ⟨by omega, fun m _ hne => f m hne⟩⟩
end
end
end SW
namespace SW
open PySem L2

section
variable {S0 S : Sto} {dl c z L n ties doors : Nat} {hs : Wb} {E0 E : List (End × Nat)} {o4 o5 o6 o7 o8 o9 o10 : Option D}
end
/-! the dict of marks -/
def tkE (e : End) : List Key := [.inl (e.1 : Int), .inl (e.2 : Int)]
def mapM (K : List (End × End)) : List (List Key × D) := K.map fun p => (tkE p.1, eD p.2)
end SW
namespace SW
open PySem L2

section
variable {S0 S : Sto} {dl c z L n ties doors : Nat} {hs : Wb} {E0 E : List (End × Nat)} {o4 o5 o6 o7 o8 o9 o10 : Option D}
structure MwS (S0 S : Sto) (dl c z L n al : Nat) (hs : Wb) (K : List (End × End)) : Prop where
  d : Dr S dl c z
  h : Hw S L n hs
  a : S[al]? = some (.dT (mapM K))
  al : L + n < al
  fr : FrM S0 S dl L
theorem MwS.keep {K : List (End × End)} {al : Nat} {S' : Sto} (h : MwS S0 S dl c z L n al hs K) (l : S.length ≤ S'.length) (f : ∀ m, m < S.length → S'[m]? = S[m]?) : MwS S0 S' dl c z L n al hs K := by
  obtain ⟨h1, h2, _⟩ := h.d.lt
  have ht := sto_lt h.h.top
  exact ⟨h.d.of (f _ h1) (f _ h2), h.h.of fun k _ hk => f k hk, (f _ (sto_lt h.a)).trans h.a, h.al, h.fr.trans ⟨l, fun m hm _ => f m (by omega)⟩⟩
end
end SW
namespace SW
open PySem L2

/-! k36, k39, k40: some web; a walker that goes by draws -/
structure FrD (S S' : Sto) (dl : Nat) : Prop where
  len : S.length ≤ S'.length
  at_ : ∀ m, m < S.length → m ≠ dl → S'[m]? = S[m]?
theorem FrD.refl (S : Sto) (dl : Nat) : FrD S S dl := ⟨Nat.le_refl _, fun _ _ _ => rfl⟩
theorem FrD.trans {S S' S2 : Sto} {dl : Nat} (a : FrD S S' dl) (b : FrD S' S2 dl) : FrD S S2 dl := ⟨Nat.le_trans a.len b.len, fun m h h1 => (b.at_ m (by have := a.len; omega) h1).trans (a.at_ m h h1)⟩
theorem FrD.keep {S S' : Sto} {dl : Nat} (l : S.length ≤ S'.length) (f : ∀ m, m < S.length → S'[m]? = S[m]?) : FrD S S' dl := ⟨l, fun m h _ => f m h⟩
theorem FrM.d {S S' : Sto} {dl : Nat} (a : FrM S S' dl S.length) : FrD S S' dl := ⟨a.len, a.at_⟩
theorem FrD.pick {S S' : Sto} {dl : Nat} (l : S'.length = S.length) (f : ∀ m, m ≠ dl → S'[m]? = S[m]?) : FrD S S' dl := ⟨by omega, fun m _ h => f m h⟩
/-- frames of a walker and the draws -/
structure FrQ (S S' : Sto) (dl n l : Nat) : Prop where
  len : S.length ≤ S'.length
  at_ : ∀ m, m < S.length → m ≠ dl → m ≠ n → m ≠ l → S'[m]? = S[m]?
theorem FrQ.refl (S : Sto) (dl n l : Nat) : FrQ S S dl n l := ⟨Nat.le_refl _, fun _ _ _ _ _ => rfl⟩
theorem FrQ.trans {S S' S2 : Sto} {dl n l : Nat} (a : FrQ S S' dl n l) (b : FrQ S' S2 dl n l) : FrQ S S2 dl n l := ⟨Nat.le_trans a.len b.len, fun m h h1 h2 h3 => (b.at_ m (by have := a.len; omega) h1 h2 h3).trans (a.at_ m h h1 h2 h3)⟩
theorem FrV.q {S S' : Sto} {dl n l : Nat} (a : FrV S S' n l) : FrQ S S' dl n l := ⟨a.len, fun m h _ h2 h3 => a.at_ m h h2 h3⟩
theorem FrD.q {S S' : Sto} {dl n l : Nat} (a : FrD S S' dl) : FrQ S S' dl n l := ⟨a.len, fun m h h1 _ _ => a.at_ m h h1⟩
section
variable {S : Sto} {dl c z n l : Nat} {V : Wk}
end
end SW
namespace SW
open PySem L2

/-! numbers -/
section
variable {w : Wb} {r : Nat}
end
end SW
namespace SW
open PySem L2

end SW
namespace SW
open PySem L2

end SW
namespace SW
open PySem L2

end SW
namespace SW
open PySem L2

section
variable {S : Sto} {w : Wb} {dl c z n l r h : Nat} {V : Wk} {o0 o2 o7 o8 : Option D} {R : Out → Sto → Prop}
end
end SW
namespace SW
open PySem L2

/-- a stone lies in room r alone -/
def LyR (V : Wk) (r : Nat) : Prop := ∀ x, x < V.w.length → V.ly.getD x 0 = if x = r then 1 else 0
theorem LyR.as {V V' : Wk} {r : Nat} (h : LyR V r) (hw : V'.w = V.w) (hl : V'.ly = V.ly) : LyR V' r := by
  unfold LyR at *
  rw [hw, hl]; exact h
end SW
namespace SW
open PySem L2

end SW
namespace SW
open PySem L2

/-! k38: going by steps -/
def Goes (w : Wb) : Nat → List End → Nat → Prop
  | y, [], z => y = z
  | y, a :: p, z => ∃ e, (rowD w y)[a.1]? = some e ∧ e.2 = a.2 ∧ Goes w e.1 p z
def turnP (p : List End) : List End := p.reverse.map fun a => (a.2, a.1)
theorem Goes.app {w : Wb} : ∀ {p : List End} {q : List End} {y z x : Nat}, Goes w y p z → Goes w z q x → Goes w y (p ++ q) x
  | [], q, y, z, x, h, g => by
    have : y = z := h
    subst this; exact g
  | a :: p, q, y, z, x, ⟨e, h1, h2, h3⟩, g => ⟨e, h1, h2, h3.app g⟩
theorem Goes.turn {w : Wb} (B : Back w) : ∀ {p : List End} {y z : Nat}, Goes w y p z → Goes w z (turnP p) y
  | [], y, z, h => by
    have : y = z := h
    subst this; rfl
  | a :: p, y, z, ⟨e, h1, h2, h3⟩ => by
    have ih := Goes.turn B h3
    unfold turnP at ih ⊢
    rw [List.reverse_cons, List.map_append]
    refine ih.app ⟨(y, a.1), ?_, rfl, rfl⟩
    show (rowD w e.1)[a.2]? = _
    rw [← h2]
    exact row_back B h1
theorem Goes.uniq {w : Wb} : ∀ {p : List End} {y z x : Nat}, Goes w y p z → Goes w y p x → z = x
  | [], y, z, x, h, g => by
    have h : y = z := h
    have g : y = x := g
    omega
  | a :: p, y, z, x, ⟨e, h1, h2, h3⟩, ⟨e', g1, g2, g3⟩ => by
    rw [h1] at g1; cases g1
    exact h3.uniq g3
theorem Goes.drop {w : Wb} {p : List End} {i y z : Nat} {a : End} (h : Goes w y (p.drop i) z) (ha : p[i]? = some a) : ∃ e, (rowD w y)[a.1]? = some e ∧ Goes w e.1 (p.drop (i + 1)) z := by
  obtain ⟨hl, rfl⟩ := List.getElem?_eq_some_iff.mp ha
  rw [List.drop_eq_getElem_cons hl] at h
  obtain ⟨e, h1, _, h3⟩ := h
  exact ⟨e, h1, h3⟩
/-- the walker has gone elsewhere -/
structure AsG (V V' : Wk) : Prop where
  w : V'.w = V.w
  hand : V'.hand = V.hand
  ly : V'.ly = V.ly
  steps : V.steps ≤ V'.steps
theorem AsG.refl (V : Wk) : AsG V V := ⟨rfl, rfl, rfl, Nat.le_refl _⟩
theorem AsG.trans {A B C : Wk} (a : AsG A B) (b : AsG B C) : AsG A C := ⟨b.w.trans a.w, b.hand.trans a.hand, b.ly.trans a.ly, Nat.le_trans a.steps b.steps⟩
section
variable {S : Sto} {n l z : Nat} {V : Wk} {p : List End}
end
end SW
namespace SW
open PySem L2

/-! k38: each room has steps to the stone; the steps tell the room -/
inductive Gv (w : Wb) (r : Nat) : Nat → List End → List Nat → Prop
  | nil : Gv w r r [] [r]
  | cons {y d : Nat} {e : End} {p : List End} {L : List Nat} : (rowD w y)[d]? = some e → Gv w r e.1 p L → Gv w r y ((d, e.2) :: p) (y :: L)
theorem Gv.goes {w : Wb} {r y : Nat} {p : List End} {L : List Nat} (h : Gv w r y p L) : Goes w y p r ∧ L.length = p.length + 1 := by
  induction h with
  | nil => exact ⟨rfl, rfl⟩
  | cons he _ ih => exact ⟨⟨_, he, rfl, ih.1⟩, by rw [List.length_cons, List.length_cons, ih.2]⟩
end SW
namespace SW
open PySem L2

section
variable {w : Wb} {r most : Nat}
end
theorem metStep_pre {xs : List Nat} {e : End} : ∀ x ∈ xs, x ∈ metStep xs e := by
  intro x hx
  unfold metStep
  split
  · exact hx
  · exact List.mem_append_left _ hx
theorem metStep_idx {xs : List Nat} {e : End} {x : Nat} (h : x ∈ xs) : (metStep xs e).idxOf x = xs.idxOf x := by
  unfold metStep
  split
  · rfl
  · rw [List.idxOf_append, if_pos h]
theorem metStep_mem {xs : List Nat} {e : End} : e.1 ∈ metStep xs e := by
  unfold metStep
  split
  · assumption
  · simp
theorem metRow_keep {xs : List Nat} {row : List End} : ∀ x ∈ xs, x ∈ metRow xs row ∧ (metRow xs row).idxOf x = xs.idxOf x := by
  induction row generalizing xs with
  | nil => exact fun x hx => ⟨hx, rfl⟩
  | cons e row ih =>
    intro x hx
    obtain ⟨h1, h2⟩ := ih (xs := metStep xs e) x (metStep_pre x hx)
    exact ⟨h1, h2.trans (metStep_idx hx)⟩
theorem metRow_mem {xs : List Nat} {row : List End} : ∀ e ∈ row, e.1 ∈ metRow xs row := by
  induction row generalizing xs with
  | nil => intro e h; cases h
  | cons a row ih =>
    intro e he
    rcases List.mem_cons.mp he with rfl | he
    · exact (metRow_keep (xs := metStep xs e) (row := row) e.1 metStep_mem).1
    · exact ih (xs := metStep xs a) e he
end SW
namespace SW
open PySem L2

/-! k38: the ends of a room -/
structure FrE (S S' : Sto) (n l k : Nat) : Prop where
  len : S.length ≤ S'.length
  at_ : ∀ m, m < S.length → m ≠ n → m ≠ l → m ≠ k → S'[m]? = S[m]?
theorem FrE.refl (S : Sto) (n l k : Nat) : FrE S S n l k := ⟨Nat.le_refl _, fun _ _ _ _ _ => rfl⟩
theorem FrE.trans {S S' S2 : Sto} {n l k : Nat} (a : FrE S S' n l k) (b : FrE S' S2 n l k) : FrE S S2 n l k := ⟨Nat.le_trans a.len b.len, fun m h h1 h2 h3 => (b.at_ m (by have := a.len; omega) h1 h2 h3).trans (a.at_ m h h1 h2 h3)⟩
theorem FrV.e {S S' : Sto} {n l k : Nat} (a : FrV S S' n l) : FrE S S' n l k := ⟨a.len, fun m h h1 h2 _ => a.at_ m h h1 h2⟩
section
variable {S S0 : Sto} {n l kl el r most x i : Nat} {V V0 : Wk} {v1 : D} {L : List Nat} {row : List End}
end
end SW
namespace SW
open PySem L2

end SW
namespace SW
open PySem L2

structure MrA (w : Wb) (r k n : Nat) (L : List Nat) : Prop where
  nd : L.Nodup
  lt : ∀ x ∈ L, x < w.length
  met : met w n k L = metL w r
  kn : k + n = w.length
  done : ∀ y ∈ L.take k, ∀ e ∈ rowD w y, e.1 ∈ L
theorem metRow_nd {row : List End} {m : Nat} : ∀ {xs : List Nat}, xs.Nodup → (∀ x ∈ xs, x < m) → (∀ e ∈ row, e.1 < m) → (metRow xs row).Nodup ∧ ∀ x ∈ metRow xs row, x < m := by
  induction row with
  | nil => intro xs h1 h2 _; exact ⟨h1, h2⟩
  | cons a row ih =>
    intro xs h1 h2 h3
    refine ih (xs := metStep xs a) ?_ ?_ fun e he => h3 e (List.mem_cons_of_mem _ he)
    · unfold metStep
      split
      · exact h1
      · rename_i hn
        rw [List.nodup_append]
        refine ⟨h1, by simp, fun x hx y hy => ?_⟩
        have : y = a.1 := by simpa using hy
        subst this
        exact fun e => hn (e ▸ hx)
    · intro x hx
      unfold metStep at hx
      split at hx
      · exact h2 x hx
      · rcases List.mem_append.mp hx with hx | hx
        · exact h2 x hx
        · have : x = a.1 := by simpa using hx
          rw [this]; exact h3 a List.mem_cons_self
theorem MrA.next {w : Wb} {r k n x : Nat} {L : List Nat} (W : IsWeb w) (h : MrA w r k (n + 1) L) (hx : L[k]? = some x) : MrA w r (k + 1) n (metRow L (rowD w x)) := by
  have hxl := h.lt x (List.mem_of_getElem? hx)
  have hr3 : ∀ e ∈ rowD w x, e.1 < w.length := fun e he => by
    obtain ⟨j, hj⟩ := List.getElem?_of_mem he
    exact W.back.closed _ _ _ _ (rowD_at.mp hj)
  obtain ⟨a, b⟩ := metRow_nd h.nd h.lt hr3
  have hkl : k < L.length := (List.getElem?_eq_some_iff.mp hx).1
  refine ⟨a, b, ?_, by have := h.kn; omega, ?_⟩
  · have hm := h.met
    have e : SW.met w (n + 1) k L = SW.met w n (k + 1) (metRow L (rowD w x)) := by
      show (match L[k]? with | some r => SW.met w n (k + 1) (metRow L ((w[r]?).getD [])) | none => L) = _
      rw [hx]; rfl
    rw [e] at hm
    exact hm
  · intro y hy e he
    have htk : (metRow L (rowD w x)).take (k + 1) = L.take k ++ [x] := by
      have hp : ∀ (row : List End) (xs : List Nat), ∃ ys, metRow xs row = xs ++ ys := by
        intro row
        induction row with
        | nil => exact fun xs => ⟨[], by simp [metRow]⟩
        | cons c row ih =>
          intro xs
          obtain ⟨ys, hy⟩ := ih (metStep xs c)
          show ∃ zs, metRow (metStep xs c) row = xs ++ zs
          rw [hy]
          unfold metStep
          split
          · exact ⟨ys, rfl⟩
          · exact ⟨[c.1] ++ ys, by simp⟩
      obtain ⟨ys, hys⟩ := hp (rowD w x) L
      rw [hys, List.take_append_of_le_length (by omega), List.take_add_one, hx]
      rfl
    rw [htk] at hy
    rcases List.mem_append.mp hy with hy | hy
    · exact (metRow_keep e.1 (h.done y hy e he)).1
    · have : y = x := by simpa using hy
      subst this
      exact metRow_mem e he
end SW
namespace SW
open PySem L2

end SW
namespace SW
open PySem L2

section
variable {S : Sto} {w : Wb} {dl c z n l r h most : Nat} {V : Wk} {o0 o2 o8 o9 : Option D} {R : Out → Sto → Prop}
end
end SW
namespace SW
open PySem L2

/-! plain runs of defs that may raise -/
section
variable {τ : Tau} {S : Sto}
def RsQ (v : D → Sto → Prop) (x : String → List (Str × D) → Sto → Prop) : Rs → Sto → Prop := fun r S => match r with
  | .val d => v d S
  | .exc c fs => x c fs S
theorem rq_val {v : D → Sto → Prop} {x : String → List (Str × D) → Sto → Prop} {d : D} : RsQ v x (.val d) S = v d S := rfl
theorem rq_exc {v : D → Sto → Prop} {x : String → List (Str × D) → Sto → Prop} {c : String} {fs : List (Str × D)} : RsQ v x (.exc c fs) S = x c fs S := rfl
theorem wp_aX {g : FnX} {fa : EvA} {Q : Rs → Sto → Prop} : Wp (aX g fa τ S) Q ↔ Wp (fa τ S) fun x S1 => Wp (g x S1) Q := by unfold aX; rw [wp_bind]
theorem wp_exX {f : EvX} {Q : Out → Sto → Prop} : Wp (exX f τ S) Q ↔ Wp (f τ S) (RsQ (fun _ S1 => Q (.nx τ) S1) fun c fs S1 => Q (.ex c fs τ) S1) := by
  unfold exX; rw [wp_map]
  constructor <;> (rintro ⟨r, S1, e, q⟩; exact ⟨r, S1, e, by cases r <;> exact q⟩)
theorem wp_rtX {f : EvX} {Q : Out → Sto → Prop} : Wp (rtX f τ S) Q ↔ Wp (f τ S) (RsQ (fun d S1 => Q (.rt d) S1) fun c fs S1 => Q (.ex c fs τ) S1) := by
  unfold rtX; rw [wp_map]
  constructor <;> (rintro ⟨r, S1, e, q⟩; exact ⟨r, S1, e, by cases r <;> exact q⟩)
theorem wp_stX {i : Nat} {f : EvX} {Q : Out → Sto → Prop} : Wp (stX i f τ S) Q ↔ Wp (f τ S) (RsQ (fun d S1 => Q (.nx (τ.set i (some d))) S1) fun c fs S1 => Q (.ex c fs τ) S1) := by
  unfold stX; rw [wp_map]
  constructor <;> (rintro ⟨r, S1, e, q⟩; exact ⟨r, S1, e, by cases r <;> exact q⟩)
theorem wp_lenX {f : EvX} {Q : Rs → Sto → Prop} : Wp (lenX f τ S) Q ↔ Wp (f τ S) (RsQ (fun d S1 => Wp (lenD [d] S1) fun y S2 => Q (.val y) S2) fun c fs S1 => Q (.exc c fs) S1) := by
  unfold lenX; rw [wp_bind]
  constructor
  · rintro ⟨r, S1, e, q⟩
    refine ⟨r, S1, e, ?_⟩
    cases r with
    | val d => exact wp_map.mp q
    | exc c fs => exact (wp_some (Q := Q)).mp q
  · rintro ⟨r, S1, e, q⟩
    refine ⟨r, S1, e, ?_⟩
    cases r with
    | val d => exact wp_map.mpr q
    | exc c fs => exact wp_some.mpr q
theorem wp_mtX {c : String} {m : Str} {g : FnX} {fo : EvE} {fa : EvA} {Q : Rs → Sto → Prop} : Wp (mtX c m g fo fa τ S) Q ↔ Wp (fo τ S) fun o S1 => selfD c m o S1 = true ∧ Wp (fa τ S1) fun as S2 => Wp (g (o :: as) S2) Q := by
  unfold mtX; rw [wp_bind]
  constructor
  · rintro ⟨o, S1, e, q⟩
    by_cases h : selfD c m o S1 = true
    · simp only [h, if_true] at q
      exact ⟨o, S1, e, h, wp_bind.mp q⟩
    · simp only [h] at q
      exact (wp_none.mp q).elim
  · rintro ⟨o, S1, e, h, q⟩
    refine ⟨o, S1, e, ?_⟩
    simp only [h, if_true]
    exact wp_bind.mpr q
theorem wp_raiseS {c : String} {Q : Out → Sto → Prop} : Wp (raiseS c τ S) Q ↔ Q (.ex c [] τ) S := wp_some
theorem wp_fnX {n m : Nat} {b : EvS} {ds : List D} {Q : Rs → Sto → Prop} (h : ds.length = n) : Wp (fnX n m b ds S) Q ↔ Wp (b (ds.map some ++ List.replicate (m - n) none) S) fun o S1 => match o with
    | .rt d => Q (.val d) S1
    | .nx _ => Q (.val .non) S1
    | .ex c fs _ => Q (.exc c fs) S1
    | _ => False := by
  unfold fnX
  rw [if_pos h, wp_bind]
  constructor
  · rintro ⟨o, S1, e, q⟩
    refine ⟨o, S1, e, ?_⟩
    cases o <;> first | exact wp_some.mp q | exact (wp_none.mp q).elim
  · rintro ⟨o, S1, e, q⟩
    refine ⟨o, S1, e, ?_⟩
    cases o <;> first | exact wp_some.mpr q | exact q.elim
def TkQ (subs : List String) (i j : Nat) (Q : Out → Sto → Prop) : Out → Sto → Prop := fun o S => match o with
  | .ex c [] τ1 => c ∈ subs ∧ Q (.nx ((τ1.set i none).set j (some (.loc S.length)))) (S ++ [.exn c []])
  | .ex _ _ _ => False
  | o => Q o S
theorem tk_nx {subs : List String} {i j : Nat} {Q : Out → Sto → Prop} : TkQ subs i j Q (.nx τ) S = Q (.nx τ) S := rfl
theorem tk_rt {subs : List String} {i j : Nat} {Q : Out → Sto → Prop} {d : D} : TkQ subs i j Q (.rt d) S = Q (.rt d) S := rfl
theorem tk_ex {subs : List String} {i j : Nat} {Q : Out → Sto → Prop} {c : String} : TkQ subs i j Q (.ex c [] τ) S = (c ∈ subs ∧ Q (.nx ((τ.set i none).set j (some (.loc S.length)))) (S ++ [.exn c []])) := rfl
theorem wp_tryK {subs : List String} {i j : Nat} {f : EvS} {Q : Out → Sto → Prop} : Wp (tryK subs i j f τ S) Q ↔ Wp (f τ S) (TkQ subs i j Q) := by
  unfold tryK; rw [wp_bind]
  constructor
  · rintro ⟨o, S1, e, q⟩
    refine ⟨o, S1, e, ?_⟩
    cases o with
    | ex c fs τ1 =>
      cases fs with
      | nil =>
        simp only at q
        split at q
        · rename_i h; exact ⟨h, wp_some.mp q⟩
        · exact (wp_none.mp q).elim
      | cons a fs => exact (wp_none.mp q).elim
    | nx τ1 => exact (wp_some (Q := Q)).mp q
    | rt d => exact (wp_some (Q := Q)).mp q
    | bk τ1 => exact (wp_some (Q := Q)).mp q
    | ct τ1 => exact (wp_some (Q := Q)).mp q
  · rintro ⟨o, S1, e, q⟩
    refine ⟨o, S1, e, ?_⟩
    cases o with
    | ex c fs τ1 =>
      cases fs with
      | nil =>
        obtain ⟨h, q⟩ := q
        simp only
        rw [if_pos h]
        exact wp_some.mpr q
      | cons a fs => exact q.elim
    | nx τ1 => exact wp_some.mpr q
    | rt d => exact wp_some.mpr q
    | bk τ1 => exact wp_some.mpr q
    | ct τ1 => exact wp_some.mpr q
def ToQ (subs : List String) (g : EvS) (Q : Out → Sto → Prop) : Out → Sto → Prop := fun o S => match o with
  | .ex c [] τ1 => c ∈ subs ∧ Wp (g τ1 S) fun o S2 => isX o = false ∧ Q o S2
  | .ex _ _ _ => False
  | o => Q o S
theorem to_nx {subs : List String} {g : EvS} {Q : Out → Sto → Prop} : ToQ subs g Q (.nx τ) S = Q (.nx τ) S := rfl
theorem to_rt {subs : List String} {g : EvS} {Q : Out → Sto → Prop} {d : D} : ToQ subs g Q (.rt d) S = Q (.rt d) S := rfl
theorem to_ex {subs : List String} {g : EvS} {Q : Out → Sto → Prop} {c : String} : ToQ subs g Q (.ex c [] τ) S = (c ∈ subs ∧ Wp (g τ S) fun o S2 => isX o = false ∧ Q o S2) := rfl
theorem wp_tryO {subs : List String} {f g : EvS} {Q : Out → Sto → Prop} : Wp (tryO subs f g τ S) Q ↔ Wp (f τ S) (ToQ subs g Q) := by
  have nx : ∀ (o : Out) (S2 : Sto), Wp (match o with | .ex _ _ _ => none | o => some (o, S2)) Q ↔ isX o = false ∧ Q o S2 := fun o S2 => by
    cases o with
    | ex c fs τ => exact ⟨fun h => (wp_none.mp h).elim, fun h => by cases h.1⟩
    | nx τ => exact ⟨fun h => ⟨rfl, wp_some.mp h⟩, fun h => wp_some.mpr h.2⟩
    | rt d => exact ⟨fun h => ⟨rfl, wp_some.mp h⟩, fun h => wp_some.mpr h.2⟩
    | bk τ => exact ⟨fun h => ⟨rfl, wp_some.mp h⟩, fun h => wp_some.mpr h.2⟩
    | ct τ => exact ⟨fun h => ⟨rfl, wp_some.mp h⟩, fun h => wp_some.mpr h.2⟩
  unfold tryO; rw [wp_bind]
  constructor
  · rintro ⟨o, S1, e, q⟩
    refine ⟨o, S1, e, ?_⟩
    cases o with
    | ex c fs τ1 =>
      cases fs with
      | nil =>
        simp only at q
        split at q
        · rename_i h
          obtain ⟨o2, S2, e2, q2⟩ := wp_bind.mp q
          exact ⟨h, o2, S2, e2, (nx o2 S2).mp q2⟩
        · exact (wp_none.mp q).elim
      | cons a fs => exact (wp_none.mp q).elim
    | nx τ1 => exact (wp_some (Q := Q)).mp q
    | rt d => exact (wp_some (Q := Q)).mp q
    | bk τ1 => exact (wp_some (Q := Q)).mp q
    | ct τ1 => exact (wp_some (Q := Q)).mp q
  · rintro ⟨o, S1, e, q⟩
    refine ⟨o, S1, e, ?_⟩
    cases o with
    | ex c fs τ1 =>
      cases fs with
      | nil =>
        obtain ⟨h, o2, S2, e2, q2⟩ := q
        simp only
        rw [if_pos h]
        exact wp_bind.mpr ⟨o2, S2, e2, (nx o2 S2).mpr q2⟩
      | cons a fs => exact q.elim
    | nx τ1 => exact wp_some.mpr q
    | rt d => exact wp_some.mpr q
    | bk τ1 => exact wp_some.mpr q
    | ct τ1 => exact wp_some.mpr q
end
end SW
namespace SW
open PySem L2

/-! k37: no stone there -/
section
variable {S : Sto} {n l r : Nat} {V : Wk}
/-- what a walker tells of itself -/
def Wk.tells (V : Wk) : List D := [V.onl, V.here, nD V.hand, nD V.steps]
end
end SW
namespace SW
open PySem L2

/-! k27: the same, kind by kind; a walker may be refused -/
def p4 : Nat → D → Bool
  | _, .non => true
  | _, .int _ => true
  | n + 1, .tup ds => decide (ds.length ≤ 1000) && ds.all (p4 n)
  | _, _ => false
section
variable {S : Sto} {n l : Nat} {W : Wk} {Q : Rs → Sto → Prop}
end
end SW
namespace SW
open PySem L2

/-! k27: a deed, done by the walker -/
inductive De
  | go (d : Int)
  | lay
  | take
inductive DRes
  | did (V : Wk)
  | no (c : String)
def Wk.deed (V : Wk) : De → DRes
  | .go d => if 0 ≤ d ∧ d < ((rowD V.w V.r).length : Int) then (match (rowD V.w V.r)[d.toNat]? with | some e => .did (V.go e) | none => .no "NoDoor") else .no "NoDoor"
  | .lay => if 0 < V.hand then .did V.lay else .no "NoStone"
  | .take => if 0 < V.ly.getD V.r 0 then .did V.take else .no "NoStone"
section
variable {S : Sto} {n l : Nat} {V : Wk} {Q : D → Sto → Prop}
end
end SW
namespace SW
open PySem L2

/-! k53: two ties crossed -/
def setW (w : Wb) (a v : End) : Wb := w.set a.1 ((rowD w a.1).set a.2 v)
theorem setW_len {w : Wb} {a v : End} : (setW w a v).length = w.length := by unfold setW; simp
theorem rowD_set {w : Wb} {k r : Nat} {x : List End} (hk : k < w.length) : rowD (w.set k x) r = if k = r then x else rowD w r := by
  unfold rowD
  rw [List.getElem?_set]
  by_cases h : k = r
  · subst h
    rw [if_pos rfl, if_pos hk, if_pos rfl]; rfl
  · rw [if_neg h, if_neg h]
theorem setW_row {w : Wb} {a v : End} {r : Nat} (ha : a.1 < w.length) : rowD (setW w a v) r = if a.1 = r then (rowD w r).set a.2 v else rowD w r := by
  unfold setW
  rw [rowD_set ha]
  split
  · rename_i h; rw [h]
  · rfl
theorem setW_rlen {w : Wb} {a v : End} {r : Nat} (ha : a.1 < w.length) : (rowD (setW w a v) r).length = (rowD w r).length := by
  rw [setW_row ha]
  split <;> simp
/-- a door of the web -/
def Dw (w : Wb) (a : End) : Prop := a.1 < w.length ∧ a.2 < (rowD w a.1).length
theorem Dw.set {w : Wb} {a b v : End} (ha : Dw w a) (hb : Dw w b) : Dw (setW w a v) b := ⟨by rw [setW_len]; exact hb.1, by rw [setW_rlen ha.1]; exact hb.2⟩
theorem aT_rowD {w : Wb} {r i : Nat} : aT w r i = (rowD w r)[i]? := by
  unfold rowD aT
  cases w[r]? <;> simp
theorem setW_at {w : Wb} {a v : End} {r i : Nat} (ha : Dw w a) : aT (setW w a v) r i = if (r, i) = a then some v else aT w r i := by
  rw [aT_rowD, aT_rowD, setW_row ha.1]
  by_cases h : a.1 = r
  · rw [if_pos h]
    by_cases h2 : a.2 = i
    · have : (r, i) = a := Prod.ext h.symm h2.symm
      rw [if_pos this, ← h2, List.getElem?_set_self (by rw [← h]; exact ha.2)]
    · rw [if_neg (fun q => h2 (by rw [← q])), List.getElem?_set_ne h2]
  · rw [if_neg h, if_neg (fun q => h (by rw [← q]))]
def tieX (w : Wb) (x y : End) : Wb := setW (setW w x y) y x
theorem Dw.tie {w : Wb} {x y b : End} (hx : Dw w x) (hy : Dw w y) (hb : Dw w b) : Dw (tieX w x y) b := (hx.set hy).set (hx.set hb)
theorem tieX_len {w : Wb} {x y : End} : (tieX w x y).length = w.length := by unfold tieX; rw [setW_len, setW_len]
theorem tieX_at {w : Wb} {x y : End} {r i : Nat} (hx : Dw w x) (hy : Dw w y) : aT (tieX w x y) r i = if (r, i) = y then some x else if (r, i) = x then some y else aT w r i := by
  unfold tieX
  rw [setW_at (hx.set hy), setW_at hx]
end SW
namespace SW
open PySem L2

/-! k53: the crossing -/
def crossX (w : Wb) (a a' f l : End) : Wb := tieX (tieX w a l) f a'
/-- two ties that may be crossed -/
structure Tw2 (w : Wb) (a a' f l : End) : Prop where
  a1 : aT w a.1 a.2 = some a'
  a2 : aT w a'.1 a'.2 = some a
  f1 : aT w f.1 f.2 = some l
  f2 : aT w l.1 l.2 = some f
  ne : a ≠ f ∧ a ≠ l ∧ a' ≠ f ∧ a' ≠ l
  same : a = a' ↔ f = l
theorem dw_of {w : Wb} {a e : End} (h : aT w a.1 a.2 = some e) : Dw w a := by
  obtain ⟨x, hx, hi⟩ := aT_some.mp h
  have hr : rowD w a.1 = x := by unfold rowD; rw [hx]; rfl
  exact ⟨(List.getElem?_eq_some_iff.mp hx).1, by rw [hr]; exact (List.getElem?_eq_some_iff.mp hi).1⟩
section
variable {w : Wb} {a a' f l : End}
theorem Tw2.at_ (T : Tw2 w a a' f l) {r i : Nat} : aT (crossX w a a' f l) r i = if (r, i) = a' then some f else if (r, i) = f then some a' else if (r, i) = l then some a else if (r, i) = a then some l else aT w r i := by
  have d1 := dw_of T.a1
  have d2 := dw_of T.a2
  have d3 := dw_of T.f1
  have d4 := dw_of T.f2
  unfold crossX
  rw [tieX_at (d1.tie d4 d3) (d1.tie d4 d2), tieX_at d1 d4]
theorem Tw2.len (T : Tw2 w a a' f l) : (crossX w a a' f l).length = w.length := by unfold crossX; rw [tieX_len, tieX_len]
theorem Tw2.back (T : Tw2 w a a' f l) (B : Back w) : Back (crossX w a a' f l) := by
  intro r i s j h
  rw [T.at_] at h ⊢
  obtain ⟨n1, n2, n3, n4⟩ := T.ne
  have a1 := T.a1
  have a2 := T.a2
  have f1 := T.f1
  have f2 := T.f2
  by_cases q1 : (r, i) = a'
  · rw [if_pos q1] at h
    have e : f = (s, j) := Option.some.inj h
    rw [← e, if_neg (fun z => n3 z.symm), if_pos rfl, q1]
  · rw [if_neg q1] at h
    by_cases q2 : (r, i) = f
    · rw [if_pos q2] at h
      have e : a' = (s, j) := Option.some.inj h
      rw [← e, if_pos rfl, q2]
    · rw [if_neg q2] at h
      by_cases q3 : (r, i) = l
      · rw [if_pos q3] at h
        have e : a = (s, j) := Option.some.inj h
        have na : a ≠ a' := fun z => q2 (q3.trans (T.same.mp z).symm)
        rw [← e, if_neg na, if_neg n1, if_neg n2, if_pos rfl, q3]
      · rw [if_neg q3] at h
        by_cases q4 : (r, i) = a
        · rw [if_pos q4] at h
          have e : l = (s, j) := Option.some.inj h
          have nl : l ≠ f := fun z => q1 (q4.trans (T.same.mpr z.symm))
          rw [← e, if_neg (fun z => n4 z.symm), if_neg nl, if_pos rfl, q4]
        · rw [if_neg q4] at h
          have hb := B r i s j h
          have m1 : (s, j) ≠ a' := fun z => by
            have : aT w a'.1 a'.2 = some (r, i) := by rw [← z]; exact hb
            rw [a2] at this
            exact q4 (Option.some.inj this).symm
          have m2 : (s, j) ≠ f := fun z => by
            have : aT w f.1 f.2 = some (r, i) := by rw [← z]; exact hb
            rw [f1] at this
            exact q3 (Option.some.inj this).symm
          have m3 : (s, j) ≠ l := fun z => by
            have : aT w l.1 l.2 = some (r, i) := by rw [← z]; exact hb
            rw [f2] at this
            exact q2 (Option.some.inj this).symm
          have m4 : (s, j) ≠ a := fun z => by
            have : aT w a.1 a.2 = some (r, i) := by rw [← z]; exact hb
            rw [a1] at this
            exact q1 (Option.some.inj this).symm
          rw [if_neg m1, if_neg m2, if_neg m3, if_neg m4]
          exact hb
end
/-- two unlike ties of the list -/
structure Tie2 (w : Wb) (a a' b b' : End) : Prop where
  a1 : aT w a.1 a.2 = some a'
  b1 : aT w b.1 b.2 = some b'
  la : leE a a'
  lb : leE b b'
  ne : a ≠ b
theorem Tie2.tw {w : Wb} {a a' b b' : End} (T : Tie2 w a a' b b') (B : Back w) (h : decide (a = a') = decide (b = b')) : Tw2 w a a' b b' ∧ Tw2 w a a' b' b := by
  have a2 : aT w a'.1 a'.2 = some a := B a.1 a.2 a'.1 a'.2 T.a1
  have b2 : aT w b'.1 b'.2 = some b := B b.1 b.2 b'.1 b'.2 T.b1
  have hs : a = a' ↔ b = b' := by
    rw [← decide_eq_true_iff (p := a = a'), ← decide_eq_true_iff (p := b = b'), h]
  have anti : ∀ x y : End, leE x y → leE y x → x = y := fun x y h1 h2 => by
    unfold leE at h1 h2
    exact Prod.ext (by omega) (by omega)
  have n2 : a ≠ b' := fun z => by
    have h1 := b2
    rw [← z, T.a1] at h1
    have h2 : a' = b := Option.some.inj h1
    have la := T.la
    have lb := T.lb
    rw [h2] at la
    rw [← z] at lb
    exact T.ne (anti _ _ la lb)
  have n3 : a' ≠ b := fun z => by
    have h1 := a2
    rw [z, T.b1] at h1
    exact n2 (Option.some.inj h1).symm
  have n4 : a' ≠ b' := fun z => by
    have h1 := a2
    rw [z, b2] at h1
    exact T.ne (Option.some.inj h1).symm
  exact ⟨⟨T.a1, a2, T.b1, b2, ⟨T.ne, n2, n3, n4⟩, hs⟩, ⟨T.a1, a2, b2, T.b1, ⟨n2, T.ne, n4, n3⟩, hs.trans ⟨Eq.symm, Eq.symm⟩⟩⟩
section
variable {S : Sto} {w : Wb} {a a' b b' : End} {ab : Nat}
end
end SW
namespace SW
open PySem L2

section
variable {w0 m : Wb} {d1 d2 d3 : D} {o4 o6 o7 o8 o9 o10 o11 o12 o13 o14 o15 : Option D}
end
end SW
namespace SW
open PySem L2

/-! k53: the law's own crossing, the dict of ends -/
/-- the dict tells the ends of the web -/
def Ends (ds : List (List Key × D)) (w : Wb) : Prop := ∀ r i e, aT w r i = some e → lk ds (kE (r, i)) = some (eD e)
section
variable {w0 m : Wb} {a a' f l : End} {d2 d3 : D} {o4 o5 o6 o7 o8 o9 o10 o11 o12 o13 o14 o15 : Option D}
theorem Ends.tie {ds : List (List Key × D)} {w : Wb} {x y : End} (E : Ends ds w) (hx : Dw w x) (hy : Dw w y) : Ends (ptK (ptK ds (kE x) (eD y)) (kE y) (eD x)) (tieX w x y) := by
  intro r i e h
  rw [tieX_at hx hy] at h
  rw [lk_pt]
  by_cases q1 : (r, i) = y
  · rw [if_pos q1] at h
    cases h
    rw [if_pos (by rw [q1])]
  · rw [if_neg q1] at h
    rw [if_neg (fun z => q1 (kE_inj z)), lk_pt]
    by_cases q2 : (r, i) = x
    · rw [if_pos q2] at h
      cases h
      rw [if_pos (by rw [q2])]
    · rw [if_neg q2] at h
      rw [if_neg (fun z => q2 (kE_inj z))]
      exact E r i e h
def PartE (ds : List (List Key × D)) (w : Wb) (r i : Nat) : Prop := ∀ r' i' e, (r' < r ∨ (r' = r ∧ i' < i)) → aT w r' i' = some e → lk ds (kE (r', i')) = some (eD e)
theorem PartE.put {ds : List (List Key × D)} {w : Wb} {r i : Nat} {e : End} (h : PartE ds w r i) (he : aT w r i = some e) : PartE (ptK ds (kE (r, i)) (eD e)) w r (i + 1) := by
  intro r' i' e' hlt h'
  rw [lk_pt]
  by_cases q : (r', i') = (r, i)
  · rw [if_pos (by rw [q])]
    cases q
    rw [he] at h'; cases h'
    rfl
  · rw [if_neg (fun z => q (kE_inj z))]
    refine h r' i' e' ?_ h'
    rcases hlt with z | ⟨z, y⟩
    · exact .inl z
    · refine .inr ⟨z, ?_⟩
      have : i' ≠ i := fun z2 => q (by rw [z, z2])
      omega
end
end SW
namespace SW
open PySem L2

section
variable {S : Sto} {w : Wb}
end
end SW
namespace SW
open PySem L2

/-! k60: marks -/
def abcS : Str := Str.ofString "abcdefghijklmnopqrstuvwxyz"
def letS (r : Nat) : Str := ⟨#[(abcS.cps.toList[(r * 7 + 3) % 26]?).getD 0]⟩
def manyS (r : Nat) : Nat := ([1, 3, 1, 8, 2][r % 5]?).getD 0
/-- the mark of a room -/
def mkS (r : Nat) : Str := repS (letS r) (manyS r)
theorem mkS_inj : ∀ a b : Fin 26, mkS a.val = mkS b.val → a = b := by decide +kernel
theorem mkS_ok : ∀ a : Fin 26, PyData.strOk (mkS a.val) = true := by decide +kernel
theorem mark_ok {S : Sto} {r : Nat} {Q : D → Sto → Prop} (hr : r < 26) (q : ∀ S' : Sto, S.length ≤ S'.length → (∀ m, m < S.length → S'[m]? = S[m]?) → Q (.str (mkS r)) S') : Wp (g_l_mark [.int (r : Int)] S) Q := by
  unfold g_l_mark
  refine (wp_fnD (by rfl)).mpr ?_
  unfold b_l_mark
  have e1 : ((r : Int) * 7 + 3) % 26 = (((r * 7 + 3) % 26 : Nat) : Int) := by omega
  have e2 : (r : Int) % 5 = ((r % 5 : Nat) : Int) := by omega
  have hl : (r * 7 + 3) % 26 < 26 := Nat.mod_lt _ (by omega)
  have at1 : atI abcS.cps.toList (((r * 7 + 3) % 26 : Nat) : Int) = some ((abcS.cps.toList[(r * 7 + 3) % 26]?).getD 0) := by
    have h26 : abcS.cps.toList.length = 26 := by decide +kernel
    have h2 : abcS.cps.toList[(r * 7 + 3) % 26]? = some abcS.cps.toList[(r * 7 + 3) % 26] := List.getElem?_eq_getElem (by omega)
    rw [h2]
    exact atI_of h2
  have sbS : ∀ (S : Sto) (Q : D → Sto → Prop), Wp (sbD (.str (Str.ofString "abcdefghijklmnopqrstuvwxyz")) (.int (((r * 7 + 3) % 26 : Nat) : Int)) S) Q ↔ Q (.str (letS r)) S := fun S Q => by
    have h : sbD (.str (Str.ofString "abcdefghijklmnopqrstuvwxyz")) (.int (((r * 7 + 3) % 26 : Nat) : Int)) S = some (.str (letS r), S) := by
      have h1 : ixD (.str abcS) (.int (((r * 7 + 3) % 26 : Nat) : Int)) S = some (.str (letS r), S) := by
        unfold ixD
        simp only
        rw [if_pos (by decide +kernel), at1]; rfl
      unfold sbD
      show ((ixD (.str abcS) (.int (((r * 7 + 3) % 26 : Nat) : Int)) S).orElse _) = _
      rw [h1]; rfl
    rw [h]; exact wp_some
  (simp! only [e1, e2, sbS])
  have hn : (S ++ [MO.lst [D.int 1, D.int 3, D.int 1, D.int 8, D.int 2]])[S.length]? = some (.lst [D.int 1, D.int 3, D.int 1, D.int 8, D.int 2]) := sto_new
  refine ⟨by omega, by omega, by omega, ?_⟩
  rw [wq_sbL hn]
  have h5 : r % 5 < 5 := Nat.mod_lt _ (by omega)
  have at2 : atI [D.int 1, D.int 3, D.int 1, D.int 8, D.int 2] ((r % 5 : Nat) : Int) = some (.int (manyS r : Int)) := by
    unfold manyS
    match r % 5, h5 with
    | 0, _ => rfl
    | 1, _ => rfl
    | 2, _ => rfl
    | 3, _ => rfl
    | 4, _ => rfl
  refine ⟨_, at2, ?_⟩
  have hm : 1 ≤ manyS r ∧ manyS r ≤ 8 := by
    unfold manyS
    match r % 5, h5 with
    | 0, _ => exact ⟨by decide, by decide⟩
    | 1, _ => exact ⟨by decide, by decide⟩
    | 2, _ => exact ⟨by decide, by decide⟩
    | 3, _ => exact ⟨by decide, by decide⟩
    | 4, _ => exact ⟨by decide, by decide⟩
  have e3 : ∀ S' : Sto, mulSD (.str (letS r)) (.int (manyS r : Int)) S' = some (.str (mkS r), S') := fun S' => by
    unfold mulSD
    simp only
    rw [if_pos ⟨by omega, by omega, by show (1 : Nat) ≤ 1000; omega⟩]
    rfl
  rw [e3]
  exact wp_some.mpr (q _ (by simp) fun m hm => sto_app hm)
end SW
namespace SW
open PySem L2

/-! k60: a chart in the store -/
/-- what of a web is charted: rooms in some order, ties gone through -/
structure Kc (w : Wb) (L : List Nat) (T : List End) : Prop where
  lt : ∀ x ∈ L, x < w.length
  nd : L.Nodup
  vt : ∀ t ∈ T, t.1 ∈ L ∧ t.2 < (rowD w t.1).length ∧ (endR w t.1 t.2).1 ∈ L
section
variable {w : Wb} {L : List Nat} {T : List End}
theorem Kc.few (k : Kc w L T) : L.length ≤ w.length := nodup_le k.nd k.lt
theorem Kc.known (k : Kc w L T) (W : IsWeb w) {x d : Nat} (hd : d < (rowD w x).length) (h : isKn w T x d = true) : x ∈ L ∧ (endR w x d).1 ∈ L := by
  rcases isKn_iff.mp h with h | h
  · exact ⟨(k.vt _ h).1, (k.vt _ h).2.2⟩
  · have := k.vt _ h
    rw [(endR_back W hd).2.2] at this
    exact ⟨this.2.2, this.1⟩
theorem kRow_moreC (W : IsWeb w) (K : Kc w L T) {y : Nat} (z : Nat) : kRow w (L ++ [y]) T z = kRow w L T z := by
  unfold kRow
  refine List.map_congr_left fun t ht => ?_
  rw [List.mem_range] at ht
  unfold kEnd
  by_cases h : isKn w T z t = true
  · rw [if_pos h, if_pos h, idx_app (K.known W ht h).2]
  · rw [if_neg h, if_neg h]
theorem kRow_newC (W : IsWeb w) (K : Kc w L T) {y : Nat} (hy : y ∉ L) : kRow w L T y = List.replicate (rowD w y).length .non := by
  unfold kRow
  apply List.ext_getElem?
  intro t
  by_cases ht : t < (rowD w y).length
  · rw [List.getElem?_map, List.getElem?_range ht, List.getElem?_replicate, if_pos ht]
    have : ¬ isKn w T y t = true := fun z => hy (K.known W ht z).1
    unfold kEnd
    simp [this]
  · rw [List.getElem?_eq_none (by simp; omega), List.getElem?_eq_none (by simp; omega)]
end
def Ch.fs (m le s : Nat) : List (Str × D) := [("marks", .loc m), ("ends", .loc le), ("spot", nD s)]
def mkD (r : Nat) : D := .str (mkS r)
structure ChAt (S : Sto) (g m le : Nat) (ps : List Nat) (w : Wb) (L : List Nat) (T : List End) (s : Nat) : Prop where
  ob : S[g]? = some (.ins "Chart" (Ch.fs m le s))
  ml : S[m]? = some (.lst (L.map mkD))
  en : S[le]? = some (.lst (ps.map D.loc))
  pl : ps.length = L.length
  rw : ∀ i p x : Nat, ps[i]? = some p → L[i]? = some x → S[p]? = some (.lst (kRow w L T x))
  pn : ps.Nodup
  od : g < m ∧ g < le ∧ m ≠ le ∧ ∀ p ∈ ps, g < p ∧ p ≠ le ∧ p ≠ m
  sl : s < L.length
def Oa60 (S0 : Sto) (w : Wb) (T : List End) (x : Nat) (i : Nat) (acc : List D) (S : Sto) : Prop := acc = ((List.range i).filter fun d => !isKn w T x d).map nD ∧ S = S0
section
variable {S : Sto} {g m le s : Nat} {ps : List Nat} {w : Wb} {L : List Nat} {T : List End} {Q : D → Sto → Prop}
theorem ch_marks (h : ChAt S g m le ps w L T s) : Wp (fldD ["Chart"] "marks" (.loc g) S) Q ↔ Q (.loc m) S := wq_fld h.ob (by simp) rfl
theorem ch_ends (h : ChAt S g m le ps w L T s) : Wp (fldD ["Chart"] "ends" (.loc g) S) Q ↔ Q (.loc le) S := wq_fld h.ob (by simp) rfl
theorem ch_spot (h : ChAt S g m le ps w L T s) : Wp (fldD ["Chart"] "spot" (.loc g) S) Q ↔ Q (.int (s : Int)) S := wq_fld h.ob (by simp) rfl
theorem ch_self {f : Str} (h : ChAt S g m le ps w L T s) (e : (Ch.fs m le s).lookup f = none) : selfD "Chart" f (.loc g) S = true := by
  unfold selfD
  simp only [h.ob, e, decide_true, Option.isNone_none, Bool.and_self]
theorem ChAt.plt (h : ChAt S g m le ps w L T s) {p : Nat} (hp : p ∈ ps) : p < S.length := by
  obtain ⟨i, hi⟩ := List.getElem?_of_mem hp
  have hl : i < L.length := by rw [← h.pl]; exact (List.getElem?_eq_some_iff.mp hi).1
  exact sto_lt (h.rw i p _ hi (List.getElem?_eq_getElem hl))
theorem ChAt.of {S' : Sto} (h : ChAt S g m le ps w L T s) (f : ∀ k, k < S.length → S'[k]? = S[k]?) : ChAt S' g m le ps w L T s :=
  ⟨(f _ (sto_lt h.ob)).trans h.ob, (f _ (sto_lt h.ml)).trans h.ml, (f _ (sto_lt h.en)).trans h.en, h.pl, fun i p x e1 e2 => (f _ (h.plt (List.mem_of_getElem? e1))).trans (h.rw i p x e1 e2), h.pn, h.od, h.sl⟩
theorem ChAt.room (h : ChAt S g m le ps w L T s) {i x : Nat} (hx : L[i]? = some x) : ∃ p, ps[i]? = some p ∧ S[p]? = some (.lst (kRow w L T x)) := by
  have hi : i < ps.length := by rw [h.pl]; exact (List.getElem?_eq_some_iff.mp hx).1
  exact ⟨ps[i], List.getElem?_eq_getElem hi, h.rw i _ x (List.getElem?_eq_getElem hi) hx⟩
/-- the row of a room -/
theorem ch_row {i x : Nat} (h : ChAt S g m le ps w L T s) (hx : L[i]? = some x) : ∃ p, ps[i]? = some p ∧ S[p]? = some (.lst (kRow w L T x)) ∧ ∀ Q : D → Sto → Prop, Wp (sbD (.loc le) (.int (i : Int)) S) Q ↔ Q (.loc p) S := by
  obtain ⟨p, h1, h2⟩ := h.room hx
  refine ⟨p, h1, h2, fun Q => ?_⟩
  have at1 : atI (ps.map D.loc) (i : Int) = some (.loc p) := atI_of (by rw [List.getElem?_map, h1]; rfl)
  rw [wq_sbL h.en]
  exact ⟨fun ⟨d, e, k⟩ => by rw [at1] at e; cases e; exact k, fun k => ⟨_, at1, k⟩⟩
theorem ch_here (h : ChAt S g m le ps w L T s) (q : Q (mkD (L.getD s 0)) S) : Wp (g_Chart_here [.loc g] S) Q := by
  unfold g_Chart_here
  refine (wp_fnD (by rfl)).mpr ?_
  unfold b_Chart_here
  have hs : L[s]? = some (L.getD s 0) := by rw [List.getD_eq_getElem?_getD, List.getElem?_eq_getElem h.sl]; rfl
  have at1 : atI (L.map mkD) (s : Int) = some (mkD (L.getD s 0)) := atI_of (by rw [List.getElem?_map, hs]; rfl)
  (simp! only [wp_fstS, wp_fldG, wp_fagS, wp_sagS, wp_mtE, wp_mkE, ch_marks h, ch_spot h, wq_sbL h.ml, at1])
  first
    | exact q
    | exact ⟨_, rfl, q⟩
end
end SW
namespace SW
open PySem L2

end SW
namespace SW
open PySem L2

/-- the doors of a room whose ends are not known -/
def opL (w : Wb) (T : List End) (x : Nat) : List Nat := (List.range (rowD w x).length).filter fun d => !isKn w T x d
end SW
namespace SW
open PySem L2

/-! k60: all open doors, rooms, sketch -/
section
variable {S : Sto} {g m le s : Nat} {ps : List Nat} {w : Wb} {L : List Nat} {T : List End} {Q : D → Sto → Prop}
def opA (w : Wb) (L : List Nat) (T : List End) (i : Nat) : List End := (List.range i).flatMap fun k => (opL w T (L.getD k 0)).map fun d => (k, d)
theorem opA_succ {i : Nat} : opA w L T (i + 1) = opA w L T i ++ (opL w T (L.getD i 0)).map fun d => (i, d) := by
  unfold opA
  rw [List.range_succ, List.flatMap_append]
  simp
theorem opL_len {x : Nat} : (opL w T x).length ≤ (rowD w x).length := by
  unfold opL
  have := List.length_filter_le (fun d => !isKn w T x d) (List.range (rowD w x).length)
  rwa [List.length_range] at this
def Od60 (S0 : Sto) (g : Nat) (w : Wb) (L : List Nat) (T : List End) (i : Nat) (τ : Tau) (S : Sto) : Prop := ∃ o2 o3 : Option D, τ = [some (.loc g), some (.loc S0.length), o2, o3] ∧ S[S0.length]? = some (.lst ((opA w L T i).map eD)) ∧ (opA w L T i).length ≤ i * 6 ∧ S0.length ≤ S.length ∧ ∀ k, k < S0.length → S[k]? = S0[k]?
def Oe60 (S0 : Sto) (i : Nat) (ds : List Nat) (k : Nat) (acc : List D) (S : Sto) : Prop := acc = ((ds.take k).map fun d => (i, d)).map eD ∧ S = S0
end
end SW
namespace SW
open PySem L2

/-! k60: rooms and sketch -/
section
variable {S : Sto} {g m le s : Nat} {ps : List Nat} {w : Wb} {L : List Nat} {T : List End} {Q : D → Sto → Prop}
def romD (w : Wb) (x : Nat) : D := .tup [mkD x, nD (rowD w x).length]
def Rm60 (S0 : Sto) (w : Wb) (L : List Nat) (i : Nat) (acc : List D) (S : Sto) : Prop := acc = (L.take i).map (romD w) ∧ S = S0
def Sk60 (S0 : Sto) (w : Wb) (L : List Nat) (T : List End) (i : Nat) (acc : List D) (S : Sto) : Prop := acc = (L.take i).map (fun x => .tup (kRow w L T x)) ∧ S = S0
end
end SW
namespace SW
open PySem L2

/-! k60: marks told apart; a clash looked for -/
theorem mkD_gn {r : Nat} (hr : r < 26) : gn (mkD r) = true ∧ dp (mkD r) ≤ 50 := ⟨mkS_ok ⟨r, hr⟩, by simp [mkD, dp]⟩
theorem mkD_gd {r : Nat} (hr : r < 26) : gd (mkD r) := ⟨mkS_ok ⟨r, hr⟩, by simp [mkD, dp]⟩
theorem mkD_inj {a b : Nat} (ha : a < 26) (hb : b < 26) (h : mkD a = mkD b) : a = b :=
  congrArg Fin.val (mkS_inj ⟨a, ha⟩ ⟨b, hb⟩ (by unfold mkD at h; exact D.str.inj h))
theorem mkD_mem {L : List Nat} {y : Nat} (hL : ∀ x ∈ L, x < 26) (hy : y < 26) : mkD y ∈ L.map mkD ↔ y ∈ L := by
  constructor
  · intro h
    obtain ⟨x, hx, e⟩ := List.mem_map.mp h
    rw [← mkD_inj (hL x hx) hy e]; exact hx
  · exact fun h => List.mem_map.mpr ⟨y, h, rfl⟩
theorem mkD_idx {y : Nat} (hy : y < 26) : ∀ {L : List Nat}, (∀ x ∈ L, x < 26) → (L.map mkD).idxOf (mkD y) = L.idxOf y
  | [], _ => rfl
  | x :: L, h => by
    rw [List.map_cons, List.idxOf_cons, List.idxOf_cons, mkD_idx hy fun z hz => h z (by simp [hz])]
    by_cases e : x = y
    · subst e; simp
    · have e1 : (x == y) = false := by simpa using e
      have e2 : (mkD x == mkD y) = false := by
        have : mkD x ≠ mkD y := fun z => e (mkD_inj (h x (by simp)) hy z)
        simpa using this
      rw [e1, e2]
theorem mkD_all {L : List Nat} (hL : ∀ x ∈ L, x < 26) : ∀ t ∈ L.map mkD, gn t = true ∧ dp t ≤ 50 := fun t ht => by
  obtain ⟨x, hx, rfl⟩ := List.mem_map.mp ht
  exact mkD_gn (hL x hx)
theorem wq_notInTu {S : Sto} {x : D} {qs : List D} {Q : D → Sto → Prop} (hx : gd x) (hq : ∀ t ∈ qs, gn t = true ∧ dp t ≤ 50) : Wp (inTD not x (.tup qs) S) Q ↔ Q (.bl (!decide (x ∈ qs))) S := by
  obtain ⟨g1, g2⟩ := gns_allN hq
  have hg : gd (.tup qs) := ⟨by simpa only [gn] using g1, by simp only [dp]; omega⟩
  have e : inTD not x (.tup qs) S = some (.bl (!decide (x ∈ qs)), S) := by
    unfold inTD
    simp only [gd_py hx, gd_py hg, Option.bind_some, toP, toPs_map, any_eqv hx.1 fun t ht => (hq t ht).1]
  rw [e]; exact wp_some
theorem eD_gn (e : End) : gn (eD e) = true ∧ dp (eD e) ≤ 50 := by unfold eD; simp [gn, gns, dp, dps]
theorem eD_gd (e : End) : gd (eD e) := ⟨(eD_gn e).1, by have := (eD_gn e).2; omega⟩
theorem kEnd_gd {w : Wb} {L : List Nat} {T : List End} {x d : Nat} : gd (kEnd w L T x d) := by
  unfold kEnd
  split
  · exact eD_gd _
  · exact ⟨rfl, by simp [dp]⟩
section
variable {S : Sto} {g m le s : Nat} {ps : List Nat} {w : Wb} {L : List Nat} {T : List End} {Q : D → Sto → Prop}
theorem ch_end {i x d : Nat} (h : ChAt S g m le ps w L T s) (hx : L[i]? = some x) (hd : d < (rowD w x).length) : ∃ p, ps[i]? = some p ∧ S[p]? = some (.lst (kRow w L T x)) ∧ (∀ Q : D → Sto → Prop, Wp (sbD (.loc le) (.int (i : Int)) S) Q ↔ Q (.loc p) S) ∧ ∀ Q : D → Sto → Prop, Wp (sbD (.loc p) (.int (d : Int)) S) Q ↔ Q (kEnd w L T x d) S := by
  obtain ⟨p, h1, h2, h3⟩ := ch_row h hx
  refine ⟨p, h1, h2, h3, fun Q => ?_⟩
  have at1 : atI (kRow w L T x) (d : Int) = some (kEnd w L T x d) := atI_of (kRow_at hd)
  rw [wq_sbL h2]
  exact ⟨fun ⟨d, e, k⟩ => by rw [at1] at e; cases e; exact k, fun k => ⟨_, at1, k⟩⟩
end
end SW
namespace SW
open PySem L2

/-! k60: a tie more on a chart -/
def addT (w : Wb) (T : List End) (x d : Nat) : List End := if isKn w T x d = true then T else T ++ [(x, d)]
section
variable {S : Sto} {g m le s : Nat} {ps : List Nat} {w : Wb} {L : List Nat} {T : List End} {Q : D → Sto → Prop} {x d i j : Nat}
theorem addT_kn (W : IsWeb w) {z t : Nat} (ht : t < (rowD w z).length) : isKn w (T ++ [(x, d)]) z t = isKn w (addT w T x d) z t := by
  unfold addT
  by_cases hk : isKn w T x d = true
  · rw [if_pos hk, Bool.eq_iff_iff, isKn_add]
    constructor
    · rintro (h | h | h)
      · exact h
      · injection h with h1 h2; rw [h1, h2]; exact hk
      · rw [← isKn_back (T := T) W ht, h]; exact hk
    · exact .inl
  · rw [if_neg hk]
theorem kRow_addT (W : IsWeb w) (z : Nat) : kRow w L (T ++ [(x, d)]) z = kRow w L (addT w T x d) z := by
  unfold kRow
  refine List.map_congr_left fun t ht => ?_
  unfold kEnd
  rw [addT_kn W (List.mem_range.mp ht)]
theorem metStep_sub {e : End} : ∀ y ∈ L, y ∈ metStep L e := fun y hy => by
  unfold metStep
  split
  · exact hy
  · exact List.mem_append_left _ hy
theorem metStep_in {e : End} : e.1 ∈ metStep L e := by
  unfold metStep
  split
  · assumption
  · simp
theorem metStep_or {e : End} : ∀ z ∈ metStep L e, z ∈ L ∨ z = e.1 := fun z hz => by
  unfold metStep at hz
  split at hz
  · exact .inl hz
  · rcases List.mem_append.mp hz with h | h
    · exact .inl h
    · exact .inr (List.mem_singleton.mp h)
theorem metStep_at {e : End} {y : Nat} (h : L[i]? = some y) : (metStep L e)[i]? = some y := by
  unfold metStep
  split
  · exact h
  · rw [List.getElem?_append_left (List.getElem?_eq_some_iff.mp h).1]; exact h
theorem metStep_nd {e : End} (h : L.Nodup) : (metStep L e).Nodup := by
  unfold metStep
  split
  · exact h
  · rename_i hn
    rw [List.nodup_append]
    exact ⟨h, by simp, fun p hp q hq e => by rw [List.mem_singleton.mp hq] at e; rw [e] at hp; exact hn hp⟩
theorem Kc.met (W : IsWeb w) (K : Kc w L T) (hd : d < (rowD w x).length) : Kc w (metStep L (endR w x d)) T :=
  ⟨fun z hz => by
    rcases metStep_or z hz with h | h
    · exact K.lt z h
    · rw [h]; exact (endR_back W hd).1, metStep_nd K.nd, fun t ht => by
    obtain ⟨v1, v2, v3⟩ := K.vt t ht
    exact ⟨metStep_sub _ v1, v2, metStep_sub _ v3⟩⟩
theorem Kc.addT (K : Kc w L T) (hx : x ∈ L) (hd : d < (rowD w x).length) (hy : (endR w x d).1 ∈ L) : Kc w L (addT w T x d) := by
  unfold SW.addT
  split
  · exact K
  · exact ⟨K.lt, K.nd, fun t ht => by
      rcases List.mem_append.mp ht with h | h
      · exact K.vt t h
      · rw [List.mem_singleton.mp h]; exact ⟨hx, hd, hy⟩⟩
theorem Kc.step (W : IsWeb w) (K : Kc w L T) (hx : x ∈ L) (hd : d < (rowD w x).length) : Kc w (metStep L (endR w x d)) (SW.addT w T x d) :=
  (K.met W hd).addT (metStep_sub _ hx) hd metStep_in
theorem ChAt.tie {S' : Sto} {p q : Nat} (h : ChAt S g m le ps w L T s) (W : IsWeb w) (hn : L.Nodup) (hx : L[i]? = some x) (hd : d < (rowD w x).length) (hj : L[j]? = some (endR w x d).1) (hp : ps[i]? = some p) (hq : ps[j]? = some q)
    (e1 : ∀ k, k ≠ p → k ≠ q → S'[k]? = S[k]?) (e2 : S'[p]? = some (.lst (kRow w L (T ++ [(x, d)]) x))) (e3 : S'[q]? = some (.lst (kRow w L (T ++ [(x, d)]) (endR w x d).1))) : ChAt S' g m le ps w L (addT w T x d) s := by
  obtain ⟨o1, o2, o3, o4⟩ := h.od
  have op := o4 p (List.mem_of_getElem? hp)
  have oq := o4 q (List.mem_of_getElem? hq)
  refine ⟨(e1 _ (by omega) (by omega)).trans h.ob, (e1 _ (fun z => op.2.2 z.symm) (fun z => oq.2.2 z.symm)).trans h.ml, (e1 _ (fun z => op.2.1 z.symm) (fun z => oq.2.1 z.symm)).trans h.en, h.pl, fun k r z hr hz => ?_, h.pn, h.od, h.sl⟩
  rw [← kRow_addT W]
  by_cases hpr : r = p
  · subst hpr
    have hkl := (List.getElem?_eq_some_iff.mp hr).1
    have : k = i := (List.getElem?_inj hkl h.pn).mp (by rw [hr, hp])
    subst this
    rw [hx] at hz; cases hz
    exact e2
  · by_cases hqr : r = q
    · subst hqr
      have hkl := (List.getElem?_eq_some_iff.mp hr).1
      have : k = j := (List.getElem?_inj hkl h.pn).mp (by rw [hr, hq])
      subst this
      rw [hj] at hz; cases hz
      exact e3
    · rw [e1 r hpr hqr, h.rw k r z hr hz, kRow_add W hn hx hd hj]
      have n1 : z ≠ x := fun e => by
        subst e
        have : k = i := (List.getElem?_inj (List.getElem?_eq_some_iff.mp hz).1 hn).mp (by rw [hz, hx])
        subst this
        rw [hp] at hr; exact hpr (Option.some.inj hr).symm
      have n2 : z ≠ (endR w x d).1 := fun e => by
        have : k = j := (List.getElem?_inj (List.getElem?_eq_some_iff.mp hz).1 hn).mp (by rw [hz, hj, e])
        subst this
        rw [hq] at hr; exact hqr (Option.some.inj hr).symm
      unfold tied
      rw [if_neg n1, if_neg n2]
/-- where the walker stands on the chart -/
theorem ChAt.at_ {s' : Nat} (h : ChAt S g m le ps w L T s) (hs : s' < L.length) : ChAt (S.set g (.ins "Chart" (Ch.fs m le s'))) g m le ps w L T s' := by
  obtain ⟨o1, o2, o3, o4⟩ := h.od
  exact ⟨sto_set h.ob, (sto_ne (by omega)).trans h.ml, (sto_ne (by omega)).trans h.en, h.pl, fun i p x e1 e2 => by
    have := o4 p (List.mem_of_getElem? e1)
    rw [sto_ne (by omega)]; exact h.rw i p x e1 e2, h.pn, h.od, hs⟩
/-- a room more -/
theorem ChAt.more {S' : Sto} {p y : Nat} (h : ChAt S g m le ps w L T s) (W : IsWeb w) (K : Kc w L T) (hy : y ∉ L) (hp : S.length ≤ p)
    (e1 : ∀ k, k < S.length → k ≠ m → k ≠ le → S'[k]? = S[k]?) (em : S'[m]? = some (.lst (L.map mkD ++ [mkD y]))) (ee : S'[le]? = some (.lst (ps.map D.loc ++ [.loc p]))) (ep : S'[p]? = some (.lst (List.replicate (rowD w y).length .non))) : ChAt S' g m le (ps ++ [p]) w (L ++ [y]) T s := by
  obtain ⟨o1, o2, o3, o4⟩ := h.od
  have hg := sto_lt h.ob
  have hm := sto_lt h.ml
  have hl := sto_lt h.en
  refine ⟨(e1 _ hg (by omega) (by omega)).trans h.ob, by rw [em]; simp, by rw [ee]; simp, by simp [h.pl], fun i q x hq hx => ?_, ?_, ⟨o1, o2, o3, fun q hq => ?_⟩, by rw [List.length_append]; have := h.sl; omega⟩
  · rw [kRow_moreC W K]
    by_cases hi : i < ps.length
    · rw [List.getElem?_append_left hi] at hq
      rw [List.getElem?_append_left (by rw [← h.pl]; exact hi)] at hx
      have := o4 q (List.mem_of_getElem? hq)
      rw [e1 q (h.plt (List.mem_of_getElem? hq)) (by omega) (by omega)]
      exact h.rw i q x hq hx
    · have hil := (List.getElem?_eq_some_iff.mp hq).1
      simp at hil
      have : i = ps.length := by omega
      subst this
      simp at hq
      rw [h.pl] at hx
      simp at hx
      subst hq hx
      rw [ep, kRow_newC W K hy]
  · rw [List.nodup_append]
    exact ⟨h.pn, by simp, fun a ha b hb e => by
      have := h.plt ha
      rw [List.mem_singleton.mp hb] at e
      omega⟩
  · rcases List.mem_append.mp hq with h' | h'
    · exact o4 q h'
    · rw [List.mem_singleton.mp h']; omega
end
end SW
namespace SW
open PySem L2

/-! k60: a step told to a chart -/
def WtT : EvS := (seqS (stS 5 (mE indexG (u1E (fldD ["Chart"] "marks") (vE 0)) (consA (vE 3) nilA)))
  (seqS (asS (aE tupD (consA (vE 5) (consA (vE 2) nilA))) (subG (b2E sbD (u1E (fldD ["Chart"] "ends") (vE 0)) (u1E (fldD ["Chart"] "spot") (vE 0))) (vE 1)))
  (seqS (asS (aE tupD (consA (u1E (fldD ["Chart"] "spot") (vE 0)) (consA (vE 1) nilA))) (subG (b2E sbD (u1E (fldD ["Chart"] "ends") (vE 0)) (vE 5)) (vE 2)))
  (fstS ["Chart"] "spot" (vE 0) (vE 5)))))
section
variable {S : Sto} {g m le s : Nat} {ps : List Nat} {w : Wb} {L : List Nat} {T : List End} {x d n : Nat}
end
end SW
namespace SW
open PySem L2

/-! k60: what a chart knows, hanging together; the next way -/
structure Kd (w : Wb) (a : Nat) (L : List Nat) (T : List End) : Prop where
  c : Kc w L T
  tn : T.Nodup
  hd : L[0]? = some a
  cn : ∀ x ∈ L, ∀ P : Nat → Prop, (∀ t ∈ T, P t.1 ↔ P (endR w t.1 t.2).1) → (P a ↔ P x)
def FrC (S0 S : Sto) (g m le : Nat) (ps0 : List Nat) : Prop := S0.length ≤ S.length ∧ ∀ k, k < S0.length → k ≠ g → k ≠ m → k ≠ le → k ∉ ps0 → S[k]? = S0[k]?
def PsC (S0 : Sto) (ps0 ps : List Nat) : Prop := ∀ p ∈ ps, p ∈ ps0 ∨ S0.length ≤ p
theorem FrC.refl {S : Sto} {g m le : Nat} {ps : List Nat} : FrC S S g m le ps := ⟨Nat.le_refl _, fun _ _ _ _ _ _ => rfl⟩
theorem PsC.refl {S : Sto} {ps : List Nat} : PsC S ps ps := fun _ h => .inl h
theorem FrC.plus {S0 S S' : Sto} {g m le : Nat} {ps0 : List Nat} (h : FrC S0 S g m le ps0) (hl : S.length ≤ S'.length) (f : ∀ k, k < S.length → S'[k]? = S[k]?) : FrC S0 S' g m le ps0 :=
  ⟨Nat.le_trans h.1 hl, fun k a b c d e => by rw [f k (Nat.lt_of_lt_of_le a h.1)]; exact h.2 k a b c d e⟩
theorem FrC.trans {S0 S S' : Sto} {g m le : Nat} {ps0 ps : List Nat} (h : FrC S0 S g m le ps0) (p : PsC S0 ps0 ps) (h' : FrC S S' g m le ps) : FrC S0 S' g m le ps0 :=
  ⟨Nat.le_trans h.1 h'.1, fun k a b c d e => by
    rw [h'.2 k (Nat.lt_of_lt_of_le a h.1) b c d fun z => ?_]
    · exact h.2 k a b c d e
    · rcases p k z with y | y
      · exact e y
      · omega⟩
theorem PsC.trans {S0 S : Sto} {ps0 ps ps' : List Nat} (hl : S0.length ≤ S.length) (p : PsC S0 ps0 ps) (p' : PsC S ps ps') : PsC S0 ps0 ps' := fun k hk => by
  rcases p' k hk with h | h
  · exact p k h
  · exact .inr (by omega)
section
variable {w : Wb} {a : Nat} {L : List Nat} {T : List End} {x d : Nat}
theorem addT_pre : T <+: addT w T x d := by
  unfold addT
  split
  · exact List.prefix_rfl
  · exact List.prefix_append _ _
theorem addT_self : isKn w (addT w T x d) x d = true := by
  unfold addT
  split
  · assumption
  · exact isKn_iff.mpr (.inl (by simp))
theorem kn_mono {T' : List End} (h : T <+: T') {z t : Nat} (hk : isKn w T z t = true) : isKn w T' z t = true := by
  rcases isKn_iff.mp hk with k | k
  · exact isKn_iff.mpr (.inl (h.subset k))
  · exact isKn_iff.mpr (.inr (h.subset k))
theorem Kd.step (W : IsWeb w) (K : Kd w a L T) (hx : x ∈ L) (hd : d < (rowD w x).length) : Kd w a (metStep L (endR w x d)) (addT w T x d) := by
  refine ⟨K.c.step W hx hd, ?_, metStep_at K.hd, fun z hz P hP => ?_⟩
  · unfold addT
    split
    · exact K.tn
    · rename_i hk
      rw [List.nodup_append]
      exact ⟨K.tn, by simp, fun p hp q hq e => by rw [List.mem_singleton.mp hq] at e; subst e; exact hk (isKn_iff.mpr (.inl hp))⟩
  · have old : ∀ z ∈ L, P a ↔ P z := fun z hz => K.cn z hz P fun t ht => hP t (addT_pre.subset ht)
    rcases metStep_or z hz with h | h
    · exact old z h
    · by_cases hk : isKn w T x d = true
      · have := (K.c.known W hd hk).2
        rw [← h] at this
        exact old z this
      · rw [old x hx, h]
        exact hP (x, d) (by unfold addT; rw [if_neg hk]; simp)
theorem getD_mem {i : Nat} (hi : i < L.length) : L.getD i 0 ∈ L ∧ L[i]? = some (L.getD i 0) := by
  have e : L[i]? = some L[i] := List.getElem?_eq_getElem hi
  rw [getD_of e]
  exact ⟨List.getElem_mem hi, e⟩
theorem Kd.full {s : Nat} {ws : Wys} (W : IsWeb w) (K : Kd w a L T) (h : WbP w L T s ws.length ws) (hs : s < L.length) {y : Nat} (hy : y ∈ L) : ∃ (i : Nat) (p : List Nat), ws[i]? = some (L.idxOf y, p) := by
  have hgs : ∀ i, i < L.length → L.idxOf (L.getD i 0) = i := fun i hi => idx_at K.c.nd (getD_mem hi).2
  have step : ∀ x d, x ∈ L → d < (rowD w x).length → isKn w T x d = true → (∃ (i : Nat) (q : List Nat), ws[i]? = some (L.idxOf x, q)) → ∃ (i : Nat) (q : List Nat), ws[i]? = some (L.idxOf (endR w x d).1, q) := fun x d hx hd hk ⟨i, q, e⟩ => by
    have ex : L.getD (L.idxOf x) 0 = x := getD_of (idx_get hx)
    have := h.cl i (L.idxOf x) q (List.getElem?_eq_some_iff.mp e).1 e d (by rw [ex]; exact hd) (by rw [ex]; exact hk)
    rw [ex] at this
    exact this
  have hP : ∀ t ∈ T, (∃ (i : Nat) (q : List Nat), ws[i]? = some (L.idxOf t.1, q)) ↔ ∃ (i : Nat) (q : List Nat), ws[i]? = some (L.idxOf (endR w t.1 t.2).1, q) := fun t ht => by
    obtain ⟨v1, v2, v3⟩ := K.c.vt t ht
    have hk : isKn w T t.1 t.2 = true := isKn_iff.mpr (.inl ht)
    obtain ⟨b1, b2, b3⟩ := endR_back W v2
    refine ⟨step _ _ v1 v2 hk, fun z => ?_⟩
    have := step _ _ v3 b2 (by rw [isKn_back W v2]; exact hk) z
    rw [b3] at this
    exact this
  refine (K.cn y hy (fun x => ∃ (i : Nat) (q : List Nat), ws[i]? = some (L.idxOf x, q)) hP).mp ((K.cn _ (getD_mem hs).1 (fun x => ∃ (i : Nat) (q : List Nat), ws[i]? = some (L.idxOf x, q)) hP).mpr ⟨0, [], ?_⟩)
  rw [hgs s hs]
  exact h.hd
theorem opL_mem : d ∈ opL w T x ↔ d < (rowD w x).length ∧ isKn w T x d = false := by
  unfold opL
  rw [List.mem_filter, List.mem_range, Bool.not_eq_true']
theorem opL_nil (h : opL w T x = []) {d : Nat} (hd : d < (rowD w x).length) : isKn w T x d = true := by
  cases hk : isKn w T x d with
  | true => rfl
  | false =>
    have := opL_mem.mpr ⟨hd, hk⟩
    rw [h] at this
    cases this
end
end SW
namespace SW
open PySem L2

/-! k60: a web charted -/
section
variable {w : Wb} {a : Nat}
def rmAt (r : Nat) (es : List End) (i : Nat) : Nat := lastR r (es.take i)
theorem ways_step {w : Wb} {r i d : Nat} {ds : List Nat} {es : List End} (h : spots w r ds = some es) (hd : ds[i]? = some d) : d < (rowD w (rmAt r es i)).length ∧ rmAt r es (i + 1) = (endR w (rmAt r es i) d).1 := by
  have h1 := spots_tk h i
  obtain ⟨e, h2, h3⟩ := spots_nx h h1 hd
  have h4 := rowD_at.mpr h2
  have h5 := spots_tk h (i + 1)
  have h6 := spots_take h1 hd
  rw [h5, h2] at h6
  simp only [Option.map_some, Option.some.injEq] at h6
  have el : (rowD w (rmAt r es i))[d]? = some e := by
    first
      | exact h4
      | exact rowD_at.mp h2
  refine ⟨(List.getElem?_eq_some_iff.mp el).1, ?_⟩
  unfold rmAt at el ⊢
  rw [h6, lastR_app, endR_of el]
end
theorem metStep_px {L : List Nat} {e : End} : L <+: metStep L e := by
  unfold metStep
  split
  · exact List.prefix_rfl
  · exact List.prefix_append _ _
/-- the chart behind i doors of a way -/
structure Cg (S0 : Sto) (w : Wb) (a g m le : Nat) (ps0 : List Nat) (L0 : List Nat) (T0 : List End) (r0 : Nat) (q : List Nat) (es : List End) (i : Nat) (S : Sto) (ps : List Nat) (L : List Nat) (T : List End) (s : Nat) : Prop where
  ch : ChAt S g m le ps w L T s
  kd : Kd w a L T
  at_ : L[s]? = some (rmAt r0 es i)
  fr : FrC S0 S g m le ps0
  pc : PsC S0 ps0 ps
  pre : T0 <+: T
  lp : L0 <+: L
  kn : ∀ i', i' < i → ∀ d, q[i']? = some d → isKn w T (rmAt r0 es i') d = true
theorem Cg.go {S0 S S' : Sto} {w : Wb} {a g m le : Nat} {ps0 ps ps' : List Nat} {L0 : List Nat} {T0 : List End} {r0 : Nat} {q : List Nat} {es : List End} {i d : Nat} {L : List Nat} {T : List End} {s : Nat} (h : Cg S0 w a g m le ps0 L0 T0 r0 q es i S ps L T s) (W : IsWeb w) (hs : spots w r0 q = some es) (hd : q[i]? = some d)
    (c : ChAt S' g m le ps' w (metStep L (endR w (rmAt r0 es i) d)) (addT w T (rmAt r0 es i) d) ((metStep L (endR w (rmAt r0 es i) d)).idxOf (endR w (rmAt r0 es i) d).1)) (l : S.length ≤ S'.length) (f : ∀ k, k < S.length → k ≠ g → k ≠ m → k ≠ le → k ∉ ps → S'[k]? = S[k]?) (p : ∀ p ∈ ps', p ∈ ps ∨ S.length ≤ p) :
    Cg S0 w a g m le ps0 L0 T0 r0 q es (i + 1) S' ps' (metStep L (endR w (rmAt r0 es i) d)) (addT w T (rmAt r0 es i) d) ((metStep L (endR w (rmAt r0 es i) d)).idxOf (endR w (rmAt r0 es i) d).1) := by
  obtain ⟨h1, h2⟩ := ways_step hs hd
  refine ⟨c, h.kd.step W (List.mem_of_getElem? h.at_) h1, ?_, h.fr.trans h.pc ⟨l, f⟩, h.pc.trans h.fr.1 p, h.pre.trans addT_pre, h.lp.trans metStep_px, fun i' hi d' hd' => ?_⟩
  · rw [h2]; exact idx_get metStep_in
  · by_cases e : i' < i
    · exact kn_mono addT_pre (h.kn i' e d' hd')
    · have : i' = i := by omega
      subst this
      rw [hd] at hd'; cases hd'
      exact addT_self
theorem Cg.of {S0 S S' : Sto} {w : Wb} {a g m le : Nat} {ps0 ps L0 : List Nat} {T0 : List End} {r0 : Nat} {q : List Nat} {es : List End} {i : Nat} {L : List Nat} {T : List End} {s : Nat} (h : Cg S0 w a g m le ps0 L0 T0 r0 q es i S ps L T s) (l : S.length ≤ S'.length) (f : ∀ k, k < S.length → S'[k]? = S[k]?) : Cg S0 w a g m le ps0 L0 T0 r0 q es i S' ps L T s :=
  ⟨h.ch.of f, h.kd, h.at_, h.fr.plus l f, h.pc, h.pre, h.lp, h.kn⟩
theorem Cg.lt {S0 S : Sto} {w : Wb} {a g m le : Nat} {ps0 ps L0 : List Nat} {T0 : List End} {r0 : Nat} {q : List Nat} {es : List End} {i : Nat} {L : List Nat} {T : List End} {s : Nat} (h : Cg S0 w a g m le ps0 L0 T0 r0 q es i S ps L T s) : rmAt r0 es i < w.length := h.kd.c.lt _ (List.mem_of_getElem? h.at_)
section
variable {S : Sto} {w : Wb} {a g m le s : Nat} {ps L : List Nat} {T : List End} {Q : D → Sto → Prop}
end
end SW
namespace SW
open PySem L2

/-! k60: what a whole chart tells -/
section
variable {S : Sto} {w : Wb} {a g m le s : Nat} {ps L : List Nat} {T : List End} {Q : D → Sto → Prop}
/-- all rooms are charted -/
theorem Kd.all (W : IsWeb w) (K : Kd w a L T) (hn : ∀ x ∈ L, opL w T x = []) : ∀ y, y < w.length → y ∈ L := by
  have cl : ∀ x d, x ∈ L → d < (rowD w x).length → (endR w x d).1 ∈ L := fun x d hx hd => (K.c.known W hd (opL_nil (hn x hx) hd)).2
  have adj : ∀ {r t : Nat}, Adj w r t → (r ∈ L ↔ t ∈ L) := fun {r t} ⟨i, j, h⟩ => by
    have h1 := rowD_at.mpr h
    have hl := (List.getElem?_eq_some_iff.mp h1).1
    have er := endR_of h1
    constructor
    · intro hr
      have := cl r i hr hl
      rwa [er] at this
    · intro ht
      obtain ⟨b1, b2, b3⟩ := endR_back W hl
      rw [er] at b2 b3
      have := cl t j ht b2
      rwa [b3] at this
  have z : ∀ y, Con w y → (0 ∈ L ↔ y ∈ L) := fun y hy => by
    induction hy with
    | zero => exact Iff.rfl
    | step _ ha ih => exact ih.trans (adj ha)
  have h0 : 0 ∈ L := by
    have ha := List.mem_of_getElem? K.hd
    exact (z a (W.con a (K.c.lt a ha))).mpr ha
  exact fun y hy => (z y (W.con y hy)).mp h0
end
end SW
namespace SW
open PySem L2

/-! k60: the web in the order of the chart's marks; ways to all rooms -/
section
variable {S : Sto} {w : Wb} {a g m le s : Nat} {ps L : List Nat} {T : List End} {Q : D → Sto → Prop}
end
end SW
namespace SW
open PySem L2

section
variable {S : Sto} {w : Wb} {a g m le s : Nat} {ps L : List Nat} {T : List End} {Q : D → Sto → Prop}
theorem eD_all {l : List End} : ∀ t ∈ l.map eD, gn t = true ∧ dp t ≤ 50 := fun t ht => by
  obtain ⟨x, _, rfl⟩ := List.mem_map.mp ht
  exact eD_gn x
end
end SW
namespace SW
open PySem L2

/-! k60: charts side by side -/
structure Cc where
  r : Nat
  g : Nat
  m : Nat
  le : Nat
  ps : List Nat
  w : Wb
  a : Nat
  L : List Nat
  T : List End
  s : Nat
def Cc.own (c : Cc) (k : Nat) : Prop := k = c.r ∨ k = c.g ∨ k = c.m ∨ k = c.le ∨ k ∈ c.ps
structure Cc.Ok (S : Sto) (c : Cc) : Prop where
  W : IsWeb c.w
  ro : S[c.r]? = some (.lst [wD c.w, nD (c.L.getD c.s 0), .loc c.g])
  ch : ChAt S c.g c.m c.le c.ps c.w c.L c.T c.s
  kd : Kd c.w c.a c.L c.T
  ne : c.r ≠ c.g ∧ c.r ≠ c.m ∧ c.r ≠ c.le ∧ c.r ∉ c.ps
theorem Cc.Ok.lt {S : Sto} {c : Cc} (h : c.Ok S) {k : Nat} (o : c.own k) : k < S.length := by
  rcases o with rfl | rfl | rfl | rfl | o
  · exact sto_lt h.ro
  · exact sto_lt h.ch.ob
  · exact sto_lt h.ch.ml
  · exact sto_lt h.ch.en
  · exact h.ch.plt o
theorem Cc.Ok.of {S S' : Sto} {c : Cc} (h : c.Ok S) (f : ∀ k, c.own k → S'[k]? = S[k]?) : c.Ok S' :=
  ⟨h.W, (f _ (.inl rfl)).trans h.ro, ⟨(f _ (.inr (.inl rfl))).trans h.ch.ob, (f _ (.inr (.inr (.inl rfl)))).trans h.ch.ml, (f _ (.inr (.inr (.inr (.inl rfl))))).trans h.ch.en, h.ch.pl, fun i p x e1 e2 => (f _ (.inr (.inr (.inr (.inr (List.mem_of_getElem? e1)))))).trans (h.ch.rw i p x e1 e2), h.ch.pn, h.ch.od, h.ch.sl⟩, h.kd, h.ne⟩
structure Cs6 (S : Sto) (n : Nat) (cs : List Cc) : Prop where
  li : S[n]? = some (.lst (cs.map fun c => .loc c.r))
  ok : ∀ (i : Nat) (c : Cc), cs[i]? = some c → c.Ok S
  dj : ∀ (i j : Nat) (c d : Cc), i ≠ j → cs[i]? = some c → cs[j]? = some d → ∀ k, c.own k → ¬ d.own k
  no : ∀ (i : Nat) (c : Cc), cs[i]? = some c → ¬ c.own n
theorem Cs6.of {S S' : Sto} {n : Nat} {cs : List Cc} (h : Cs6 S n cs) (f : ∀ k, k < S.length → S'[k]? = S[k]?) : Cs6 S' n cs :=
  ⟨(f _ (sto_lt h.li)).trans h.li, fun i c e => (h.ok i c e).of fun k o => f k ((h.ok i c e).lt o), h.dj, h.no⟩
theorem Cs6.put {S S' : Sto} {n i : Nat} {cs : List Cc} {c c' : Cc} (h : Cs6 S n cs) (hc : cs[i]? = some c) (ok : c'.Ok S') (er : c'.r = c.r) (ho : ∀ k, c'.own k → c.own k ∨ S.length ≤ k) (f : ∀ k, k < S.length → ¬ c.own k → S'[k]? = S[k]?) : Cs6 S' n (cs.set i c') := by
  have hi := (List.getElem?_eq_some_iff.mp hc).1
  have hn := sto_lt h.li
  have get : ∀ (j : Nat) (d : Cc), (cs.set i c')[j]? = some d → (j = i ∧ d = c') ∨ (j ≠ i ∧ cs[j]? = some d) := fun j d e => by
    by_cases z : i = j
    · subst z
      rw [List.getElem?_set_self hi] at e
      exact .inl ⟨rfl, (Option.some.inj e).symm⟩
    · rw [List.getElem?_set_ne z] at e
      exact .inr ⟨fun y => z y.symm, e⟩
  refine ⟨?_, fun j d e => ?_, fun j k d d' hjk e1 e2 x o1 o2 => ?_, fun j d e o => ?_⟩
  · rw [f n hn (h.no i c hc), h.li, List.map_set, er]
    congr 2
    have : (cs.map fun c => D.loc c.r)[i]? = some (.loc c.r) := by rw [List.getElem?_map, hc]; rfl
    apply List.ext_getElem?
    intro j
    by_cases z : i = j
    · subst z
      rw [List.getElem?_set_self (by simpa using hi), this]
    · rw [List.getElem?_set_ne z]
  · rcases get j d e with ⟨rfl, rfl⟩ | ⟨hne, e⟩
    · exact ok
    · exact (h.ok j d e).of fun k o => f k ((h.ok j d e).lt o) fun z => h.dj j i d c hne e hc k o z
  · rcases get j d e1 with ⟨rfl, rfl⟩ | ⟨hne, e3⟩
    · rcases get k d' e2 with ⟨rfl, rfl⟩ | ⟨hne2, e4⟩
      · exact hjk rfl
      · rcases ho x o1 with y | y
        · exact h.dj j k c d' hjk hc e4 x y o2
        · have := (h.ok k d' e4).lt o2; omega
    · rcases get k d' e2 with ⟨rfl, rfl⟩ | ⟨hne2, e4⟩
      · rcases ho x o2 with y | y
        · exact h.dj k j c d (fun z => hjk z.symm) hc e3 x y o1
        · have := (h.ok j d e3).lt o1; omega
      · exact h.dj j k d d' hjk e3 e4 x o1 o2
  · rcases get j d e with ⟨rfl, rfl⟩ | ⟨hne, e⟩
    · rcases ho n o with y | y
      · exact h.no j c hc y
      · omega
    · exact h.no j d e o
end SW
namespace SW
open PySem L2

/-! k60: a new chart -/
section
variable {S : Sto} {w : Wb} {Q : D → Sto → Prop}
end
end SW
namespace SW
open PySem L2

section
variable {S : Sto} {n i : Nat} {ch : List Cc} {c : Cc}
theorem sb3 {r : Nat} {x y z : D} (h : S[r]? = some (.lst [x, y, z])) : (∀ Q : D → Sto → Prop, Wp (sbD (.loc r) (.int 0) S) Q ↔ Q x S) ∧ (∀ Q : D → Sto → Prop, Wp (sbD (.loc r) (.int 1) S) Q ↔ Q y S) ∧ ∀ Q : D → Sto → Prop, Wp (sbD (.loc r) (.int 2) S) Q ↔ Q z S := by
  refine ⟨fun Q => ?_, fun Q => ?_, fun Q => ?_⟩ <;> rw [wq_sbL h] <;> exact ⟨fun ⟨d, e, k⟩ => by cases e; exact k, fun k => ⟨_, rfl, k⟩⟩
end
section
variable {S : Sto} {w : Wb} {a g m le s : Nat} {ps L : List Nat} {T : List End}
end
end SW
namespace SW
open PySem L2

/-! k56: the law's own keeping -/
def kM2 (y d : Nat) : List Key := [.inr (mkS y), .inl (d : Int)]
def mE2 (e : End) : D := .tup [mkD e.1, nD e.2]
theorem kM2_inj {y d y' d' : Nat} (hy : y < 26) (hy' : y' < 26) (h : kM2 y d = kM2 y' d') : (y, d) = (y', d') := by
  unfold kM2 at h
  simp only [List.cons.injEq, Sum.inr.injEq, Sum.inl.injEq, and_true] at h
  obtain ⟨h1, h2⟩ := h
  have := congrArg Fin.val (mkS_inj ⟨y, hy⟩ ⟨y', hy'⟩ h1)
  have h3 : y = y' := this
  rw [h3, Int.ofNat.inj h2]
def kvMn (w : Wb) (L : List Nat) : List (Key × D) := L.map fun y => (.inr (mkS y), nD (rowD w y).length)
theorem lk_kvMn {w : Wb} {y : Nat} (hy : y < 26) : ∀ {L : List Nat}, (∀ x ∈ L, x < 26) → lk (kvMn w L) (.inr (mkS y)) = if y ∈ L then some (nD (rowD w y).length) else none
  | [], _ => rfl
  | x :: L, h => by
    have ih := lk_kvMn (w := w) hy (L := L) fun z hz => h z (by simp [hz])
    show lk ((Sum.inr (mkS x), nD (rowD w x).length) :: kvMn w L) _ = _
    rw [lk_cons]
    by_cases e : x = y
    · subst e; simp
    · have : ¬ ((Sum.inr (mkS x) : Key) = Sum.inr (mkS y)) := fun z => e (congrArg Fin.val (mkS_inj ⟨x, h x (by simp)⟩ ⟨y, hy⟩ (Sum.inr.inj z)))
      simp only [this, if_false, ih, List.mem_cons, show ¬ y = x from fun z => e z.symm, false_or]
theorem pt_kvMn {w : Wb} {y : Nat} (hy : y < 26) {L : List Nat} (hL : ∀ x ∈ L, x < 26) (hn : y ∉ L) : ptK (kvMn w L) (.inr (mkS y)) (nD (rowD w y).length) = kvMn w (L ++ [y]) := by
  unfold ptK
  rw [lk_any, lk_kvMn hy hL, if_neg hn]
  simp [kvMn]
def mdK (o mn en x : Nat) : List (Key × D) := [(.inr (Str.ofString "order"), .loc o), (.inr (Str.ofString "many"), .loc mn), (.inr (Str.ofString "ends"), .loc en), (.inr (Str.ofString "at"), mkD x)]
structure MdAt (S : Sto) (md o mn en z : Nat) (w : Wb) (L : List Nat) (T : List End) (x : Nat) : Prop where
  ob : S[md]? = some (.dK (mdK o mn en x))
  or_ : S[o]? = some (.lst (L.map mkD))
  mn_ : S[mn]? = some (.dK (kvMn w L))
  en_ : ∃ kvs, S[en]? = some (.dT kvs) ∧ kvs.length ≤ z ∧ ∀ y d, y < w.length → d < (rowD w y).length → lk kvs (kM2 y d) = if isKn w T y d = true then some (mE2 (endR w y d)) else none
  ne : md ≠ o ∧ md ≠ mn ∧ md ≠ en ∧ o ≠ mn ∧ o ≠ en ∧ mn ≠ en
section
variable {S : Sto} {md o mn en z : Nat} {w : Wb} {L : List Nat} {T : List End} {x : Nat} {Q : D → Sto → Prop}
theorem md_order (h : MdAt S md o mn en z w L T x) : Wp (sbD (.loc md) (.str (Str.ofString "order")) S) Q ↔ Q (.loc o) S := wq_sbS h.ob rfl
theorem md_many (h : MdAt S md o mn en z w L T x) : Wp (sbD (.loc md) (.str (Str.ofString "many")) S) Q ↔ Q (.loc mn) S := wq_sbS h.ob rfl
theorem md_ends (h : MdAt S md o mn en z w L T x) : Wp (sbD (.loc md) (.str (Str.ofString "ends")) S) Q ↔ Q (.loc en) S := wq_sbS h.ob rfl
theorem md_at (h : MdAt S md o mn en z w L T x) : Wp (sbD (.loc md) (.str (Str.ofString "at")) S) Q ↔ Q (mkD x) S := wq_sbS h.ob rfl
theorem MdAt.of {S' : Sto} (h : MdAt S md o mn en z w L T x) (f : ∀ k, k = md ∨ k = o ∨ k = mn ∨ k = en → S'[k]? = S[k]?) : MdAt S' md o mn en z w L T x := by
  obtain ⟨kvs, h1, h2, h3⟩ := h.en_
  exact ⟨(f _ (.inl rfl)).trans h.ob, (f _ (.inr (.inl rfl))).trans h.or_, (f _ (.inr (.inr (.inl rfl)))).trans h.mn_, ⟨kvs, (f _ (.inr (.inr (.inr rfl)))).trans h1, h2, h3⟩, h.ne⟩
theorem MdAt.lt (h : MdAt S md o mn en z w L T x) {k : Nat} (hk : k = md ∨ k = o ∨ k = mn ∨ k = en) : k < S.length := by
  obtain ⟨kvs, h1, _⟩ := h.en_
  rcases hk with rfl | rfl | rfl | rfl
  · exact sto_lt h.ob
  · exact sto_lt h.or_
  · exact sto_lt h.mn_
  · exact sto_lt h1
theorem MdAt.keep {S' : Sto} (h : MdAt S md o mn en z w L T x) (f : ∀ k, k < S.length → S'[k]? = S[k]?) : MdAt S' md o mn en z w L T x := h.of fun k hk => f k (h.lt hk)
theorem stD_M2 {n : Nat} {kvs : List (List Key × D)} {y d : Nat} {v : D} (h : S[n]? = some (.dT kvs)) (hl : kvs.length ≤ 10000000) : stD (.loc n) (.tup [mkD y, nD d]) v S = some (S.set n (.dT (ptK kvs (kM2 y d) v))) := by
  have : tOf (.tup [mkD y, nD d]) = some (kM2 y d) := rfl
  simp only [stD, h, this, Option.bind_some]
  rw [if_pos hl]
theorem wp_d4S {a1 a2 a3 a4 : Str} {f1 f2 f3 f4 : EvE} {τ : Tau} (hn : ([.inr a1, .inr a2, .inr a3, .inr a4] : List Key).Nodup)
    (h : Wp (f1 τ (S ++ [.dK []])) fun x1 S1 => Wp (f2 τ S1) fun x2 S2 => Wp (f3 τ S2) fun x3 S3 => Wp (f4 τ S3) fun x4 S4 => S4[S.length]? = some (.dK []) ∧ Q (.loc S.length) (S4.set S.length (.dK [(.inr a1, x1), (.inr a2, x2), (.inr a3, x3), (.inr a4, x4)]))) :
    Wp (d4E (cE (.str a1)) f1 (cE (.str a2)) f2 (cE (.str a3)) f3 (cE (.str a4)) f4 τ S) Q := by
  obtain ⟨x1, S1, e1, x2, S2, e2, x3, S3, e3, x4, S4, e4, h4, hq⟩ := h
  have : d4E (cE (.str a1)) f1 (cE (.str a2)) f2 (cE (.str a3)) f3 (cE (.str a4)) f4 τ S = some (.loc S.length, S4.set S.length (.dK [(.inr a1, x1), (.inr a2, x2), (.inr a3, x3), (.inr a4, x4)])) := by
    unfold d4E
    simp only [cE, Option.bind_some, e1, e2, e3, e4, h4, kOf]
    rw [if_pos hn]
  rw [this]
  exact wp_some.mpr hq
theorem wp_d1k {fk fv : EvE} {τ : Tau} {k : Key} {kd d : D} (hk : ∀ T, fk τ T = some (kd, T)) (hko : kOf kd = some k) (hv : ∀ T, fv τ T = some (d, T)) (q : Q (.loc S.length) (S ++ [.dK [(k, d)]])) : Wp (d1E fk fv τ S) Q := by
  have h : (S ++ [MO.dK []])[S.length]? = some (.dK []) := sto_new
  refine .of (a := .loc S.length) (S := S ++ [.dK [(k, d)]]) ?_ q
  unfold d1E
  rw [hk]
  simp only [Option.bind_some, hv, h, hko, Option.map_some]
  have : (S ++ [MO.dK []]).set S.length (.dK [(k, d)]) = S ++ [.dK [(k, d)]] := by simp
  show some (D.loc S.length, (S ++ [MO.dK []]).set S.length (.dK [(k, d)])) = _
  rw [this]
def StT56 : EvS := (seqS (asS (aE tupD (consA (vE 3) (consA (vE 2) nilA))) (subG (b2E sbD (vE 0) (cE (.str "ends"))) (aE tupD (consA (b2E sbD (vE 0) (cE (.str "at"))) (consA (vE 1) nilA)))))
  (seqS (asS (aE tupD (consA (b2E sbD (vE 0) (cE (.str "at"))) (consA (vE 1) nilA))) (subG (b2E sbD (vE 0) (cE (.str "ends"))) (aE tupD (consA (vE 3) (consA (vE 2) nilA)))))
  (asS (vE 3) (subG (vE 0) (cE (.str "at"))))))
end
end SW
namespace SW
open PySem L2

/-! k56: the chart against the law's own keeping -/
section
variable {S : Sto} {md o mn en z : Nat} {w : Wb} {L : List Nat} {T : List End} {x : Nat} {Q : D → Sto → Prop}
theorem wp_getM {fo fe : EvE} {τ : Tau} (k : Wp (fo τ S) fun d S1 => ∃ (n : Nat) (kvs : List (List Key × D)), d = .loc n ∧ S1[n]? = some (.dT kvs) ∧ Wp (fe τ S1) fun e S2 => ∃ y t : Nat, e = .tup [mkD y, nD t] ∧ S2[n]? = some (.dT kvs) ∧ Q ((lk kvs (kM2 y t)).getD .non) S2) : Wp (getE fo fe τ S) Q := by
  obtain ⟨d, S1, e1, n, kvs, rfl, h1, e, S2, e2, y, t, rfl, h, q⟩ := k
  have : getE fo fe τ S = some ((lk kvs (kM2 y t)).getD .non, S2) := by
    unfold getE
    rw [e1]
    simp only [Option.bind_some, e2]
    have : hasK (isKT (.loc n) S1) (.loc n) (.tup [mkD y, nD t]) S2 = some (lk kvs (kM2 y t)) := by
      unfold hasK isKT
      simp only [h1]
      have : tOf (.tup [mkD y, nD t]) = some (kM2 y t) := rfl
      simp only [dHas, h, this, if_true, Option.map_some]
    rw [this]
    rfl
  rw [this]
  exact wp_some.mpr q
theorem sb_many (h : MdAt S md o mn en z w L T x) (h26 : ∀ y ∈ L, y < 26) {y : Nat} (hy : y ∈ L) : Wp (sbD (.loc mn) (mkD y) S) Q ↔ Q (nD (rowD w y).length) S :=
  wq_sbS h.mn_ (by rw [lk_kvMn (h26 y hy) h26, if_pos hy])
def vM (w : Wb) (T : List End) (y d : Nat) : D := if isKn w T y d = true then mE2 (endR w y d) else .non
def Sa56 (S0 : Sto) (w : Wb) (T : List End) (y : Nat) (i : Nat) (acc : List D) (S : Sto) : Prop := acc = (List.range i).map (vM w T y) ∧ S = S0
def Sb56 (S0 : Sto) (w : Wb) (L : List Nat) (T : List End) (y : Nat) (i : Nat) (acc : List D) (S : Sto) : Prop := acc = (List.range i).map (kEnd w L T y) ∧ S = S0
def Sc56 (S0 : Sto) (m : D) (f : Nat) (w : Wb) (L : List Nat) (T : List End) (i : Nat) (τ : Tau) (S : Sto) : Prop := ∃ o2 o3 o4 o5 : Option D, τ = [some m, some (.loc f), o2, o3, o4, o5] ∧ S[f]? = some (.lst ((L.take i).map fun x => .tup (kRow w L T x))) ∧ S0.length ≤ S.length ∧ ∀ k, k < S0.length → k ≠ f → S[k]? = S0[k]?
def Ca56 (S0 : Sto) (w : Wb) (L : List Nat) (i : Nat) (acc : List D) (S : Sto) : Prop := acc = (L.take i).map (romD w) ∧ S = S0
def Cb56 (S0 : Sto) (w : Wb) (L : List Nat) (T : List End) (i : Nat) (k : Nat) (acc : List D) (S : Sto) : Prop := acc = (((List.range k).filter fun d => !isKn w T (L.getD i 0) d).map fun d => (i, d)).map eD ∧ S = S0
def Cc56 (S0 : Sto) (g md : Nat) (o2 : Option D) (sk : D) (f : Nat) (w : Wb) (L : List Nat) (T : List End) (i : Nat) (τ : Tau) (S : Sto) : Prop := ∃ o5 o6 o7 : Option D, τ = [some (.loc g), some (.loc md), o2, some sk, some (.loc f), o5, o6, o7] ∧ S[f]? = some (.lst ((opA w L T i).map eD)) ∧ (opA w L T i).length ≤ i * 6 ∧ S0.length ≤ S.length ∧ ∀ k, k < S0.length → k ≠ f → S[k]? = S0[k]?
theorem rom_gd {w : Wb} {L : List Nat} (h26 : ∀ x ∈ L, x < 26) : gd (.tup (L.map (romD w))) := by
  have h : ∀ t ∈ L.map (romD w), gn t = true ∧ dp t ≤ 50 := fun t ht => by
    obtain ⟨x, hx, rfl⟩ := List.mem_map.mp ht
    have := mkD_gn (h26 x hx)
    unfold romD nD
    exact ⟨by simp [gn, gns, this.1], by simp [dp, dps, mkD]⟩
  obtain ⟨g1, g2⟩ := gns_allN h
  exact ⟨by simpa only [gn] using g1, by simp only [dp]; omega⟩
theorem row_gd {w : Wb} {L : List Nat} {T : List End} : gd (.tup (L.map fun x => .tup (kRow w L T x))) := by
  have h : ∀ t ∈ L.map (fun x => D.tup (kRow w L T x)), gn t = true ∧ dp t ≤ 50 := fun t ht => by
    obtain ⟨x, hx, rfl⟩ := List.mem_map.mp ht
    have h2 : ∀ t ∈ kRow w L T x, gn t = true ∧ dp t ≤ 10 := fun t ht => by
      obtain ⟨d, _, rfl⟩ := List.mem_map.mp ht
      unfold kEnd
      split
      · have : ∀ e : End, gn (eD e) = true ∧ dp (eD e) ≤ 10 := fun e => by unfold eD; simp [gn, gns, dp, dps]
        exact this _
      · exact ⟨rfl, by simp [dp]⟩
    obtain ⟨g1, g2⟩ := gns_allN h2
    exact ⟨by simpa only [gn] using g1, by simp only [dp]; omega⟩
  obtain ⟨g1, g2⟩ := gns_allN h
  exact ⟨by simpa only [gn] using g1, by simp only [dp]; omega⟩
theorem ChAt.ltO {g m le s : Nat} {ps : List Nat} (h : ChAt S g m le ps w L T s) {k : Nat} (o : k = g ∨ k = m ∨ k = le ∨ k ∈ ps) : k < S.length := by
  rcases o with rfl | rfl | rfl | o
  · exact sto_lt h.ob
  · exact sto_lt h.ml
  · exact sto_lt h.en
  · exact h.plt o
theorem ChAt.ofO {S' : Sto} {g m le s : Nat} {ps : List Nat} (h : ChAt S g m le ps w L T s) (f : ∀ k, (k = g ∨ k = m ∨ k = le ∨ k ∈ ps) → S'[k]? = S[k]?) : ChAt S' g m le ps w L T s :=
  ⟨(f _ (.inl rfl)).trans h.ob, (f _ (.inr (.inl rfl))).trans h.ml, (f _ (.inr (.inr (.inl rfl)))).trans h.en, h.pl, fun i p x e1 e2 => (f _ (.inr (.inr (.inr (List.mem_of_getElem? e1))))).trans (h.rw i p x e1 e2), h.pn, h.od, h.sl⟩
end
end SW
namespace SW
open PySem L2

/-! k56: a walk told to a chart and to the law's own keeping -/
structure Q56 (S : Sto) (w : Wb) (g m le md o mn en b : Nat) (ps L : List Nat) (T : List End) (s x z : Nat) : Prop where
  ch : ChAt S g m le ps w L T s
  mo : MdAt S md o mn en z w L T x
  kc : Kc w L T
  at_ : L[s]? = some x
  dj : ∀ k, (k = md ∨ k = o ∨ k = mn ∨ k = en) → ¬ (k = g ∨ k = m ∨ k = le ∨ k ∈ ps)
  b1 : ¬ (b = md ∨ b = o ∨ b = mn ∨ b = en)
  b2 : ¬ (b = g ∨ b = m ∨ b = le ∨ b ∈ ps)
section
variable {S : Sto} {w : Wb} {g m le md o mn en b : Nat} {ps L : List Nat} {T : List End} {s x z : Nat}
theorem Q56.keep {S' : Sto} (h : Q56 S w g m le md o mn en b ps L T s x z) (f : ∀ k, k < S.length → k ≠ b → S'[k]? = S[k]?) : Q56 S' w g m le md o mn en b ps L T s x z :=
  ⟨h.ch.ofO fun k ok => f k (h.ch.ltO ok) fun e => h.b2 (e ▸ ok), h.mo.of fun k ok => f k (h.mo.lt ok) fun e => h.b1 (e ▸ ok), h.kc, h.at_, h.dj, h.b1, h.b2⟩
theorem Q56.box {b' : Nat} {S' : Sto} (h : Q56 S w g m le md o mn en b ps L T s x z) (hb : S.length ≤ b') (f : ∀ k, k < S.length → S'[k]? = S[k]?) : Q56 S' w g m le md o mn en b' ps L T s x z :=
  ⟨h.ch.of f, h.mo.keep f, h.kc, h.at_, h.dj, fun ok => by have := h.mo.lt ok; omega, fun ok => by have := h.ch.ltO ok; omega⟩
end
end SW
namespace SW
open PySem L2

/-! k59: a tie forgotten -/
def dlT (w : Wb) (T : List End) (y d : Nat) : List End := T.filter fun t => !decide (t = (y, d) ∨ t = endR w y d)
section
variable {S : Sto} {g m le s : Nat} {ps : List Nat} {w : Wb} {L : List Nat} {T : List End} {y d : Nat}
theorem dlT_mem {t : End} : t ∈ dlT w T y d ↔ t ∈ T ∧ t ≠ (y, d) ∧ t ≠ endR w y d := by
  unfold dlT
  rw [List.mem_filter, Bool.not_eq_true', decide_eq_false_iff_not, not_or]
theorem Kc.dl (K : Kc w L T) : Kc w L (dlT w T y d) := ⟨K.lt, K.nd, fun t ht => K.vt t (dlT_mem.mp ht).1⟩
end
end SW
namespace SW
open PySem L2

/-! k59: a tie forgotten by the law's own keeping -/
section
variable {S : Sto} {md o mn en z : Nat} {w : Wb} {L : List Nat} {T : List End} {x : Nat} {Q : D → Sto → Prop}
end
end SW
namespace SW
open PySem L2

section
variable {S : Sto}
end
end SW
namespace SW
open PySem L2

section
variable {S : Sto} {g m le s : Nat} {ps : List Nat} {w : Wb} {L : List Nat} {T : List End} {y d : Nat}
end
end SW
namespace SW
open PySem L2

section
variable {S : Sto} {g m le s : Nat} {ps : List Nat} {w : Wb} {L : List Nat} {T : List End} {y d : Nat} {md o mn en z x : Nat} {Q : D → Sto → Prop}
end
end SW
namespace SW
open PySem L2

/-! k59: forgets_right -/
theorem wp_get2S {S : Sto} {fo fe ff : EvE} {τ : Tau} {Q : D → Sto → Prop} {n : Nat} {kvs : List (Key × D)} {u : Str} {v : D} (h0 : Wp (fo τ S) fun d S1 => d = .loc n ∧ S1 = S) (h2 : fe τ S = some (.str u, S)) (h3 : ff τ S = some (v, S)) (h : S[n]? = some (.dK kvs)) (q : Q ((lk kvs (.inr u)).getD v) S) : Wp (getE2 fo fe ff τ S) Q := by
  have h1 : fo τ S = some (.loc n, S) := by
    obtain ⟨d, S1, e, rfl, rfl⟩ := h0
    exact e
  have : getE2 fo fe ff τ S = some ((lk kvs (.inr u)).getD v, S) := by
    unfold getE2
    rw [h1]
    simp only [Option.bind_some, h2, h3]
    have : hasK (isKT (.loc n) S) (.loc n) (.str u) S = some (lk kvs (.inr u)) := by
      unfold hasK isKT
      simp only [h]
      first
        | rfl
        | (unfold dHas; simp only [h]; rfl)
    rw [this]
    rfl
  rw [this]
  exact wp_some.mpr q
section
variable {S : Sto} {w : Wb} {g m le md o mn en b : Nat} {ps L : List Nat} {T : List End} {s x z : Nat}
end
end SW
namespace SW
open PySem L2

/-! printed by mk480.py: charts of what needn't hang together -/
structure WebK (w : Wb) : Prop where
  back : Back w
  pos : 0 < w.length
  few : w.length ≤ 24
  doors : ∀ (r : Nat) (x : List End), w[r]? = some x → x.length ≤ 6
/-! P188 -/
theorem endR_backK {w : Wb} {x d : Nat} (W : WebK w) (hd : d < (rowD w x).length) : (endR w x d).1 < w.length ∧ (endR w x d).2 < (rowD w (endR w x d).1).length ∧ endR w (endR w x d).1 (endR w x d).2 = (x, d) := by
  have h := endR_at hd
  have b := W.back _ _ _ _ (rowD_at.mp h)
  have h2 := rowD_at.mpr b
  exact ⟨W.back.closed _ _ _ _ (rowD_at.mp h), (List.getElem?_eq_some_iff.mp h2).1, endR_of h2⟩
theorem isKn_backK {w : Wb} {T : List End} {x d : Nat} (W : WebK w) (hd : d < (rowD w x).length) : isKn w T (endR w x d).1 (endR w x d).2 = isKn w T x d := by
  rw [Bool.eq_iff_iff, isKn_iff, isKn_iff, (endR_backK W hd).2.2]
  exact Or.comm
section
variable {w : Wb} {a : Nat} {L : List Nat} {T : List End}
end
/-! P192 -/
section
variable {w : Wb} {a : Nat} {L : List Nat} {T : List End} {i j x d : Nat}
theorem endR_iffK (W : WebK w) (hd : d < (rowD w x).length) {z t : Nat} (ht : t < (rowD w z).length) : endR w z t = (x, d) ↔ (z, t) = endR w x d := by
  constructor
  · intro h
    have := (endR_backK W ht).2.2
    rw [h] at this
    exact this.symm
  · intro h
    have := (endR_backK W hd).2.2
    rw [← h] at this
    exact this
theorem kRow_addK (W : WebK w) (hn : L.Nodup) (hx : L[i]? = some x) (hd : d < (rowD w x).length) (hj : L[j]? = some (endR w x d).1) (z : Nat) :
    kRow w L (T ++ [(x, d)]) z = tied (endR w x d).1 (endR w x d).2 (i, d) (tied x d (j, (endR w x d).2) (kRow w L T z) z) z := by
  obtain ⟨b1, b2, b3⟩ := endR_backK W hd
  apply List.ext_getElem?
  intro t
  by_cases ht : t < (rowD w z).length
  · rw [kRow_at ht, tied_at (by rw [tied_len, kRow_len]; exact ht), tied_at (by rw [kRow_len]; exact ht), kRow_at ht]
    have ka := isKn_add (w := w) (T := T) (x := x) (d := d) (y := z) (c := t)
    rw [endR_iffK W hd ht] at ka
    have ee : ((endR w x d).1, (endR w x d).2) = endR w x d := rfl
    rw [ee]
    unfold kEnd
    by_cases h1 : (z, t) = endR w x d
    · rw [if_pos h1, if_pos (ka.mpr (.inr (.inr h1)))]
      have e2 := (endR_iffK W hd ht).mpr h1
      rw [e2, idx_at hn hx]
    · rw [if_neg h1]
      by_cases h2 : (z, t) = (x, d)
      · rw [if_pos h2, if_pos (ka.mpr (.inr (.inl h2)))]
        have e1 : z = x := by injection h2
        have e2 : t = d := by injection h2
        subst e1 e2
        rw [idx_at hn hj]
      · rw [if_neg h2]
        by_cases h3 : isKn w T z t = true
        · rw [if_pos h3, if_pos (ka.mpr (.inl h3))]
        · rw [if_neg h3, if_neg fun z => ?_]
          rcases ka.mp z with z | z | z
          · exact h3 z
          · exact h2 z
          · exact h1 z
  · rw [List.getElem?_eq_none (by rw [kRow_len]; omega), List.getElem?_eq_none (by rw [tied_len, tied_len, kRow_len]; omega)]
end
/-! P271 -/
section
variable {w : Wb} {L : List Nat} {T : List End}
theorem Kc.knownK (k : Kc w L T) (W : WebK w) {x d : Nat} (hd : d < (rowD w x).length) (h : isKn w T x d = true) : x ∈ L ∧ (endR w x d).1 ∈ L := by
  rcases isKn_iff.mp h with h | h
  · exact ⟨(k.vt _ h).1, (k.vt _ h).2.2⟩
  · have := k.vt _ h
    rw [(endR_backK W hd).2.2] at this
    exact ⟨this.2.2, this.1⟩
theorem kRow_moreCK (W : WebK w) (K : Kc w L T) {y : Nat} (z : Nat) : kRow w (L ++ [y]) T z = kRow w L T z := by
  unfold kRow
  refine List.map_congr_left fun t ht => ?_
  rw [List.mem_range] at ht
  unfold kEnd
  by_cases h : isKn w T z t = true
  · rw [if_pos h, if_pos h, idx_app (K.knownK W ht h).2]
  · rw [if_neg h, if_neg h]
theorem kRow_newCK (W : WebK w) (K : Kc w L T) {y : Nat} (hy : y ∉ L) : kRow w L T y = List.replicate (rowD w y).length .non := by
  unfold kRow
  apply List.ext_getElem?
  intro t
  by_cases ht : t < (rowD w y).length
  · rw [List.getElem?_map, List.getElem?_range ht, List.getElem?_replicate, if_pos ht]
    have : ¬ isKn w T y t = true := fun z => hy (K.knownK W ht z).1
    unfold kEnd
    simp [this]
  · rw [List.getElem?_eq_none (by simp; omega), List.getElem?_eq_none (by simp; omega)]
end
section
variable {S : Sto} {g m le s : Nat} {ps : List Nat} {w : Wb} {L : List Nat} {T : List End} {Q : D → Sto → Prop}
theorem open_at_okK {i x : Nat} (W : WebK w) (h : ChAt S g m le ps w L T s) (hx : L[i]? = some x) (hxl : x < w.length)
    (q : ∀ S' : Sto, S'[S.length]? = some (.lst (((List.range (rowD w x).length).filter fun d => !isKn w T x d).map nD)) → S'.length = S.length + 1 → (∀ k, k < S.length → S'[k]? = S[k]?) → Q (.loc S.length) S') : Wp (g_Chart_open_at [.loc g, .int (i : Int)] S) Q := by
  unfold g_Chart_open_at
  refine (wp_fnD (by rfl)).mpr ?_
  unfold b_Chart_open_at
  obtain ⟨p, h1, h2, h3⟩ := ch_row h hx
  have h6 := W.doors _ _ (row_at hxl)
  (simp! only [wp_fstS, wp_fldG, wp_fagS, wp_sagS, wp_mtE, wp_mkE, ch_ends h, h3])
  refine ⟨_, srcE_loc h2, ?_⟩
  refine lc_en p (kRow w L T x) (by rw [kRow_len]; omega) (Oa60 S w T x) ⟨rfl, rfl⟩ (fun i acc S' h => by rw [h.2]; exact h2) ?_ ?_
  · rintro d e acc S1 hd ⟨rfl, rfl⟩
    have hdl : d < (rowD w x).length := by rw [← kRow_len (w := w) (L := L) (T := T)]; exact (List.getElem?_eq_some_iff.mp hd).1
    rw [kRow_at hdl] at hd
    cases hd
    have en : isNonD (kEnd w L T x d) = !isKn w T x d := by
      unfold kEnd
      by_cases hk : isKn w T x d = true
      · rw [if_pos hk, hk]; rfl
      · rw [if_neg hk]
        have : isKn w T x d = false := by simpa using hk
        rw [this]; rfl
    refine ⟨_, rfl, ?_⟩
    (simp! only [en])
    by_cases hk : isKn w T x d = false
    · rw [if_pos hk]
      refine ⟨?_, rfl⟩
      rw [List.range_succ, List.filter_append, List.map_append]
      simp [hk, nD]
    · rw [if_neg hk]
      have hk2 : isKn w T x d = true := by simpa using hk
      refine ⟨?_, rfl⟩
      rw [List.range_succ, List.filter_append, List.map_append]
      simp [hk2]
  · rintro acc S1 ⟨rfl, rfl⟩
    rw [kRow_len]
    exact q _ sto_new (by simp) fun k hk => sto_app hk
end
/-! P274 -/
section
variable {S : Sto} {g m le s : Nat} {ps : List Nat} {w : Wb} {L : List Nat} {T : List End} {Q : D → Sto → Prop}
theorem open_doors_okK (W : WebK w) (h : ChAt S g m le ps w L T s) (K : Kc w L T)
    (q : ∀ S' : Sto, S'[S.length]? = some (.lst ((opA w L T L.length).map eD)) → S.length ≤ S'.length → (∀ k, k < S.length → S'[k]? = S[k]?) → Q (.loc S.length) S') : Wp (g_Chart_open_doors [.loc g] S) Q := by
  unfold g_Chart_open_doors
  refine (wp_fnD (by rfl)).mpr ?_
  unfold b_Chart_open_doors
  have hLw := K.few
  have hw := W.few
  have h1 := h.of (S' := S ++ [MO.lst []]) fun k hk => sto_app hk
  (simp! only [wp_fstS, wp_fldG, wp_fagS, wp_sagS, wp_mtE, wp_mkE, ch_ends h1, len_loc h1.en, List.length_map])
  rw [h.pl]
  refine ⟨by simp [big62]; omega, ?_⟩
  rw [Int.toNat_natCast]
  refine lo_rng 0 L.length (Od60 S g w L T) ⟨_, _, rfl, sto_new, by simp [opA], by simp, fun k hk => sto_app hk⟩ ?_ ?_
  · rintro i τ S1 hi ⟨o2, o3, rfl, e1, le1, l1, f1⟩
    have e0 : ((0 : Int) + (i : Int)) = (i : Int) := by omega
    rw [e0]
    refine ⟨_, pb_nm, ?_⟩
    have hx : L[i]? = some (L.getD i 0) := by rw [List.getD_eq_getElem?_getD, List.getElem?_eq_getElem hi]; rfl
    have hxl := K.lt _ (List.mem_of_getElem? hx)
    have h2 := h.of f1
    (simp! only [wp_fstS, wp_fldG, wp_fagS, wp_sagS, wp_mtE, wp_mkE, isLst_loc e1])
    refine ⟨ch_self h2 rfl, ?_⟩
    refine open_at_okK W h2 hx hxl fun S2 g2 l2 f2 => ?_
    have eo : ((List.range (rowD w (L.getD i 0)).length).filter fun d => !isKn w T (L.getD i 0) d) = opL w T (L.getD i 0) := rfl
    rw [eo] at g2
    have hol := opL_len (w := w) (T := T) (x := L.getD i 0)
    have h6 := W.doors _ _ (row_at hxl)
    have e2 := (f2 _ (sto_lt e1)).trans e1
    refine ⟨_, src_loc g2, ?_⟩
    refine lc_live _ _ (by rw [List.length_map]; omega) (Oe60 S2 i (opL w T (L.getD i 0))) ⟨rfl, rfl⟩ (fun k acc S' h => by rw [h.2]; exact g2) ?_ ?_
    · rintro k d acc S3 hdd ⟨rfl, rfl⟩
      rw [List.getElem?_map] at hdd
      obtain ⟨y, hy, rfl⟩ := Option.map_eq_some_iff.mp hdd
      refine ⟨_, pb_nm, ?_⟩
      (simp! only [wp_fstS, wp_fldG, wp_fagS, wp_sagS, wp_mtE, wp_mkE])
      refine ⟨?_, rfl⟩
      rw [List.take_add_one, hy, List.map_append, List.map_append]; rfl
    · rintro acc S3 ⟨rfl, rfl⟩
      rw [List.length_map, List.take_length]
      have hn : (S3 ++ [MO.lst (((opL w T (L.getD i 0)).map fun d => (i, d)).map eD)])[S3.length]? = some (.lst (((opL w T (L.getD i 0)).map fun d => (i, d)).map eD)) := sto_new
      have e3 : (S3 ++ [MO.lst (((opL w T (L.getD i 0)).map fun d => (i, d)).map eD)])[S.length]? = some (.lst ((opA w L T i).map eD)) := by rw [sto_app (sto_lt e2)]; exact e2
      rw [wq_extend e3 hn]
      refine ⟨by rw [List.length_map, List.length_map, List.length_map]; omega, _, _, rfl, ?_, by rw [opA_succ, List.length_append, List.length_map]; omega, by simp; omega, fun k hk => ?_⟩
      · rw [sto_set e3, opA_succ, List.map_append]
      · rw [sto_ne (by omega), sto_app (by omega), f2 k (by omega)]; exact f1 k hk
  · rintro τ S1 ⟨o2, o3, rfl, e1, le1, l1, f1⟩
    (simp! only [wp_fstS, wp_fldG, wp_fagS, wp_sagS, wp_mtE, wp_mkE])
    exact q S1 e1 l1 f1
end
/-! P275 -/
section
variable {S : Sto} {g m le s : Nat} {ps : List Nat} {w : Wb} {L : List Nat} {T : List End} {Q : D → Sto → Prop}
theorem rooms_okK (W : WebK w) (h : ChAt S g m le ps w L T s) (K : Kc w L T)
    (q : ∀ S' : Sto, S.length ≤ S'.length → (∀ k, k < S.length → S'[k]? = S[k]?) → Q (.tup (L.map (romD w))) S') : Wp (g_Chart_rooms [.loc g] S) Q := by
  unfold g_Chart_rooms
  refine (wp_fnD (by rfl)).mpr ?_
  unfold b_Chart_rooms
  have hLw := K.few
  have hw := W.few
  (simp! only [wp_fstS, wp_fldG, wp_fagS, wp_sagS, wp_mtE, wp_mkE, ch_marks h, ch_ends h])
  refine lc_zip m le (L.map mkD) (ps.map D.loc) (by rw [List.length_map, List.length_map, h.pl]) (by rw [List.length_map]; omega) (Rm60 S w L) ⟨rfl, rfl⟩ (fun i acc S' h' => by rw [h'.2]; exact ⟨h.ml, h.en⟩) ?_ ?_
  · rintro i x y acc S1 hx hy ⟨rfl, rfl⟩
    rw [List.getElem?_map] at hx hy
    obtain ⟨r, hr, rfl⟩ := Option.map_eq_some_iff.mp hx
    obtain ⟨p, hp, rfl⟩ := Option.map_eq_some_iff.mp hy
    have hrow := h.rw i p r hp hr
    refine ⟨_, rfl, ?_⟩
    (simp! only [wp_fstS, wp_fldG, wp_fagS, wp_sagS, wp_mtE, wp_mkE, len_loc hrow])
    rw [kRow_len]
    refine ⟨?_, rfl⟩
    rw [List.take_add_one, hr, List.map_append]; rfl
  · rintro acc S1 ⟨rfl, rfl⟩
    rw [List.length_map, List.take_length]
    have hn : (S1 ++ [MO.lst (L.map (romD w))])[S1.length]? = some (.lst (L.map (romD w))) := sto_new
    (simp! only [wp_fstS, wp_fldG, wp_fagS, wp_sagS, wp_mtE, wp_mkE, wq_tupleL hn])
    exact q _ (by simp) fun k hk => sto_app hk
theorem sketch_okK (W : WebK w) (h : ChAt S g m le ps w L T s) (K : Kc w L T)
    (q : ∀ S' : Sto, S.length ≤ S'.length → (∀ k, k < S.length → S'[k]? = S[k]?) → Q (.tup (L.map fun x => .tup (kRow w L T x))) S') : Wp (g_Chart_sketch [.loc g] S) Q := by
  unfold g_Chart_sketch
  refine (wp_fnD (by rfl)).mpr ?_
  unfold b_Chart_sketch
  have hLw := K.few
  have hw := W.few
  (simp! only [wp_fstS, wp_fldG, wp_fagS, wp_sagS, wp_mtE, wp_mkE, ch_ends h])
  refine ⟨_, src_loc h.en, ?_⟩
  refine lc_live _ _ (by rw [List.length_map, h.pl]; omega) (Sk60 S w L T) ⟨rfl, rfl⟩ (fun i acc S' h' => by rw [h'.2]; exact h.en) ?_ ?_
  · rintro i d acc S1 hd ⟨rfl, rfl⟩
    rw [List.getElem?_map] at hd
    obtain ⟨p, hp, rfl⟩ := Option.map_eq_some_iff.mp hd
    have hi : i < L.length := by rw [← h.pl]; exact (List.getElem?_eq_some_iff.mp hp).1
    have hr : L[i]? = some L[i] := List.getElem?_eq_getElem hi
    generalize L[i] = r at hr
    have hrow := h.rw i p r hp hr
    refine ⟨_, pb_nm, ?_⟩
    (simp! only [wp_fstS, wp_fldG, wp_fagS, wp_sagS, wp_mtE, wp_mkE, wq_tupleL hrow])
    refine ⟨?_, rfl⟩
    rw [List.take_add_one, hr, List.map_append]; rfl
  · rintro acc S1 ⟨rfl, rfl⟩
    rw [List.length_map, h.pl, List.take_length]
    have hn : (S1 ++ [MO.lst (L.map fun x => D.tup (kRow w L T x))])[S1.length]? = some (.lst (L.map fun x => D.tup (kRow w L T x))) := sto_new
    (simp! only [wp_fstS, wp_fldG, wp_fagS, wp_sagS, wp_mtE, wp_mkE, wq_tupleL hn])
    exact q _ (by simp) fun k hk => sto_app hk
end
/-! P276 -/
section
variable {S : Sto} {g m le s : Nat} {ps : List Nat} {w : Wb} {L : List Nat} {T : List End} {Q : D → Sto → Prop}
theorem Kc.s26K (K : Kc w L T) (W : WebK w) : ∀ x ∈ L, x < 26 := fun x hx => by
  have := K.lt x hx
  have := W.few
  omega
end
/-! P277 -/
section
variable {S : Sto} {g m le s : Nat} {ps : List Nat} {w : Wb} {L : List Nat} {T : List End} {Q : D → Sto → Prop} {x d i j : Nat}
theorem addT_knK (W : WebK w) {z t : Nat} (ht : t < (rowD w z).length) : isKn w (T ++ [(x, d)]) z t = isKn w (addT w T x d) z t := by
  unfold addT
  by_cases hk : isKn w T x d = true
  · rw [if_pos hk, Bool.eq_iff_iff, isKn_add]
    constructor
    · rintro (h | h | h)
      · exact h
      · injection h with h1 h2; rw [h1, h2]; exact hk
      · rw [← isKn_backK (T := T) W ht, h]; exact hk
    · exact .inl
  · rw [if_neg hk]
theorem kRow_addTK (W : WebK w) (z : Nat) : kRow w L (T ++ [(x, d)]) z = kRow w L (addT w T x d) z := by
  unfold kRow
  refine List.map_congr_left fun t ht => ?_
  unfold kEnd
  rw [addT_knK W (List.mem_range.mp ht)]
theorem Kc.metK (W : WebK w) (K : Kc w L T) (hd : d < (rowD w x).length) : Kc w (metStep L (endR w x d)) T :=
  ⟨fun z hz => by
    rcases metStep_or z hz with h | h
    · exact K.lt z h
    · rw [h]; exact (endR_backK W hd).1, metStep_nd K.nd, fun t ht => by
    obtain ⟨v1, v2, v3⟩ := K.vt t ht
    exact ⟨metStep_sub _ v1, v2, metStep_sub _ v3⟩⟩
theorem Kc.stepK (W : WebK w) (K : Kc w L T) (hx : x ∈ L) (hd : d < (rowD w x).length) : Kc w (metStep L (endR w x d)) (SW.addT w T x d) :=
  (K.metK W hd).addT (metStep_sub _ hx) hd metStep_in
theorem ChAt.tieK {S' : Sto} {p q : Nat} (h : ChAt S g m le ps w L T s) (W : WebK w) (hn : L.Nodup) (hx : L[i]? = some x) (hd : d < (rowD w x).length) (hj : L[j]? = some (endR w x d).1) (hp : ps[i]? = some p) (hq : ps[j]? = some q)
    (e1 : ∀ k, k ≠ p → k ≠ q → S'[k]? = S[k]?) (e2 : S'[p]? = some (.lst (kRow w L (T ++ [(x, d)]) x))) (e3 : S'[q]? = some (.lst (kRow w L (T ++ [(x, d)]) (endR w x d).1))) : ChAt S' g m le ps w L (addT w T x d) s := by
  obtain ⟨o1, o2, o3, o4⟩ := h.od
  have op := o4 p (List.mem_of_getElem? hp)
  have oq := o4 q (List.mem_of_getElem? hq)
  refine ⟨(e1 _ (by omega) (by omega)).trans h.ob, (e1 _ (fun z => op.2.2 z.symm) (fun z => oq.2.2 z.symm)).trans h.ml, (e1 _ (fun z => op.2.1 z.symm) (fun z => oq.2.1 z.symm)).trans h.en, h.pl, fun k r z hr hz => ?_, h.pn, h.od, h.sl⟩
  rw [← kRow_addTK W]
  by_cases hpr : r = p
  · subst hpr
    have hkl := (List.getElem?_eq_some_iff.mp hr).1
    have : k = i := (List.getElem?_inj hkl h.pn).mp (by rw [hr, hp])
    subst this
    rw [hx] at hz; cases hz
    exact e2
  · by_cases hqr : r = q
    · subst hqr
      have hkl := (List.getElem?_eq_some_iff.mp hr).1
      have : k = j := (List.getElem?_inj hkl h.pn).mp (by rw [hr, hq])
      subst this
      rw [hj] at hz; cases hz
      exact e3
    · rw [e1 r hpr hqr, h.rw k r z hr hz, kRow_addK W hn hx hd hj]
      have n1 : z ≠ x := fun e => by
        subst e
        have : k = i := (List.getElem?_inj (List.getElem?_eq_some_iff.mp hz).1 hn).mp (by rw [hz, hx])
        subst this
        rw [hp] at hr; exact hpr (Option.some.inj hr).symm
      have n2 : z ≠ (endR w x d).1 := fun e => by
        have : k = j := (List.getElem?_inj (List.getElem?_eq_some_iff.mp hz).1 hn).mp (by rw [hz, hj, e])
        subst this
        rw [hq] at hr; exact hqr (Option.some.inj hr).symm
      unfold tied
      rw [if_neg n1, if_neg n2]
theorem ChAt.moreK {S' : Sto} {p y : Nat} (h : ChAt S g m le ps w L T s) (W : WebK w) (K : Kc w L T) (hy : y ∉ L) (hp : S.length ≤ p)
    (e1 : ∀ k, k < S.length → k ≠ m → k ≠ le → S'[k]? = S[k]?) (em : S'[m]? = some (.lst (L.map mkD ++ [mkD y]))) (ee : S'[le]? = some (.lst (ps.map D.loc ++ [.loc p]))) (ep : S'[p]? = some (.lst (List.replicate (rowD w y).length .non))) : ChAt S' g m le (ps ++ [p]) w (L ++ [y]) T s := by
  obtain ⟨o1, o2, o3, o4⟩ := h.od
  have hg := sto_lt h.ob
  have hm := sto_lt h.ml
  have hl := sto_lt h.en
  refine ⟨(e1 _ hg (by omega) (by omega)).trans h.ob, by rw [em]; simp, by rw [ee]; simp, by simp [h.pl], fun i q x hq hx => ?_, ?_, ⟨o1, o2, o3, fun q hq => ?_⟩, by rw [List.length_append]; have := h.sl; omega⟩
  · rw [kRow_moreCK W K]
    by_cases hi : i < ps.length
    · rw [List.getElem?_append_left hi] at hq
      rw [List.getElem?_append_left (by rw [← h.pl]; exact hi)] at hx
      have := o4 q (List.mem_of_getElem? hq)
      rw [e1 q (h.plt (List.mem_of_getElem? hq)) (by omega) (by omega)]
      exact h.rw i q x hq hx
    · have hil := (List.getElem?_eq_some_iff.mp hq).1
      simp at hil
      have : i = ps.length := by omega
      subst this
      simp at hq
      rw [h.pl] at hx
      simp at hx
      subst hq hx
      rw [ep, kRow_newCK W K hy]
  · rw [List.nodup_append]
    exact ⟨h.pn, by simp, fun a ha b hb e => by
      have := h.plt ha
      rw [List.mem_singleton.mp hb] at e
      omega⟩
  · rcases List.mem_append.mp hq with h' | h'
    · exact o4 q h'
    · rw [List.mem_singleton.mp h']; omega
end
/-! P278 -/
section
variable {S : Sto} {g m le s : Nat} {ps : List Nat} {w : Wb} {L : List Nat} {T : List End} {x d n : Nat}
theorem went_tail_okK {o : Option D} {Q : Out → Sto → Prop} (h : ChAt S g m le ps w L T s) (W : WebK w) (K : Kc w L T) (hx : L[s]? = some x) (hd : d < (rowD w x).length) (hy : (endR w x d).1 ∈ L)
    (q : ∀ (S' : Sto) (τ' : Tau), ChAt S' g m le ps w L (addT w T x d) (L.idxOf (endR w x d).1) → S'.length = S.length → (∀ k, k ≠ g → k ∉ ps → S'[k]? = S[k]?) → Q (.nx τ') S') :
    Wp (WtT [some (.loc g), some (nD d), some (nD (endR w x d).2), some (mkD (endR w x d).1), some (nD n), o] S) Q := by
  unfold WtT
  have enx : ∀ n : Nat, nD n = D.int (n : Int) := fun _ => rfl
  have h26 := K.s26K W
  obtain ⟨b1, b2, b3⟩ := endR_backK W hd
  have hwf := W.few
  have y26 : (endR w x d).1 < 26 := by omega
  have hj := idx_get hy
  have hm2 : mkD (endR w x d).1 ∈ L.map mkD := (mkD_mem h26 y26).mpr hy
  (simp! only [wp_fstS, wp_fldG, wp_fagS, wp_sagS, wp_mtE, wp_mkE, enx, ch_marks h])
  refine ⟨isLst_loc h.ml, (wq_indexTr h.ml (mkD_all h26) (mkD_gd y26) hm2).mpr ?_⟩
  rw [mkD_idx y26 h26]
  obtain ⟨p, hp, hrp, sbp⟩ := ch_row h hx
  obtain ⟨r, hr, hrr, sbr⟩ := ch_row h hj
  generalize hje : L.idxOf (endR w x d).1 = j at *
  have hpm := List.mem_of_getElem? hp
  have hrm := List.mem_of_getElem? hr
  obtain ⟨o1, o2, o3, o4⟩ := h.od
  have op := o4 p hpm
  have or_ := o4 r hrm
  (simp! only [wp_fstS, wp_fldG, wp_fagS, wp_sagS, wp_mtE, wp_mkE, enx, ch_ends h, ch_spot h, sbp])
  have eD1 : D.tup [.int (j : Int), .int ((endR w x d).2 : Int)] = eD (j, (endR w x d).2) := rfl
  have eD2 : D.tup [.int (s : Int), .int (d : Int)] = eD (s, d) := rfl
  rw [eD1]
  refine ⟨_, stD_lst hrp (by rw [kRow_len]; exact hd), ?_⟩
  have hr1 : (S.set p (.lst ((kRow w L T x).set d (eD (j, (endR w x d).2)))))[r]? = some (.lst (tied x d (j, (endR w x d).2) (kRow w L T (endR w x d).1) (endR w x d).1)) := by
    unfold tied
    by_cases e : p = r
    · subst e
      have : s = j := (List.getElem?_inj (List.getElem?_eq_some_iff.mp hp).1 h.pn).mp (by rw [hp, hr])
      subst this
      have e2 : x = (endR w x d).1 := by rw [hx] at hj; exact Option.some.inj hj
      rw [sto_set hrp, ← e2, if_pos rfl]
    · rw [sto_ne e, hrr, if_neg fun z => ?_]
      have : s = j := (List.getElem?_inj (List.getElem?_eq_some_iff.mp hx).1 K.nd).mp (by rw [hx, hj, z])
      subst this
      rw [hp] at hr
      exact e (Option.some.inj hr)
  have hp1 : (S.set p (.lst ((kRow w L T x).set d (eD (j, (endR w x d).2)))))[p]? = some (.lst ((kRow w L T x).set d (eD (j, (endR w x d).2)))) := sto_set hrp
  have f1 : ∀ k, k ≠ p → (S.set p (.lst ((kRow w L T x).set d (eD (j, (endR w x d).2)))))[k]? = S[k]? := fun k hk => sto_ne (Ne.symm hk)
  have l1 : (S.set p (.lst ((kRow w L T x).set d (eD (j, (endR w x d).2))))).length = S.length := by simp
  generalize S.set p (.lst ((kRow w L T x).set d (eD (j, (endR w x d).2)))) = S1 at hr1 hp1 f1 l1 ⊢
  have ob1 := (f1 g (by omega)).trans h.ob
  have en1 := (f1 le (fun z => op.2.1 z.symm)).trans h.en
  have kw1 : ∀ (Q : D → Sto → Prop), Wp (fldD ["Chart"] "ends" (.loc g) S1) Q ↔ Q (.loc le) S1 := fun Q => wq_fld ob1 (by simp) rfl
  have kw2 : ∀ (Q : D → Sto → Prop), Wp (fldD ["Chart"] "spot" (.loc g) S1) Q ↔ Q (.int (s : Int)) S1 := fun Q => wq_fld ob1 (by simp) rfl
  have sb1 : ∀ Q : D → Sto → Prop, Wp (sbD (.loc le) (.int (j : Int)) S1) Q ↔ Q (.loc r) S1 := fun Q => by
    have at1 : atI (ps.map D.loc) (j : Int) = some (.loc r) := atI_of (by rw [List.getElem?_map, hr]; rfl)
    rw [wq_sbL en1]
    exact ⟨fun ⟨d, e, k⟩ => by rw [at1] at e; cases e; exact k, fun k => ⟨_, at1, k⟩⟩
  (simp! only [wp_fstS, wp_fldG, wp_fagS, wp_sagS, wp_mtE, wp_mkE, enx, kw1, kw2, sb1])
  rw [eD2]
  refine ⟨_, stD_lst hr1 (by rw [tied_len, kRow_len]; exact b2), ?_⟩
  have ka := kRow_addK (T := T) W K.nd hx hd hj
  have h2 : ChAt (S1.set r (.lst ((tied x d (j, (endR w x d).2) (kRow w L T (endR w x d).1) (endR w x d).1).set (endR w x d).2 (eD (s, d))))) g m le ps w L (addT w T x d) s := by
    refine h.tieK W K.nd hx hd hj hp hr (fun k h1 h2 => by rw [sto_ne (Ne.symm h2), f1 k h1]) ?_ ?_
    · by_cases e : r = p
      · subst e
        have : s = j := (List.getElem?_inj (List.getElem?_eq_some_iff.mp hp).1 h.pn).mp (by rw [hp, hr])
        subst this
        have e2 : x = (endR w x d).1 := by rw [hx] at hj; exact Option.some.inj hj
        rw [sto_set hr1, ka]
        have h3 : tied (endR w x d).1 (endR w x d).2 (s, d) (tied x d (s, (endR w x d).2) (kRow w L T x) x) x = (tied x d (s, (endR w x d).2) (kRow w L T x) x).set (endR w x d).2 (eD (s, d)) := by
          conv => lhs; unfold tied
          rw [if_pos e2]
          rfl
        rw [h3, ← e2]
      · rw [sto_ne e, hp1, ka]
        have hne : x ≠ (endR w x d).1 := fun z => by
          have : s = j := (List.getElem?_inj (List.getElem?_eq_some_iff.mp hx).1 K.nd).mp (by rw [hx, hj, ← z])
          subst this
          rw [hp] at hr
          exact e (Option.some.inj hr).symm
        unfold tied
        rw [if_neg hne, if_pos rfl]
    · rw [sto_set hr1, ka]
      conv => rhs; unfold tied
      rw [if_pos rfl]
      rfl
  have f2 : ∀ k, k ∉ ps → (S1.set r (.lst ((tied x d (j, (endR w x d).2) (kRow w L T (endR w x d).1) (endR w x d).1).set (endR w x d).2 (eD (s, d)))))[k]? = S[k]? := fun k hk => by rw [sto_ne (fun z => hk (by rw [← z]; exact hrm)), f1 k (fun z => hk (by rw [z]; exact hpm))]
  have l2 : (S1.set r (.lst ((tied x d (j, (endR w x d).2) (kRow w L T (endR w x d).1) (endR w x d).1).set (endR w x d).2 (eD (s, d))))).length = S.length := by rw [List.length_set, l1]
  generalize S1.set r (.lst ((tied x d (j, (endR w x d).2) (kRow w L T (endR w x d).1) (endR w x d).1).set (endR w x d).2 (eD (s, d)))) = S2 at h2 f2 l2 ⊢
  (simp! only [wp_fstS, wp_fldG, wp_fagS, wp_sagS, wp_mtE, wp_mkE, enx])
  have hjl : j < L.length := (List.getElem?_eq_some_iff.mp hj).1
  refine ⟨_, fst_at h2.ob (by simp) (by simp [Ch.fs]), ?_⟩
  exact q _ _ (h2.at_ hjl) (by rw [List.length_set, l2]) fun k h1 h2 => by rw [sto_ne (Ne.symm h1)]; exact f2 k h2
end
/-! P285 -/
section
variable {S : Sto} {w : Wb} {Q : D → Sto → Prop}
theorem ch_init_okK {g x : Nat} (hg : S[g]? = some (.ins "Chart" [])) (W : WebK w) (hx : x < w.length)
    (q : ∀ (S' : Sto) (m le p : Nat), ChAt S' g m le [p] w [x] [] 0 → S.length ≤ m → S.length ≤ le → S.length ≤ p → S.length ≤ S'.length → (∀ k, k < S.length → k ≠ g → S'[k]? = S[k]?) → Q .non S') : Wp (g_Chart___init__ [.loc g, mkD x, nD (rowD w x).length] S) Q := by
  unfold g_Chart___init__
  refine (wp_fnD (by rfl)).mpr ?_
  unfold b_Chart___init__
  have enx : ∀ n : Nat, nD n = D.int (n : Int) := fun _ => rfl
  have hd6 := W.doors _ _ (row_at hx)
  have hgl := sto_lt hg
  (simp! only [wp_fstS, wp_fldG, wp_fagS, wp_sagS, wp_mtE, wp_mkE, enx])
  have m1 : (S ++ [MO.lst [mkD x]])[S.length]? = some (.lst [mkD x]) := sto_new
  have g1 : (S ++ [MO.lst [mkD x]])[g]? = some (.ins "Chart" []) := (sto_app hgl).trans hg
  have f1 : ∀ k, k < S.length → (S ++ [MO.lst [mkD x]])[k]? = S[k]? := fun k hk => sto_app hk
  have l1 : (S ++ [MO.lst [mkD x]]).length = S.length + 1 := by simp
  generalize S ++ [MO.lst [mkD x]] = S1 at m1 g1 f1 l1 ⊢
  refine ⟨_, fst_at g1 (by simp) (by simp), ?_⟩
  have g2 : (S1.set g (.ins "Chart" (pF "marks" (.loc S.length) [])))[g]? = some (.ins "Chart" (pF "marks" (.loc S.length) [])) := sto_set g1
  have f2 : ∀ k, k ≠ g → (S1.set g (.ins "Chart" (pF "marks" (.loc S.length) [])))[k]? = S1[k]? := fun k hk => sto_ne (Ne.symm hk)
  have l2 : (S1.set g (.ins "Chart" (pF "marks" (.loc S.length) []))).length = S1.length := by simp
  generalize S1.set g (.ins "Chart" (pF "marks" (.loc S.length) [])) = S2 at g2 f2 l2 ⊢
  have hq0 : (S2 ++ [MO.lst [D.non]])[S2.length]? = some (.lst [.non]) := sto_new
  have f3 : ∀ k, k < S2.length → (S2 ++ [MO.lst [D.non]])[k]? = S2[k]? := fun k hk => sto_app hk
  have l3 : (S2 ++ [MO.lst [D.non]]).length = S2.length + 1 := by simp
  generalize S2 ++ [MO.lst [D.non]] = S3 at hq0 f3 l3 ⊢
  rw [wq_rep1 hq0 (by omega)]
  have p4 : (S3 ++ [MO.lst (List.replicate (rowD w x).length D.non)])[S3.length]? = some (.lst (List.replicate (rowD w x).length D.non)) := sto_new
  have f4 : ∀ k, k < S3.length → (S3 ++ [MO.lst (List.replicate (rowD w x).length D.non)])[k]? = S3[k]? := fun k hk => sto_app hk
  have l4 : (S3 ++ [MO.lst (List.replicate (rowD w x).length D.non)]).length = S3.length + 1 := by simp
  generalize S3 ++ [MO.lst (List.replicate (rowD w x).length D.non)] = S4 at p4 f4 l4 ⊢
  have e5 : (S4 ++ [MO.lst [D.loc S3.length]])[S4.length]? = some (.lst [D.loc S3.length]) := sto_new
  have f5 : ∀ k, k < S4.length → (S4 ++ [MO.lst [D.loc S3.length]])[k]? = S4[k]? := fun k hk => sto_app hk
  have l5 : (S4 ++ [MO.lst [D.loc S3.length]]).length = S4.length + 1 := by simp
  generalize S4 ++ [MO.lst [D.loc S3.length]] = S5 at e5 f5 l5 ⊢
  have g5 : S5[g]? = some (.ins "Chart" (pF "marks" (.loc S.length) [])) := by rw [f5 _ (by omega), f4 _ (by omega), f3 _ (by omega)]; exact g2
  have k1 := pF_len "marks" (.loc S.length) []
  have k0 : ([] : List (Str × D)).length = 0 := rfl
  have k2 := pF_len "ends" (.loc S4.length) (pF "marks" (.loc S.length) [])
  refine ⟨_, fst_at g5 (by simp) (by omega), ?_⟩
  have g6 : (S5.set g (.ins "Chart" (pF "ends" (.loc S4.length) (pF "marks" (.loc S.length) []))))[g]? = some (.ins "Chart" (pF "ends" (.loc S4.length) (pF "marks" (.loc S.length) []))) := sto_set g5
  refine ⟨_, fst_at g6 (by simp) (by omega), ?_⟩
  refine q _ S.length S4.length S3.length ⟨?_, ?_, ?_, rfl, fun i p y e1 e2 => ?_, by simp, ⟨hgl, by omega, by omega, fun p hp => ?_⟩, by simp⟩ (by omega) (by omega) (by omega) (by simp; omega) fun k hk hne => ?_
  · rw [sto_set g6]; rfl
  · rw [sto_ne (by omega), sto_ne (by omega), f5 _ (by omega), f4 _ (by omega), f3 _ (by omega), f2 _ (by omega)]; exact m1
  · rw [sto_ne (by omega), sto_ne (by omega)]; exact e5
  · have hi := (List.getElem?_eq_some_iff.mp e1).1
    simp at hi
    subst hi
    cases e1
    cases e2
    rw [sto_ne (by omega), sto_ne (by omega), f5 _ (by omega), p4, kRow_nil]
  · rw [List.mem_singleton.mp hp]; omega
  · rw [sto_ne (Ne.symm hne), sto_ne (Ne.symm hne), f5 _ (by omega), f4 _ (by omega), f3 _ (by omega), f2 _ hne, f1 _ hk]
end
/-! P288 -/
section
variable {S : Sto} {md o mn en z : Nat} {w : Wb} {L : List Nat} {T : List End} {x : Nat} {Q : D → Sto → Prop}
theorem begun_okK (W : WebK w) (hx : x < w.length) (q : ∀ (S' : Sto) (md o mn en : Nat), MdAt S' md o mn en 0 w [x] [] x → S.length ≤ md → S.length ≤ o → S.length ≤ mn → S.length ≤ en → S.length ≤ S'.length → (∀ k, k < S.length → S'[k]? = S[k]?) → Q (.loc md) S') : Wp (g_l_begun [mkD x, nD (rowD w x).length] S) Q := by
  unfold g_l_begun
  refine (wp_fnD (by rfl)).mpr ?_
  unfold b_l_begun
  (simp! only [])
  refine wp_d4S (by decide +kernel) ?_
  (simp! only [])
  refine wp_d1k (k := .inr (mkS x)) (fun T => rfl) rfl (fun T => rfl) ?_
  have l1 : (S ++ [MO.dK []] ++ [MO.lst [mkD x]]).length = S.length + 2 := by simp
  have l0 : (S ++ [MO.dK []]).length = S.length + 1 := by simp
  have a0 : (S ++ [MO.dK []] ++ [MO.lst [mkD x]])[S.length]? = some (.dK []) := (sto_app (by omega)).trans sto_new
  have a1 : (S ++ [MO.dK []] ++ [MO.lst [mkD x]])[(S ++ [MO.dK []]).length]? = some (.lst [mkD x]) := sto_new
  have f1 : ∀ k, k < S.length → (S ++ [MO.dK []] ++ [MO.lst [mkD x]])[k]? = S[k]? := fun k hk => by rw [sto_app (by omega), sto_app hk]
  rw [l0] at a1 ⊢
  generalize S ++ [MO.dK []] ++ [MO.lst [mkD x]] = S1 at l1 a0 a1 f1 ⊢
  have a2 : (S1 ++ [MO.dK [(Sum.inr (mkS x), nD (rowD w x).length)]])[S1.length]? = some (.dK (kvMn w [x])) := sto_new
  have f2 : ∀ k, k < S1.length → (S1 ++ [MO.dK [(Sum.inr (mkS x), nD (rowD w x).length)]])[k]? = S1[k]? := fun k hk => sto_app hk
  have l2 : (S1 ++ [MO.dK [(Sum.inr (mkS x), nD (rowD w x).length)]]).length = S1.length + 1 := by simp
  generalize S1 ++ [MO.dK [(Sum.inr (mkS x), nD (rowD w x).length)]] = S2 at a2 f2 l2 ⊢
  have a3 : (S2 ++ [MO.dT []])[S2.length]? = some (.dT []) := sto_new
  have f3 : ∀ k, k < S2.length → (S2 ++ [MO.dT []])[k]? = S2[k]? := fun k hk => sto_app hk
  have l3 : (S2 ++ [MO.dT []]).length = S2.length + 1 := by simp
  generalize S2 ++ [MO.dT []] = S3 at a3 f3 l3 ⊢
  have a4 : S3[S.length]? = some (.dK []) := by rw [f3 _ (by omega), f2 _ (by omega)]; exact a0
  refine ⟨a4, ?_⟩
  refine q _ S.length (S.length + 1) S1.length S2.length ⟨sto_set a4, ?_, ?_, ⟨[], ?_, by simp, fun y d _ _ => ?_⟩, by omega⟩ (by omega) (by omega) (by omega) (by omega) (by simp; omega) fun k hk => ?_
  · rw [sto_ne (by omega), f3 _ (by omega), f2 _ (by omega)]; exact a1
  · rw [sto_ne (by omega), f3 _ (by omega)]; exact a2
  · rw [sto_ne (by omega)]; exact a3
  · rw [if_neg (by unfold isKn; simp)]; rfl
  · rw [sto_ne (by omega), f3 _ (by omega), f2 _ (by omega), f1 _ hk]
theorem step_tail_okK {d n : Nat} {R : Out → Sto → Prop} (W : WebK w) (h : MdAt S md o mn en z w L T x) (hx : x < w.length) (hd : d < (rowD w x).length) (hz : z ≤ 100000)
    (q : ∀ (S' : Sto) (τ' : Tau), MdAt S' md o mn en (z + 2) w L (addT w T x d) (endR w x d).1 → (∀ kvs, S[en]? = some (.dT kvs) → S'[en]? = some (.dT (ptK (ptK kvs (kM2 x d) (mE2 (endR w x d))) (kM2 (endR w x d).1 (endR w x d).2) (mE2 (x, d))))) → S'.length = S.length → (∀ k, k ≠ md → k ≠ en → S'[k]? = S[k]?) → R (.nx τ') S') :
    Wp (StT56 [some (.loc md), some (nD d), some (nD (endR w x d).2), some (mkD (endR w x d).1), some (nD n)] S) R := by
  unfold StT56
  obtain ⟨b1, b2, b3⟩ := endR_backK W hd
  have hwf := W.few
  obtain ⟨kvs, e1, e2, e3⟩ := h.en_
  obtain ⟨n1, n2, n3, n4, n5, n6⟩ := h.ne
  (simp! only [md_ends h, md_at h])
  refine ⟨_, stD_M2 e1 (by omega), ?_⟩
  have g1 : (S.set en (.dT (ptK kvs (kM2 x d) (mE2 (endR w x d)))))[en]? = some (.dT (ptK kvs (kM2 x d) (mE2 (endR w x d)))) := sto_set e1
  have p1 := pt_len kvs (kM2 x d) (mE2 (endR w x d))
  have f1 : ∀ k, k ≠ en → (S.set en (.dT (ptK kvs (kM2 x d) (mE2 (endR w x d)))))[k]? = S[k]? := fun k hk => sto_ne (Ne.symm hk)
  have l1 : (S.set en (.dT (ptK kvs (kM2 x d) (mE2 (endR w x d))))).length = S.length := by simp
  have em : D.tup [mkD (endR w x d).1, nD (endR w x d).2] = mE2 (endR w x d) := rfl
  rw [em]
  generalize S.set en (.dT (ptK kvs (kM2 x d) (mE2 (endR w x d)))) = S1 at g1 f1 l1 ⊢
  have o1 := (f1 md n3).trans h.ob
  have sA : ∀ Q : D → Sto → Prop, Wp (sbD (.loc md) (.str (Str.ofString "at")) S1) Q ↔ Q (mkD x) S1 := fun Q => wq_sbS o1 rfl
  have sE : ∀ Q : D → Sto → Prop, Wp (sbD (.loc md) (.str (Str.ofString "ends")) S1) Q ↔ Q (.loc en) S1 := fun Q => wq_sbS o1 rfl
  (simp! only [sA, sE])
  refine ⟨_, stD_M2 g1 (by omega), ?_⟩
  have em2 : D.tup [mkD x, nD d] = mE2 (x, d) := rfl
  have g2 : (S1.set en (.dT (ptK (ptK kvs (kM2 x d) (mE2 (endR w x d))) (kM2 (endR w x d).1 (endR w x d).2) (mE2 (x, d)))))[en]? = some (.dT (ptK (ptK kvs (kM2 x d) (mE2 (endR w x d))) (kM2 (endR w x d).1 (endR w x d).2) (mE2 (x, d)))) := sto_set g1
  have p2 := pt_len (ptK kvs (kM2 x d) (mE2 (endR w x d))) (kM2 (endR w x d).1 (endR w x d).2) (mE2 (x, d))
  have f2 : ∀ k, k ≠ en → (S1.set en (.dT (ptK (ptK kvs (kM2 x d) (mE2 (endR w x d))) (kM2 (endR w x d).1 (endR w x d).2) (mE2 (x, d)))))[k]? = S1[k]? := fun k hk => sto_ne (Ne.symm hk)
  have l2 : (S1.set en (.dT (ptK (ptK kvs (kM2 x d) (mE2 (endR w x d))) (kM2 (endR w x d).1 (endR w x d).2) (mE2 (x, d))))).length = S1.length := by simp
  rw [em2]
  generalize S1.set en (.dT (ptK (ptK kvs (kM2 x d) (mE2 (endR w x d))) (kM2 (endR w x d).1 (endR w x d).2) (mE2 (x, d)))) = S2 at g2 f2 l2 ⊢
  have o2 := (f2 md n3).trans o1
  refine ⟨_, stD_S o2 (by simp [mdK]), ?_⟩
  have g3 : (S2.set md (.dK (ptK (mdK o mn en x) (.inr (Str.ofString "at")) (mkD (endR w x d).1))))[md]? = some (.dK (mdK o mn en (endR w x d).1)) := sto_set o2
  refine q _ _ ⟨g3, ?_, ?_, ⟨_, (sto_ne n3).trans g2, by omega, fun z t hz ht => ?_⟩, n1, n2, n3, n4, n5, n6⟩ (fun kvs' ek => by rw [e1] at ek; cases ek; exact (sto_ne n3).trans g2) (by simp; omega) fun k k1 k2 => ?_
  · rw [sto_ne n1, f2 _ n5, f1 _ n5]; exact h.or_
  · rw [sto_ne n2, f2 _ n6, f1 _ n6]; exact h.mn_
  · rw [lk_pt, lk_pt, e3 z t hz ht]
    have ka := isKn_add (w := w) (T := T) (x := x) (d := d) (y := z) (c := t)
    rw [endR_iffK W hd ht] at ka
    rw [addT_knK W ht] at ka
    have ee : ((endR w x d).1, (endR w x d).2) = endR w x d := rfl
    by_cases h1 : (z, t) = endR w x d
    · have hz1 : z = (endR w x d).1 := congrArg Prod.fst h1
      have ht1 : t = (endR w x d).2 := congrArg Prod.snd h1
      rw [if_pos (by rw [hz1, ht1]), if_pos (ka.mpr (.inr (.inr h1))), (endR_iffK W hd ht).mpr h1]
    · rw [if_neg fun y => h1 (by have := kM2_inj (by omega) (by omega) y; rw [this])]
      by_cases h2 : (z, t) = (x, d)
      · have hz1 : z = x := congrArg Prod.fst h2
        have ht1 : t = d := congrArg Prod.snd h2
        rw [if_pos (by rw [hz1, ht1]), if_pos (ka.mpr (.inr (.inl h2))), hz1, ht1]
      · rw [if_neg fun y => h2 (kM2_inj (by omega) (by omega) y)]
        by_cases h3 : isKn w T z t = true
        · rw [if_pos h3, if_pos (ka.mpr (.inl h3))]
        · rw [if_neg h3, if_neg fun y => ?_]
          rcases ka.mp y with y | y | y
          · exact h3 y
          · exact h2 y
          · exact h1 y
  · rw [sto_ne (Ne.symm k1), f2 k k2, f1 k k2]
theorem stepped_okK {d : Nat} (W : WebK w) (h : MdAt S md o mn en z w L T x) (K : Kc w L T) (hxm : x ∈ L) (hd : d < (rowD w x).length) (hz : z ≤ 100000)
    (q : ∀ S' : Sto, MdAt S' md o mn en (z + 2) w (metStep L (endR w x d)) (addT w T x d) (endR w x d).1 → (∀ kvs, S[en]? = some (.dT kvs) → S'[en]? = some (.dT (ptK (ptK kvs (kM2 x d) (mE2 (endR w x d))) (kM2 (endR w x d).1 (endR w x d).2) (mE2 (x, d))))) → S'.length = S.length → (∀ k, k ≠ md → k ≠ o → k ≠ mn → k ≠ en → S'[k]? = S[k]?) → Q .non S') :
    Wp (g_l_stepped [.loc md, nD d, nD (endR w x d).2, mkD (endR w x d).1, nD (rowD w (endR w x d).1).length] S) Q := by
  unfold g_l_stepped
  refine (wp_fnD (by rfl)).mpr ?_
  show Wp (seqS (ifS (tB (b2E notInD (vE 3) (b2E sbD (vE 0) (cE (.str "order"))))) (seqS (exS (mE appendM (b2E sbD (vE 0) (cE (.str "order"))) (consA (vE 3) nilA)))
    (asS (vE 4) (subG (b2E sbD (vE 0) (cE (.str "many"))) (vE 3)))) nxS) StT56 _ _) _
  have h26 := K.s26K W
  obtain ⟨b1, b2, b3⟩ := endR_backK W hd
  have hwf := W.few
  have hLw := K.few
  have hxl := K.lt x hxm
  have y26 : (endR w x d).1 < 26 := by omega
  obtain ⟨n1, n2, n3, n4, n5, n6⟩ := h.ne
  (simp! only [md_order h, wq_notInTr h.or_ (mkD_all h26) (mkD_gd y26), mkD_mem h26 y26])
  by_cases hy : (endR w x d).1 ∈ L
  · have em : metStep L (endR w x d) = L := by unfold metStep; rw [if_pos hy]
    rw [if_neg (by simp [hy])]
    refine step_tail_okK W h hxl hd hz fun S' τ' c ev l f => ?_
    rw [em] at q
    exact q S' c ev l fun k k1 _ _ k4 => f k k1 k4
  · have em : metStep L (endR w x d) = L ++ [(endR w x d).1] := by unfold metStep; rw [if_neg hy]
    rw [if_pos (by simp [hy])]
    rw [em] at q
    refine ⟨isLst_loc h.or_, (wq_append h.or_).mpr ⟨by rw [List.length_map]; omega, ?_⟩⟩
    have g1 : (S.set o (.lst (L.map mkD ++ [mkD (endR w x d).1])))[o]? = some (.lst ((L ++ [(endR w x d).1]).map mkD)) := by rw [List.map_append]; exact sto_set h.or_
    have f1 : ∀ k, k ≠ o → (S.set o (.lst (L.map mkD ++ [mkD (endR w x d).1])))[k]? = S[k]? := fun k hk => sto_ne (Ne.symm hk)
    have l1 : (S.set o (.lst (L.map mkD ++ [mkD (endR w x d).1]))).length = S.length := by simp
    generalize S.set o (.lst (L.map mkD ++ [mkD (endR w x d).1])) = S1 at g1 f1 l1 ⊢
    have o1 := (f1 md n1).trans h.ob
    have sM : ∀ Q : D → Sto → Prop, Wp (sbD (.loc md) (.str (Str.ofString "many")) S1) Q ↔ Q (.loc mn) S1 := fun Q => wq_sbS o1 rfl
    have m1 := (f1 mn (Ne.symm n4)).trans h.mn_
    refine (sM _).mpr ⟨_, stD_S m1 (by simp [kvMn]; omega), ?_⟩
    rw [pt_kvMn y26 h26 hy]
    have g2 : (S1.set mn (.dK (kvMn w (L ++ [(endR w x d).1]))))[mn]? = some (.dK (kvMn w (L ++ [(endR w x d).1]))) := sto_set m1
    have f2 : ∀ k, k ≠ mn → (S1.set mn (.dK (kvMn w (L ++ [(endR w x d).1]))))[k]? = S1[k]? := fun k hk => sto_ne (Ne.symm hk)
    have l2 : (S1.set mn (.dK (kvMn w (L ++ [(endR w x d).1])))).length = S1.length := by simp
    generalize S1.set mn (.dK (kvMn w (L ++ [(endR w x d).1]))) = S2 at g2 f2 l2 ⊢
    obtain ⟨kvs, e1, e2, e3⟩ := h.en_
    have h2 : MdAt S2 md o mn en z w (L ++ [(endR w x d).1]) T x := ⟨by rw [f2 _ n2]; exact o1, by rw [f2 _ n4]; exact g1, g2, ⟨kvs, by rw [f2 _ (Ne.symm n6), f1 _ (Ne.symm n5)]; exact e1, e2, e3⟩, n1, n2, n3, n4, n5, n6⟩
    refine step_tail_okK W h2 hxl hd hz fun S' τ' c ev l f => ?_
    exact q S' c (fun kvs' ek => ev kvs' (by rw [f2 _ (Ne.symm n6), f1 _ (Ne.symm n5)]; exact ek)) (by omega) fun k k1 k2 k3 k4 => by rw [f k k1 k4, f2 k k3, f1 k k2]
end
/-! P289 -/
section
variable {S : Sto} {md o mn en z : Nat} {w : Wb} {L : List Nat} {T : List End} {x : Nat} {Q : D → Sto → Prop}
theorem sketch_due_okK (W : WebK w) (h : MdAt S md o mn en z w L T x) (K : Kc w L T)
    (q : ∀ S' : Sto, S.length ≤ S'.length → (∀ k, k < S.length → S'[k]? = S[k]?) → Q (.tup (L.map fun x => .tup (kRow w L T x))) S') : Wp (g_l_sketch_due [.loc md] S) Q := by
  unfold g_l_sketch_due
  refine (wp_fnD (by rfl)).mpr ?_
  unfold b_l_sketch_due
  have h26 := K.s26K W
  have hwf := W.few
  have hLw := K.few
  have enx : ∀ n : Nat, nD n = D.int (n : Int) := fun _ => rfl
  have h1 := h.keep (S' := S ++ [MO.lst []]) fun k hk => sto_app hk
  have hf : (S ++ [MO.lst []])[S.length]? = some (.lst []) := sto_new
  have l1 : (S ++ [MO.lst []]).length = S.length + 1 := by simp
  have f1 : ∀ k, k < S.length → (S ++ [MO.lst []])[k]? = S[k]? := fun k hk => sto_app hk
  (simp! only [])
  generalize S ++ [MO.lst []] = S1 at h1 hf l1 f1 ⊢
  refine (md_order h1).mpr ?_
  refine ⟨_, src_loc h1.or_, ?_⟩
  refine lo_live _ _ (Sc56 S1 (.loc md) S.length w L T) ⟨_, _, _, _, rfl, hf, Nat.le_refl _, fun _ _ _ => rfl⟩ (fun i τ S' ⟨_, _, _, _, _, _, l, f⟩ => by rw [f o (h1.lt (.inr (.inl rfl))) (fun z => by have := h.lt (k := o) (.inr (.inl rfl)); omega)]; exact h1.or_) ?_ ?_
  · rintro i d τ S2 hd ⟨o2, o3, o4, o5, rfl, hf2, l2, f2⟩
    rw [List.getElem?_map] at hd
    obtain ⟨y, hy, rfl⟩ := Option.map_eq_some_iff.mp hd
    have hym := List.mem_of_getElem? hy
    have hyl := K.lt y hym
    have h66 := W.doors _ _ (row_at hyl)
    have h2 : MdAt S2 md o mn en z w L T x := h1.of fun k hk => f2 k (h1.lt hk) fun z => by have := h.lt hk; omega
    obtain ⟨kvs, e1, e2, e3⟩ := h2.en_
    refine ⟨_, pb_nm, ?_⟩
    (simp! only [md_many h2, sb_many h2 h26 hym, enx])
    refine ⟨by simp [big62]; omega, ?_⟩
    rw [Int.toNat_natCast]
    refine lc_rng 0 (rowD w y).length (by omega) (Sa56 S2 w T y) ⟨rfl, rfl⟩ ?_ ?_
    · rintro k acc S3 hk ⟨rfl, rfl⟩
      refine ⟨_, pb_nm, ?_⟩
      have e0 : ((0 : Int) + (k : Int)) = (k : Int) := by omega
      (simp! only [e0])
      refine wp_getM ?_
      (simp! only [md_ends h2])
      refine ⟨_, e1, y, k, ⟨rfl, rfl⟩, e1, ?_, rfl⟩
      rw [e3 y k hyl hk, List.range_succ, List.map_append]
      unfold vM
      by_cases hk2 : isKn w T y k = true
      · simp [hk2]
      · simp [hk2]
    · rintro acc S3 ⟨rfl, rfl⟩
      have hv : (S3 ++ [MO.lst ((List.range (rowD w y).length).map (vM w T y))])[S3.length]? = some (.lst ((List.range (rowD w y).length).map (vM w T y))) := sto_new
      have l4 : (S3 ++ [MO.lst ((List.range (rowD w y).length).map (vM w T y))]).length = S3.length + 1 := by simp
      have f4 : ∀ k, k < S3.length → (S3 ++ [MO.lst ((List.range (rowD w y).length).map (vM w T y))])[k]? = S3[k]? := fun k hk => sto_app hk
      generalize S3 ++ [MO.lst ((List.range (rowD w y).length).map (vM w T y))] = S4 at hv l4 f4 ⊢
      have hf4 := (f4 _ (sto_lt hf2)).trans hf2
      (simp! only [])
      refine ⟨isLst_loc hf4, _, src_loc hv, ?_⟩
      have h4 := h2.keep f4
      refine lc_live _ _ (by simp; omega) (Sb56 S4 w L T y) ⟨rfl, rfl⟩ (fun k acc S' h' => by rw [h'.2]; exact hv) ?_ ?_
      · rintro k d acc S5 hd ⟨rfl, rfl⟩
        rw [List.getElem?_map] at hd
        obtain ⟨t, ht, rfl⟩ := Option.map_eq_some_iff.mp hd
        have htl := (List.getElem?_eq_some_iff.mp ht).1
        rw [List.length_range] at htl
        rw [List.getElem?_range htl] at ht
        cases ht
        refine ⟨_, pb_nm, ?_⟩
        unfold vM
        by_cases hk2 : isKn w T y k = true
        · rw [if_pos hk2]
          have en : isNonD (mE2 (endR w y k)) = false := rfl
          obtain ⟨kn1, kn2⟩ := K.knownK W htl hk2
          have a0 : ∀ (S : Sto) (Q : D → Sto → Prop), Wp (sbD (mE2 (endR w y k)) (.int 0) S) Q ↔ Q (mkD (endR w y k).1) S := fun S Q => by
            unfold mE2
            rw [wq_sbT]
            exact ⟨fun ⟨z, e, k⟩ => by cases e; exact k, fun k => ⟨_, rfl, k⟩⟩
          have a1 : ∀ (S : Sto) (Q : D → Sto → Prop), Wp (sbD (mE2 (endR w y k)) (.int 1) S) Q ↔ Q (nD (endR w y k).2) S := fun S Q => by
            unfold mE2
            rw [wq_sbT]
            exact ⟨fun ⟨z, e, k⟩ => by cases e; exact k, fun k => ⟨_, rfl, k⟩⟩
          have e26 := h26 _ kn2
          (dsimp! only [wp_is_non, en, a0, a1, md_order h4])
          refine ⟨isLst_loc h4.or_, (wq_indexTr h4.or_ (mkD_all h26) (mkD_gd e26) ((mkD_mem h26 e26).mpr kn2)).mpr ?_⟩
          rw [mkD_idx e26 h26]
          refine ⟨?_, rfl⟩
          rw [List.range_succ, List.map_append]
          have : kEnd w L T y k = eD (L.idxOf (endR w y k).1, (endR w y k).2) := by unfold kEnd; rw [if_pos hk2]
          rw [List.map_singleton, this]; rfl
        · rw [if_neg hk2]
          have n1 : isNonD D.non = true := rfl
          (simp! only [wp_is_non, n1])
          refine ⟨?_, rfl⟩
          have : kEnd w L T y k = .non := by unfold kEnd; rw [if_neg hk2]
          rw [List.range_succ, List.map_append, List.map_singleton, this]
      · rintro acc S5 ⟨rfl, rfl⟩
        rw [List.length_map, List.length_range]
        have hk5 : (S5 ++ [MO.lst (kRow w L T y)])[S5.length]? = some (.lst (kRow w L T y)) := sto_new
        have hf6 : (S5 ++ [MO.lst (kRow w L T y)])[S.length]? = some (.lst ((L.take i).map fun x => .tup (kRow w L T x))) := (sto_app (sto_lt hf4)).trans hf4
        have ekr : (List.range (rowD w y).length).map (kEnd w L T y) = kRow w L T y := rfl
        rw [ekr, wq_tupleL hk5]
        refine (wq_append hf6).mpr ⟨by rw [List.length_map, List.length_take]; omega, ?_⟩
        refine ⟨_, _, _, _, rfl, ?_, by simp; omega, fun m hm hne => ?_⟩
        · rw [sto_set hf6, List.take_add_one, hy, List.map_append]; rfl
        · rw [sto_ne (Ne.symm hne), sto_app (by omega), f4 m (by omega)]; exact f2 m hm hne
  · rintro τ S2 ⟨o2, o3, o4, o5, rfl, hf2, l2, f2⟩
    rw [List.length_map, List.take_length] at hf2
    (simp! only [wq_tupleL hf2])
    exact q S2 (by omega) fun k hk => by rw [f2 k (by omega) (by omega)]; exact f1 k hk
theorem chart_right_okK {g m le s : Nat} {ps : List Nat} (W : WebK w) (hc : ChAt S g m le ps w L T s) (h : MdAt S md o mn en z w L T x) (K : Kc w L T) (hx : L[s]? = some x)
    (q : ∀ S' : Sto, S.length ≤ S'.length → (∀ k, k < S.length → S'[k]? = S[k]?) → Q (.bl true) S') : Wp (g_l_chart_right [.loc g, .loc md] S) Q := by
  unfold g_l_chart_right
  refine (wp_fnD (by rfl)).mpr ?_
  unfold b_l_chart_right
  have h26 := K.s26K W
  have hwf := W.few
  have hLw := K.few
  have x26 := h26 x (List.mem_of_getElem? hx)
  have enx : ∀ n : Nat, nD n = D.int (n : Int) := fun _ => rfl
  (simp! only [wp_fstS, wp_fldG, wp_fagS, wp_sagS, wp_mtE, wp_mkE, md_order h])
  refine ⟨_, src_loc h.or_, ?_⟩
  refine lc_live _ _ (by rw [List.length_map]; omega) (Ca56 S w L) ⟨rfl, rfl⟩ (fun k acc S' h' => by rw [h'.2]; exact h.or_) ?_ ?_
  · rintro i d acc S1 hd ⟨rfl, rfl⟩
    rw [List.getElem?_map] at hd
    obtain ⟨y, hy, rfl⟩ := Option.map_eq_some_iff.mp hd
    refine ⟨_, pb_nm, ?_⟩
    (simp! only [wp_fstS, wp_fldG, wp_fagS, wp_sagS, wp_mtE, wp_mkE, md_many h, sb_many h h26 (List.mem_of_getElem? hy)])
    refine ⟨?_, rfl⟩
    rw [List.take_add_one, hy, List.map_append]; rfl
  · rintro acc S1 ⟨rfl, rfl⟩
    rw [List.length_map, List.take_length]
    have ht : (S1 ++ [MO.lst (L.map (romD w))])[S1.length]? = some (.lst (L.map (romD w))) := sto_new
    rw [wq_tupleL ht]
    have f2 : ∀ k, k < S1.length → (S1 ++ [MO.lst (L.map (romD w))])[k]? = S1[k]? := fun k hk => sto_app hk
    have l2 : (S1 ++ [MO.lst (L.map (romD w))]).length = S1.length + 1 := by simp
    generalize S1 ++ [MO.lst (L.map (romD w))] = S2 at f2 l2 ⊢
    have hc2 := hc.of f2
    have h2 := h.keep f2
    refine ⟨ch_self hc2 rfl, ch_here hc2 ?_⟩
    rw [getD_of hx]
    (simp! only [wp_fstS, wp_fldG, wp_fagS, wp_sagS, wp_mtE, wp_mkE, md_at h2])
    rw [wq_neG (mkD_gd x26) (mkD_gd x26)]
    (simp! only [wp_fstS, wp_fldG, wp_fagS, wp_sagS, wp_mtE, wp_mkE, decide_true, Bool.not_true])
    refine ⟨ch_self hc2 rfl, rooms_okK W hc2 K fun S3 l3 f3 => ?_⟩
    rw [wq_neG (rom_gd h26) (rom_gd h26)]
    (simp! only [wp_fstS, wp_fldG, wp_fagS, wp_sagS, wp_mtE, wp_mkE, decide_true, Bool.not_true])
    have h3 := h2.keep f3
    refine sketch_due_okK W h3 K fun S4 l4 f4 => ?_
    have hc4 := (hc2.of f3).of f4
    (simp! only [wp_fstS, wp_fldG, wp_fagS, wp_sagS, wp_mtE, wp_mkE])
    have hf5 : (S4 ++ [MO.lst []])[S4.length]? = some (.lst []) := sto_new
    have f5 : ∀ k, k < S4.length → (S4 ++ [MO.lst []])[k]? = S4[k]? := fun k hk => sto_app hk
    have l5 : (S4 ++ [MO.lst []]).length = S4.length + 1 := by simp
    have hc5 := hc4.of f5
    generalize S4 ++ [MO.lst []] = S5 at hf5 f5 l5 hc5 ⊢
    (simp! only [wp_fstS, wp_fldG, wp_fagS, wp_sagS, wp_mtE, wp_mkE, len_tup, List.length_map])
    refine ⟨by simp [big62]; omega, ?_⟩
    rw [Int.toNat_natCast]
    refine lo_rng 0 L.length (Cc56 S5 g md _ _ S4.length w L T) ⟨_, _, _, rfl, by rw [hf5]; rfl, by simp [opA], Nat.le_refl _, fun _ _ _ => rfl⟩ ?_ ?_
    · rintro i τ S6 hi ⟨o5, o6, o7, rfl, hf6, lo6, l6, f6⟩
      have e0 : ((0 : Int) + (i : Int)) = (i : Int) := by omega
      obtain ⟨him, hit⟩ := getD_mem hi
      have hil := K.lt _ him
      have h66 := W.doors _ _ (row_at hil)
      have hrow : ∀ (S : Sto) (Q : D → Sto → Prop), Wp (sbD (.tup (L.map fun x => .tup (kRow w L T x))) (.int (i : Int)) S) Q ↔ Q (.tup (kRow w L T (L.getD i 0))) S := fun S Q => by
        rw [wq_sbT]
        have at1 : atI (L.map fun x => D.tup (kRow w L T x)) (i : Int) = some (.tup (kRow w L T (L.getD i 0))) := atI_of (by rw [List.getElem?_map, hit]; rfl)
        exact ⟨fun ⟨d, e, k⟩ => by rw [at1] at e; cases e; exact k, fun k => ⟨_, at1, k⟩⟩
      rw [e0]
      refine ⟨_, pb_nm, ?_⟩
      (dsimp! only [hrow])
      refine ⟨isLst_loc hf6, by rw [kRow_len]; simp [big62, -List.getD_eq_getElem?_getD]; omega, ?_⟩
      rw [Int.toNat_natCast, kRow_len]
      refine lc_rng 0 (rowD w (L.getD i 0)).length (by omega) (Cb56 S6 w L T i) ⟨rfl, rfl⟩ ?_ ?_
      · rintro k acc S7 hk ⟨rfl, rfl⟩
        refine ⟨_, pb_nm, ?_⟩
        have e0 : ((0 : Int) + (k : Int)) = (k : Int) := by omega
        have hend : ∀ (S : Sto) (Q : D → Sto → Prop), Wp (sbD (.tup (kRow w L T (L.getD i 0))) (.int (k : Int)) S) Q ↔ Q (kEnd w L T (L.getD i 0) k) S := fun S Q => by
          rw [wq_sbT]
          have at1 : atI (kRow w L T (L.getD i 0)) (k : Int) = some (kEnd w L T (L.getD i 0) k) := atI_of (kRow_at hk)
          exact ⟨fun ⟨d, e, k⟩ => by rw [at1] at e; cases e; exact k, fun k => ⟨_, at1, k⟩⟩
        have en : isNonD (kEnd w L T (L.getD i 0) k) = !isKn w T (L.getD i 0) k := by
          unfold kEnd
          by_cases hk : isKn w T (L.getD i 0) k = true
          · rw [if_pos hk, hk]; rfl
          · rw [if_neg hk]
            have : isKn w T (L.getD i 0) k = false := by simpa using hk
            rw [this]; rfl
        (dsimp! only [e0, hrow, hend, wp_is_non, en])
        by_cases hk2 : isKn w T (L.getD i 0) k = false
        · rw [if_pos hk2]
          refine ⟨?_, rfl⟩
          rw [List.range_succ, List.filter_append, List.map_append, List.map_append]
          simp [hk2, -List.getD_eq_getElem?_getD]; rfl
        · rw [if_neg hk2]
          have hk3 : isKn w T (L.getD i 0) k = true := by simpa using hk2
          refine ⟨?_, rfl⟩
          rw [List.range_succ, List.filter_append, List.map_append, List.map_append]
          simp [hk3, -List.getD_eq_getElem?_getD]
      · rintro acc S7 ⟨rfl, rfl⟩
        have eo : ((List.range (rowD w (L.getD i 0)).length).filter fun d => !isKn w T (L.getD i 0) d) = opL w T (L.getD i 0) := rfl
        rw [eo]
        have hol := opL_len (w := w) (T := T) (x := L.getD i 0)
        have hn : (S7 ++ [MO.lst (((opL w T (L.getD i 0)).map fun d => (i, d)).map eD)])[S7.length]? = some (.lst (((opL w T (L.getD i 0)).map fun d => (i, d)).map eD)) := sto_new
        have e3 : (S7 ++ [MO.lst (((opL w T (L.getD i 0)).map fun d => (i, d)).map eD)])[S4.length]? = some (.lst ((opA w L T i).map eD)) := by rw [sto_app (sto_lt hf6)]; exact hf6
        rw [wq_extend e3 hn]
        refine ⟨by rw [List.length_map, List.length_map, List.length_map]; omega, _, _, _, rfl, ?_, by rw [opA_succ, List.length_append, List.length_map]; omega, by simp; omega, fun k hk hne => ?_⟩
        · rw [sto_set e3, opA_succ, List.map_append]
        · rw [sto_ne (Ne.symm hne), sto_app (by omega)]; exact f6 k hk hne
    · rintro τ S6 ⟨o5, o6, o7, rfl, hf6, lo6, l6, f6⟩
      have hc6 : ChAt S6 g m le ps w L T s := hc5.ofO fun k o => f6 k (hc5.ltO o) fun z => by have := hc4.ltO o; omega
      (simp! only [wp_fstS, wp_fldG, wp_fagS, wp_sagS, wp_mtE, wp_mkE, wp_andE])
      refine ⟨ch_self hc6 rfl, sketch_okK W hc6 K fun S7 l7 f7 => ?_⟩
      rw [wq_eqG row_gd row_gd]
      have hc7 := hc6.of f7
      (simp! only [wp_fstS, wp_fldG, wp_fagS, wp_sagS, wp_mtE, wp_mkE, decide_true])
      refine ⟨ch_self hc7 rfl, open_doors_okK W hc7 K fun S8 e8 l8 f8 => ?_⟩
      have hf8 : S8[S4.length]? = some (.lst ((opA w L T L.length).map eD)) := by rw [f8 _ (by have := sto_lt hf6; omega), f7 _ (sto_lt hf6)]; exact hf6
      rw [wq_eqTr e8 hf8 eD_all eD_all, decide_eq_true rfl]
      exact q S8 (by omega) fun k hk => by rw [f8 k (by omega), f7 k (by omega), f6 k (by omega) (by omega), f5 k (by omega), f4 k (by omega), f3 k (by omega)]; exact f2 k hk
end
end SW
namespace SW
open PySem L2

/-! plain runs of exceptions with fields -/
section
variable {τ : Tau} {S : Sto}
theorem wp_raiseF {c : String} {f : Str} {fa : EvA} {Q : Out → Sto → Prop} : Wp (raiseF c f fa τ S) Q ↔ Wp (fa τ S) fun ds S1 => ∃ d0 y, ds = [d0, y] ∧ Q (.ex c [(f, y)] τ) S1 := by
  unfold raiseF; rw [wp_bind]
  constructor
  · rintro ⟨ds, S1, e, q⟩
    refine ⟨ds, S1, e, ?_⟩
    split at q
    · rename_i d0 y heq
      exact ⟨d0, y, heq, wp_some.mp q⟩
    · exact (wp_none.mp q).elim
  · rintro ⟨ds, S1, e, d0, y, rfl, q⟩
    exact ⟨_, S1, e, wp_some.mpr q⟩
def TkF (subs : List String) (i j : Nat) (Q : Out → Sto → Prop) : Out → Sto → Prop := fun o S => match o with
  | .ex c fs τ1 => c ∈ subs ∧ Q (.nx ((τ1.set i none).set j (some (.loc S.length)))) (S ++ [.exn c fs])
  | o => Q o S
theorem wp_tryF {subs : List String} {i j : Nat} {f : EvS} {Q : Out → Sto → Prop} : Wp (tryF subs i j f τ S) Q ↔ Wp (f τ S) (TkF subs i j Q) := by
  unfold tryF; rw [wp_bind]
  constructor
  · rintro ⟨o, S1, e, q⟩
    refine ⟨o, S1, e, ?_⟩
    cases o with
    | ex c fs τ1 =>
      simp only at q
      split at q
      · rename_i h; exact ⟨h, wp_some.mp q⟩
      · exact (wp_none.mp q).elim
    | nx τ1 => exact (wp_some (Q := Q)).mp q
    | rt d => exact (wp_some (Q := Q)).mp q
    | bk τ1 => exact (wp_some (Q := Q)).mp q
    | ct τ1 => exact (wp_some (Q := Q)).mp q
  · rintro ⟨o, S1, e, q⟩
    refine ⟨o, S1, e, ?_⟩
    cases o with
    | ex c fs τ1 =>
      obtain ⟨h, q⟩ := q
      simp only
      rw [if_pos h]
      exact wp_some.mpr q
    | nx τ1 => exact (wp_some (Q := Q)).mpr q
    | rt d => exact (wp_some (Q := Q)).mpr q
    | bk τ1 => exact (wp_some (Q := Q)).mpr q
    | ct τ1 => exact (wp_some (Q := Q)).mpr q
theorem wq_isF {n : Nat} {c : String} {fs : List (Str × D)} {tbl : List (String × Bool)} {b : Bool} {Q : D → Sto → Prop} (h : S[n]? = some (.exn c fs)) (hb : tbl.lookup c = some b) : Wp (isExF tbl (.loc n) S) Q ↔ Q (.bl b) S := by
  have : isExF tbl (.loc n) S = some (.bl b, S) := by unfold isExF; simp only [h, hb, Option.map_some]
  rw [this]; exact wp_some
theorem wq_xf {n : Nat} {c : String} {f : Str} {fs : List (Str × D)} {d : D} {Q : D → Sto → Prop} (h : S[n]? = some (.exn c fs)) (hb : fs.lookup f = some d) : Wp (xfD c f (.loc n) S) Q ↔ Q d S := by
  have : xfD c f (.loc n) S = some (d, S) := by unfold xfD; simp only [h, if_pos, hb, Option.map_some]
  rw [this]; exact wp_some
end
/-! a web by a table -/
def tabW (ln : Nat → Nat) (en : Nat → Nat → End) : Wb := (List.range 12).map fun z => (List.range (ln z)).map (en z)
section
variable {ln : Nat → Nat} {en : Nat → Nat → End}
theorem tab_len : (tabW ln en).length = 12 := by simp [tabW]
theorem tab_row {z : Nat} (hz : z < 12) : rowD (tabW ln en) z = (List.range (ln z)).map (en z) := by
  unfold rowD tabW
  rw [List.getElem?_map, List.getElem?_range hz]; rfl
theorem tab_rl {z : Nat} (hz : z < 12) : (rowD (tabW ln en) z).length = ln z := by rw [tab_row hz]; simp
theorem tab_end {z t : Nat} (hz : z < 12) (ht : t < ln z) : endR (tabW ln en) z t = en z t := by
  unfold endR
  rw [tab_row hz, List.getElem?_map, List.getElem?_range ht]; rfl
theorem tab_web (h6 : ∀ z, z < 12 → ln z ≤ 6) (hb : ∀ z t, z < 12 → t < ln z → (en z t).1 < 12 ∧ (en z t).2 < ln (en z t).1 ∧ en (en z t).1 (en z t).2 = (z, t)) : WebK (tabW ln en) := by
  refine ⟨fun r i s j h => ?_, by rw [tab_len]; omega, by rw [tab_len]; omega, fun r x h => ?_⟩
  · have h1 := rowD_at.mpr h
    by_cases hr : r < 12
    · rw [tab_row hr, List.getElem?_map] at h1
      obtain ⟨t, ht, e⟩ := Option.map_eq_some_iff.mp h1
      have hil : i < ln r := by have := (List.getElem?_eq_some_iff.mp ht).1; simpa using this
      rw [List.getElem?_range hil] at ht
      cases ht
      obtain ⟨b1, b2, b3⟩ := hb r i hr hil
      rw [e] at b1 b2 b3
      refine rowD_at.mp ?_
      rw [tab_row b1, List.getElem?_map, List.getElem?_range b2]
      exact congrArg some b3
    · have : rowD (tabW ln en) r = [] := by
        unfold rowD
        rw [List.getElem?_eq_none (by rw [tab_len]; omega)]; rfl
      rw [this] at h1; cases h1
  · have hr : r < 12 := by have := (List.getElem?_eq_some_iff.mp h).1; rw [tab_len] at this; exact this
    have h2 : rowD (tabW ln en) r = x := by unfold rowD; rw [h]; rfl
    rw [← h2, tab_rl hr]
    exact h6 r hr
end
/-! k57: what is charted, as a web whose other doors lead to themselves -/
structure Ff (w : Wb) (L : List Nat) (T : List End) : Prop where
  wk : WebK w
  ln : w.length = 12
  kc : Kc w L T
  un : ∀ x d, x < 12 → d < (rowD w x).length → ¬ isKn w T x d = true → endR w x d = (x, d)
  six : ∀ y, y < 12 → y ∉ L → (rowD w y).length = 6
def w57 (n : Nat) : Wb := tabW (fun z => if z = 1 then n else 6) fun z t => (z, t)
theorem ff57 {n : Nat} (hn : n ≤ 6) : Ff (w57 n) [1] [] ∧ (rowD (w57 n) 1).length = n := by
  have l1 : (rowD (w57 n) 1).length = n := by unfold w57; rw [tab_rl (by omega)]; rfl
  refine ⟨⟨tab_web (fun z _ => by split <;> omega) fun z t hz ht => ⟨hz, ht, rfl⟩, tab_len, ⟨fun x hx => ?_, by simp, fun t ht => by cases ht⟩, fun x d hx hd _ => ?_, fun y hy hn => ?_⟩, l1⟩
  · rw [List.mem_singleton.mp hx]; unfold w57; rw [tab_len]; omega
  · unfold w57 at hd ⊢
    rw [tab_rl hx] at hd
    exact tab_end hx hd
  · unfold w57
    rw [tab_rl hy, if_neg (by simpa using hn)]
/-- another web for what is charted, alike in all that is known -/
structure Sw (w w' : Wb) (L : List Nat) (T : List End) : Prop where
  ln : ∀ z ∈ L, (rowD w' z).length = (rowD w z).length
  kn : ∀ z t, z < 12 → t < (rowD w' z).length → t < (rowD w z).length → isKn w' T z t = isKn w T z t ∧ (isKn w T z t = true → endR w' z t = endR w z t)
theorem Sw.kRow {w w' : Wb} {L : List Nat} {T : List End} (h : Sw w w' L T) (hL : ∀ z ∈ L, z < 12) {z : Nat} (hz : z ∈ L) : kRow w' L T z = kRow w L T z := by
  unfold SW.kRow
  rw [h.ln z hz]
  refine List.map_congr_left fun t ht => ?_
  rw [List.mem_range] at ht
  obtain ⟨h1, h2⟩ := h.kn z t (hL z hz) (by rw [h.ln z hz]; exact ht) ht
  unfold kEnd
  rw [h1]
  by_cases hk : isKn w T z t = true
  · rw [if_pos hk, if_pos hk, h2 hk]
  · rw [if_neg hk, if_neg hk]
theorem Sw.ch {w w' : Wb} {L : List Nat} {T : List End} {S : Sto} {g m le s : Nat} {ps : List Nat} (h : Sw w w' L T) (hL : ∀ z ∈ L, z < 12) (c : ChAt S g m le ps w L T s) : ChAt S g m le ps w' L T s :=
  ⟨c.ob, c.ml, c.en, c.pl, fun i p x h1 h2 => by rw [h.kRow hL (List.mem_of_getElem? h2)]; exact c.rw i p x h1 h2, c.pn, c.od, c.sl⟩
theorem Sw.md {w w' : Wb} {L : List Nat} {T : List End} {S : Sto} {md o mn en z x : Nat} (h : Sw w w' L T) (h12 : w.length = 12) (h12' : w'.length = 12) (hle : ∀ y, y < 12 → (rowD w' y).length ≤ (rowD w y).length) (c : MdAt S md o mn en z w L T x) : MdAt S md o mn en z w' L T x := by
  obtain ⟨kvs, e1, e2, e3⟩ := c.en_
  refine ⟨c.ob, c.or_, ?_, ⟨kvs, e1, e2, fun y d hy hd => ?_⟩, c.ne⟩
  · have : kvMn w' L = kvMn w L := by
      unfold kvMn
      exact List.map_congr_left fun y hy => by rw [h.ln y hy]
    rw [this]; exact c.mn_
  · rw [h12'] at hy
    have hd2 := Nat.lt_of_lt_of_le hd (hle y hy)
    obtain ⟨h1, h2⟩ := h.kn y d hy hd hd2
    rw [e3 y d (by omega) hd2, h1]
    by_cases hk : isKn w T y d = true
    · rw [if_pos hk, if_pos hk, h2 hk]
    · rw [if_neg hk, if_neg hk]
def en57 (w : Wb) (L : List Nat) (x d y c : Nat) (z t : Nat) : End := if (z, t) = (x, d) then (y, c) else if (z, t) = (y, c) then (x, d) else if z = y ∧ y ∉ L then (z, t) else endR w z t
def st57 (w : Wb) (L : List Nat) (x d y c n : Nat) : Wb := tabW (fun z => if z = y then n else (rowD w z).length) (en57 w L x d y c)
/-- a step that may be: the web in which it is so -/
theorem step57 {w : Wb} {L : List Nat} {T : List End} {x d y c n : Nat} (F : Ff w L T) (hx : x ∈ L) (hd : d < (rowD w x).length) (hy : y < 12) (hc : c < n) (hn : n ≤ 6) (hl : y ∈ L → (rowD w y).length = n) (u1 : ¬ isKn w T x d = true) (u2 : y ∈ L → ¬ isKn w T y c = true) :
    WebK (st57 w L x d y c n) ∧ (st57 w L x d y c n).length = 12 ∧ Sw w (st57 w L x d y c n) L T ∧ (∀ z, z < 12 → (rowD (st57 w L x d y c n) z).length ≤ (rowD w z).length) ∧ endR (st57 w L x d y c n) x d = (y, c) ∧ (rowD (st57 w L x d y c n) y).length = n ∧
      (∀ z, z < 12 → z ≠ y → (rowD (st57 w L x d y c n) z).length = (rowD w z).length) ∧
      (∀ z t, z < 12 → t < (rowD (st57 w L x d y c n) z).length → (z, t) ≠ (x, d) → (z, t) ≠ (y, c) → ¬ isKn w T z t = true → endR (st57 w L x d y c n) z t = (z, t)) := by
  have hL : ∀ z ∈ L, z < 12 := fun z hz => by have := F.kc.lt z hz; rw [F.ln] at this; exact this
  have hx12 := hL x hx
  have rl : ∀ z, z < 12 → (rowD (st57 w L x d y c n) z).length = if z = y then n else (rowD w z).length := fun z hz => tab_rl hz
  have ne : ∀ z t, z < 12 → t < (if z = y then n else (rowD w z).length) → endR (st57 w L x d y c n) z t = en57 w L x d y c z t := fun z t hz ht => tab_end hz ht
  have hle : ∀ z, z < 12 → (if z = y then n else (rowD w z).length) ≤ (rowD w z).length := fun z hz => by
    by_cases e : z = y
    · rw [if_pos e]
      by_cases hm : y ∈ L
      · have := hl hm
        rw [e]; omega
      · have := F.six y hy hm
        rw [e]; omega
    · rw [if_neg e]; exact Nat.le_refl _
  have dx : d < (if x = y then n else (rowD w x).length) := by
    by_cases e : x = y
    · subst e; rw [if_pos rfl, ← hl hx]; exact hd
    · rw [if_neg e]; exact hd
  have cy : c < (if y = y then n else (rowD w y).length) := by rw [if_pos rfl]; exact hc
  have exd : endR w x d = (x, d) := F.un x d hx12 hd u1
  have eyc : y ∈ L → endR w y c = (y, c) := fun h => F.un y c hy (by rw [hl h]; exact hc) (u2 h)
  have kny : ∀ t, y ∉ L → t < (rowD w y).length → ¬ isKn w T y t = true := fun t hm htl hk => by
    rcases isKn_iff.mp hk with h | h
    · exact hm (F.kc.vt _ h).1
    · have := (F.kc.vt _ h).2.2
      rw [(endR_backK F.wk htl).2.2] at this
      exact hm this
  have back : ∀ z t, z < 12 → t < (if z = y then n else (rowD w z).length) → (en57 w L x d y c z t).1 < 12 ∧ (en57 w L x d y c z t).2 < (if (en57 w L x d y c z t).1 = y then n else (rowD w (en57 w L x d y c z t).1).length) ∧ en57 w L x d y c (en57 w L x d y c z t).1 (en57 w L x d y c z t).2 = (z, t) := by
    intro z t hz ht
    by_cases h1 : (z, t) = (x, d)
    · have e : en57 w L x d y c z t = (y, c) := by unfold en57; rw [if_pos h1]
      rw [e]
      refine ⟨hy, cy, ?_⟩
      unfold en57
      by_cases h2 : (y, c) = (x, d)
      · rw [if_pos h2, h1, h2]
      · rw [if_neg h2, if_pos rfl, h1]
    · by_cases h2 : (z, t) = (y, c)
      · have e : en57 w L x d y c z t = (x, d) := by unfold en57; rw [if_neg h1, if_pos h2]
        rw [e]
        refine ⟨hx12, dx, ?_⟩
        unfold en57
        rw [if_pos rfl, h2]
      · by_cases h3 : z = y ∧ y ∉ L
        · have e : en57 w L x d y c z t = (z, t) := by unfold en57; rw [if_neg h1, if_neg h2, if_pos h3]
          rw [e]
          exact ⟨hz, ht, e⟩
        · have e : en57 w L x d y c z t = endR w z t := by unfold en57; rw [if_neg h1, if_neg h2, if_neg h3]
          have htl : t < (rowD w z).length := Nat.lt_of_lt_of_le ht (hle z hz)
          obtain ⟨b1, b2, b3⟩ := endR_backK F.wk htl
          rw [F.ln] at b1
          rw [e]
          have n1 : ((endR w z t).1, (endR w z t).2) ≠ (x, d) := fun q => by
            have q : endR w z t = (x, d) := q
            rw [q, exd] at b3
            exact h1 b3.symm
          have n3 : ¬ ((endR w z t).1 = y ∧ y ∉ L) := fun ⟨q1, q2⟩ => by
            by_cases hk : isKn w T z t = true
            · have := (F.kc.knownK F.wk htl hk).2
              rw [q1] at this; exact q2 this
            · rw [F.un z t hz htl hk] at q1
              exact h3 ⟨q1, q2⟩
          have n2 : ((endR w z t).1, (endR w z t).2) ≠ (y, c) := fun q => by
            have q : endR w z t = (y, c) := q
            have hm : y ∈ L := Classical.byContradiction fun hm => n3 ⟨congrArg Prod.fst q, hm⟩
            rw [q, eyc hm] at b3
            exact h2 b3.symm
          refine ⟨b1, ?_, ?_⟩
          · by_cases e2 : (endR w z t).1 = y
            · rw [if_pos e2]
              have hm : y ∈ L := Classical.byContradiction fun hm => n3 ⟨e2, hm⟩
              rw [e2, hl hm] at b2
              exact b2
            · rw [if_neg e2]; exact b2
          · have : en57 w L x d y c (endR w z t).1 (endR w z t).2 = endR w (endR w z t).1 (endR w z t).2 := by
              conv => lhs; unfold en57
              rw [if_neg n1, if_neg n2, if_neg n3]
            rw [this]; exact b3
  have W' : WebK (st57 w L x d y c n) := tab_web (fun z hz => by
    have h1 := hle z hz
    have h2 := F.wk.doors _ _ (row_at (w := w) (x := z) (by rw [F.ln]; exact hz))
    omega) back
  have tz : ∀ z t, (z, t) ∈ T → (z, t) ≠ (x, d) ∧ (z, t) ≠ (y, c) ∧ ¬ (z = y ∧ y ∉ L) := fun z t ht => by
    refine ⟨fun q => u1 (isKn_iff.mpr (.inl (q ▸ ht))), fun q => ?_, fun ⟨q1, q2⟩ => q2 (q1 ▸ (F.kc.vt _ ht).1)⟩
    have hm : y ∈ L := by have := (F.kc.vt _ ht).1; rw [q] at this; exact this
    exact u2 hm (isKn_iff.mpr (.inl (q ▸ ht)))
  have knw : ∀ z t, z < 12 → t < (if z = y then n else (rowD w z).length) → (isKn (st57 w L x d y c n) T z t = isKn w T z t) ∧ (isKn w T z t = true → endR (st57 w L x d y c n) z t = endR w z t) := by
    intro z t hz ht
    have htl : t < (rowD w z).length := Nat.lt_of_lt_of_le ht (hle z hz)
    by_cases h1 : (z, t) = (x, d)
    · have nk : ¬ isKn w T z t = true := by
        have a : z = x := congrArg Prod.fst h1
        have b : t = d := congrArg Prod.snd h1
        rw [a, b]; exact u1
      refine ⟨?_, fun h => (nk h).elim⟩
      rw [Bool.eq_iff_iff]
      refine ⟨fun h => ?_, fun h => (nk h).elim⟩
      rcases isKn_iff.mp h with h | h
      · exact ((tz z t h).1 h1).elim
      · rw [ne z t hz ht] at h
        have e : en57 w L x d y c z t = (y, c) := by unfold en57; rw [if_pos h1]
        rw [e] at h
        exact ((tz y c h).2.1 rfl).elim
    · by_cases h2 : (z, t) = (y, c)
      · have nk : ¬ isKn w T z t = true := by
          have a : z = y := congrArg Prod.fst h2
          have b : t = c := congrArg Prod.snd h2
          rw [a, b]
          by_cases hm : y ∈ L
          · exact u2 hm
          · exact kny c hm (by rw [← b, ← a]; exact htl)
        refine ⟨?_, fun h => (nk h).elim⟩
        rw [Bool.eq_iff_iff]
        refine ⟨fun h => ?_, fun h => (nk h).elim⟩
        rcases isKn_iff.mp h with h | h
        · exact ((tz z t h).2.1 h2).elim
        · rw [ne z t hz ht] at h
          have e : en57 w L x d y c z t = (x, d) := by unfold en57; rw [if_neg h1, if_pos h2]
          rw [e] at h
          exact ((tz x d h).1 rfl).elim
      · by_cases h3 : z = y ∧ y ∉ L
        · have nk : ¬ isKn w T z t = true := by rw [h3.1]; exact kny t h3.2 (by rw [← h3.1]; exact htl)
          refine ⟨?_, fun h => (nk h).elim⟩
          rw [Bool.eq_iff_iff]
          refine ⟨fun h => ?_, fun h => (nk h).elim⟩
          rcases isKn_iff.mp h with h | h
          · exact ((tz z t h).2.2 h3).elim
          · rw [ne z t hz ht] at h
            have e : en57 w L x d y c z t = (z, t) := by unfold en57; rw [if_neg h1, if_neg h2, if_pos h3]
            rw [e] at h
            exact ((tz z t h).2.2 h3).elim
        · have e : endR (st57 w L x d y c n) z t = endR w z t := by
            rw [ne z t hz ht]; unfold en57; rw [if_neg h1, if_neg h2, if_neg h3]
          exact ⟨by unfold isKn; rw [e], fun _ => e⟩
  refine ⟨W', tab_len, ⟨fun z hz => ?_, fun z t hz h1 h2 => knw z t hz (by rw [rl z hz] at h1; exact h1)⟩, fun z hz => by rw [rl z hz]; exact hle z hz, ?_, ?_, fun z hz e => by rw [rl z hz, if_neg e], fun z t hz ht n1 n2 nk => ?_⟩
  · rw [rl z (hL z hz)]
    by_cases e : z = y
    · subst e; rw [if_pos rfl, hl hz]
    · rw [if_neg e]
  · rw [ne x d hx12 dx]; unfold en57; rw [if_pos rfl]
  · rw [rl y hy, if_pos rfl]
  · rw [rl z hz] at ht
    rw [ne z t hz ht]
    unfold en57
    rw [if_neg n1, if_neg n2]
    by_cases h3 : z = y ∧ y ∉ L
    · rw [if_pos h3]
    · rw [if_neg h3]
      exact F.un z t hz (Nat.lt_of_lt_of_le ht (hle z hz)) nk
end SW
namespace SW
open PySem L2

/-! k57: a step told, refused or done -/
def Ws57 : EvS := (seqS (ifS (tB (b2E notInD (vE 3) (u1E (fldD ["Chart"] "marks") (vE 0)))) (seqS (exS (mE appendM (u1E (fldD ["Chart"] "marks") (vE 0)) (consA (vE 3) nilA)))
  (exS (mE appendM (u1E (fldD ["Chart"] "ends") (vE 0)) (consA (b2E mulD (aE lstD (consA (cE .non) nilA)) (vE 4)) nilA)))) nxS)
  WtT)
section
variable {S : Sto} {g m le s : Nat} {ps : List Nat} {w : Wb} {L : List Nat} {T : List End} {x d n y c : Nat}
theorem went_rest {Q : Out → Sto → Prop} {o : Option D} (h : ChAt S g m le ps w L T s) (W : WebK w) (K : Kc w L T) (hx : L[s]? = some x) (hd : d < (rowD w x).length)
    (q : ∀ (S' : Sto) (τ' : Tau) (ps' : List Nat), ChAt S' g m le ps' w (metStep L (endR w x d)) (addT w T x d) ((metStep L (endR w x d)).idxOf (endR w x d).1) → S.length ≤ S'.length → (∀ k, k < S.length → k ≠ g → k ≠ m → k ≠ le → k ∉ ps → S'[k]? = S[k]?) → (∀ p ∈ ps', p ∈ ps ∨ S.length ≤ p) → Q (.nx τ') S') :
    Wp (Ws57 [some (.loc g), some (nD d), some (nD (endR w x d).2), some (mkD (endR w x d).1), some (nD (rowD w (endR w x d).1).length), o] S) Q := by
  unfold Ws57
  have enx : ∀ n : Nat, nD n = D.int (n : Int) := fun _ => rfl
  have h26 := K.s26K W
  obtain ⟨b1, b2, b3⟩ := endR_backK W hd
  have hwf := W.few
  have hLw := K.few
  have y26 : (endR w x d).1 < 26 := by omega
  have hd6 := W.doors _ _ (row_at b1)
  (simp! only [wp_fstS, wp_fldG, wp_fagS, wp_sagS, wp_mtE, wp_mkE, enx, ch_marks h, wq_notInTr h.ml (mkD_all h26) (mkD_gd y26), mkD_mem h26 y26])
  by_cases hy : (endR w x d).1 ∈ L
  · have em : metStep L (endR w x d) = L := by unfold metStep; rw [if_pos hy]
    rw [if_neg (by simp [hy])]
    refine went_tail_okK h W K hx hd hy fun S' τ' c l f => ?_
    exact q S' τ' ps (by rw [em]; exact c) (by omega) (fun k _ k1 k2 k3 k4 => f k k1 k4) fun p hp => .inl hp
  · have em : metStep L (endR w x d) = L ++ [(endR w x d).1] := by unfold metStep; rw [if_neg hy]
    rw [if_pos (by simp [hy])]
    obtain ⟨o1, o2, o3, o4⟩ := h.od
    have hgS := sto_lt h.ob
    have hmS := sto_lt h.ml
    have hlS := sto_lt h.en
    refine ⟨isLst_loc h.ml, (wq_append h.ml).mpr ⟨by rw [List.length_map]; omega, ?_⟩⟩
    have m1 : (S.set m (.lst (L.map mkD ++ [mkD (endR w x d).1])))[m]? = some (.lst (L.map mkD ++ [mkD (endR w x d).1])) := sto_set h.ml
    have f1 : ∀ k, k ≠ m → (S.set m (.lst (L.map mkD ++ [mkD (endR w x d).1])))[k]? = S[k]? := fun k hk => sto_ne (Ne.symm hk)
    have l1 : (S.set m (.lst (L.map mkD ++ [mkD (endR w x d).1]))).length = S.length := by simp
    generalize S.set m (.lst (L.map mkD ++ [mkD (endR w x d).1])) = S1 at m1 f1 l1 ⊢
    have ob1 := (f1 g (by omega)).trans h.ob
    have en1 := (f1 le (Ne.symm o3)).trans h.en
    have kw1 : ∀ (Q : D → Sto → Prop), Wp (fldD ["Chart"] "ends" (.loc g) S1) Q ↔ Q (.loc le) S1 := fun Q => wq_fld ob1 (by simp) rfl
    refine (kw1 _).mpr ⟨isLst_loc en1, ?_⟩
    have hq0 : (S1 ++ [MO.lst [D.non]])[S1.length]? = some (.lst [.non]) := sto_new
    rw [wq_rep1 hq0 (by omega)]
    have f2 : ∀ k, k < S1.length → (S1 ++ [MO.lst [D.non]])[k]? = S1[k]? := fun k hk => sto_app hk
    have l2 : (S1 ++ [MO.lst [D.non]]).length = S1.length + 1 := by simp
    generalize S1 ++ [MO.lst [D.non]] = S2 at f2 l2 ⊢
    have p3 : (S2 ++ [MO.lst (List.replicate (rowD w (endR w x d).1).length D.non)])[S2.length]? = some (.lst (List.replicate (rowD w (endR w x d).1).length D.non)) := sto_new
    have f3 : ∀ k, k < S2.length → (S2 ++ [MO.lst (List.replicate (rowD w (endR w x d).1).length D.non)])[k]? = S2[k]? := fun k hk => sto_app hk
    have l3 : (S2 ++ [MO.lst (List.replicate (rowD w (endR w x d).1).length D.non)]).length = S2.length + 1 := by simp
    generalize S2 ++ [MO.lst (List.replicate (rowD w (endR w x d).1).length D.non)] = S3 at p3 f3 l3 ⊢
    have en3 : S3[le]? = some (.lst (ps.map D.loc)) := by rw [f3 _ (by omega), f2 _ (by omega)]; exact en1
    refine (wq_append en3).mpr ⟨by rw [List.length_map, h.pl]; omega, ?_⟩
    have h4 : ChAt (S3.set le (.lst (ps.map D.loc ++ [D.loc S2.length]))) g m le (ps ++ [S2.length]) w (L ++ [(endR w x d).1]) T s := by
      refine h.moreK W K hy (by omega) (fun k hk k1 k2 => by rw [sto_ne (Ne.symm k2), f3 _ (by omega), f2 _ (by omega), f1 _ k1]) ?_ (sto_set en3) ?_
      · rw [sto_ne (Ne.symm o3), f3 _ (by omega), f2 _ (by omega)]; exact m1
      · rw [sto_ne (by omega)]; exact p3
    have f4 : ∀ k, k < S.length → k ≠ m → k ≠ le → (S3.set le (.lst (ps.map D.loc ++ [D.loc S2.length])))[k]? = S[k]? := fun k hk k1 k2 => by rw [sto_ne (Ne.symm k2), f3 _ (by omega), f2 _ (by omega), f1 _ k1]
    have l4 : (S3.set le (.lst (ps.map D.loc ++ [D.loc S2.length]))).length = S3.length := by simp
    generalize S3.set le (.lst (ps.map D.loc ++ [D.loc S2.length])) = S4 at h4 f4 l4 ⊢
    have K4 := K.metK W hd
    rw [em] at K4 q
    have hx4 : (L ++ [(endR w x d).1])[s]? = some x := by rw [List.getElem?_append_left h.sl]; exact hx
    refine went_tail_okK h4 W K4 hx4 hd (by simp) fun S' τ' c l f => ?_
    refine q S' τ' _ c (by omega) (fun k hk k1 k2 k3 k4 => ?_) fun p hp => ?_
    · rw [f k k1 fun z => ?_]
      · exact f4 k hk k2 k3
      · rcases List.mem_append.mp z with y | y
        · exact k4 y
        · rw [List.mem_singleton.mp y] at hk; omega
    · rcases List.mem_append.mp hp with y | y
      · exact .inl y
      · rw [List.mem_singleton.mp y]; exact .inr (by omega)

/-- what is refused, of what -/
def clW (w : Wb) (L : List Nat) (T : List End) (x d y c n : Nat) : Option Str :=
  if y ∈ L ∧ (rowD w y).length ≠ n then some (Str.ofString "doors")
  else if isKn w T x d = true ∧ endR w x d ≠ (y, c) then some (Str.ofString "end")
  else if y ∈ L ∧ isKn w T y c = true ∧ endR w y c ≠ (x, d) then some (Str.ofString "taken") else none
def ClQ (Q : Rs → Sto → Prop) (S : Sto) (r : Option Str) : Prop := match r with
  | none => Q (.val .non) S
  | some u => Q (.exc "Clash" [("why", .str u)]) S
theorem x_look_ok {Q : Rs → Sto → Prop} (W : WebK w) (h : ChAt S g m le ps w L T s) (K : Kc w L T) (hx : L[s]? = some x) (hd : d < (rowD w x).length) (y26 : y < 26) (hc : c < n)
    (q : ClQ Q S (clW w L T x d y c n)) : Wp (g_x_Chart_look_clash [.loc g, nD d, nD c, mkD y, nD n] S) Q := by
  unfold g_x_Chart_look_clash
  refine (wp_fnX (by rfl)).mpr ?_
  unfold b_x_Chart_look_clash
  have h26 := K.s26K W
  have enx : ∀ n : Nat, nD n = D.int (n : Int) := fun _ => rfl
  obtain ⟨p, hp, hrow, sb1, sb2⟩ := ch_end h hx hd
  have iff : isKn w T x d = true → x ∈ L ∧ (endR w x d).1 ∈ L := K.knownK W hd
  have e1 : kEnd w L T x d = if isKn w T x d = true then eD (L.idxOf (endR w x d).1, (endR w x d).2) else .non := rfl
  have n2 : ∀ e, isNonD (eD e) = false := fun _ => rfl
  (simp! only [wp_fstS, wp_fldG, wp_fagS, wp_sagS, wp_mtE, wp_mkE, wp_aX, wp_mtX, wp_exX, wp_rtX, wp_stX, wp_lenX, wp_raiseS, wp_tryK, wp_tryO, rq_val, rq_exc, tk_nx, tk_rt, tk_ex, to_nx, to_rt, to_ex, enx, ch_marks h, wq_inTr h.ml (mkD_all h26) (mkD_gd y26), mkD_mem h26 y26])
  by_cases hy : y ∈ L
  · have hj := idx_get hy
    have hm2 : mkD y ∈ L.map mkD := (mkD_mem h26 y26).mpr hy
    rw [if_pos hy]
    (simp! only [wp_fstS, wp_fldG, wp_fagS, wp_sagS, wp_mtE, wp_mkE, wp_aX, wp_mtX, wp_exX, wp_rtX, wp_stX, wp_lenX, wp_raiseS, wp_tryK, wp_tryO, rq_val, rq_exc, tk_nx, tk_rt, tk_ex, to_nx, to_rt, to_ex, enx, ch_marks h])
    refine ⟨isLst_loc h.ml, (wq_indexTr h.ml (mkD_all h26) (mkD_gd y26) hm2).mpr ?_⟩
    rw [mkD_idx y26 h26]
    obtain ⟨r, hr, hrr, sbr⟩ := ch_row h hj
    have lr : ∀ Q : D → Sto → Prop, Wp (lenD [.loc r] S) Q ↔ Q (.int ((rowD w y).length : Int)) S := fun Q => by
      rw [len_loc hrr, kRow_len]
    have nn : ∀ Q : D → Sto → Prop, Wp (neD (.int ((rowD w y).length : Int)) (.int (n : Int)) S) Q ↔ Q (.bl (!decide ((rowD w y).length = n))) S := fun Q => by
      rw [wq_neG ⟨rfl, by simp [dp]⟩ ⟨rfl, by simp [dp]⟩]
      have : decide (D.int ((rowD w y).length : Int) = D.int (n : Int)) = decide ((rowD w y).length = n) := decide_eq_decide.mpr ⟨fun h => Int.ofNat.inj (D.int.inj h), fun h => by rw [h]⟩
      rw [this]
    (simp! only [wp_fstS, wp_fldG, wp_fagS, wp_sagS, wp_mtE, wp_mkE, wp_aX, wp_mtX, wp_exX, wp_rtX, wp_stX, wp_lenX, wp_raiseS, wp_tryK, wp_tryO, rq_val, rq_exc, tk_nx, tk_rt, tk_ex, to_nx, to_rt, to_ex, enx, ch_ends h, ch_spot h, sbr, lr, nn, sb1, sb2])
    by_cases hl : (rowD w y).length = n
    · rw [if_neg (by simpa using hl)]
      have eg : D.tup [.int (L.idxOf y : Int), .int (c : Int)] = eD (L.idxOf y, c) := rfl
      have es : D.tup [.int (s : Int), .int (d : Int)] = eD (s, d) := rfl
      have hcl : c < (rowD w y).length := by rw [hl]; exact hc
      obtain ⟨r2, hr2, hrr2, sb3, sb4⟩ := ch_end h hj hcl
      obtain rfl : r2 = r := by rw [hr] at hr2; exact (Option.some.inj hr2).symm
      have a0 : ∀ (S : Sto) (Q : D → Sto → Prop), Wp (sbD (eD (L.idxOf y, c)) (.int 0) S) Q ↔ Q (.int (L.idxOf y : Int)) S := fun S Q => by
        unfold eD
        rw [wq_sbT]
        exact ⟨fun ⟨z, e, k⟩ => by cases e; exact k, fun k => ⟨_, rfl, k⟩⟩
      have ek : ∀ Q : D → Sto → Prop, Wp (neD (kEnd w L T x d) (eD (L.idxOf y, c)) S) Q ↔ Q (.bl (!decide (kEnd w L T x d = eD (L.idxOf y, c)))) S := fun Q => wq_neG kEnd_gd (eD_gd _)
      have allq : ∀ t ∈ [D.non, eD (s, d)], gn t = true ∧ dp t ≤ 50 := fun t ht => by
        rcases List.mem_cons.mp ht with rfl | ht
        · exact ⟨rfl, by simp [dp]⟩
        · rw [List.mem_singleton.mp ht]; exact eD_gn _
      have e2 : kEnd w L T y c = if isKn w T y c = true then eD (L.idxOf (endR w y c).1, (endR w y c).2) else .non := rfl
      have eDi : ∀ a b : End, eD a = eD b ↔ a = b := fun a b => ⟨fun h => by unfold eD at h; simp only [D.tup.injEq, List.cons.injEq, D.int.injEq, and_true] at h; exact Prod.ext (Int.ofNat.inj h.1) (Int.ofNat.inj h.2), fun h => by rw [h]⟩
      have idi : ∀ a : Nat, a ∈ L → (L.idxOf a = L.idxOf y ↔ a = y) := fun a ha => ⟨fun h => by have h1 := idx_get ha; have h2 := idx_get hy; rw [h, h2] at h1; exact (Option.some.inj h1).symm, fun h => by rw [h]⟩
      have ids : ∀ a : Nat, a ∈ L → (L.idxOf a = s ↔ a = x) := fun a ha => ⟨fun h => by have h1 := idx_get ha; rw [h, hx] at h1; exact (Option.some.inj h1).symm, fun h => by rw [h]; exact idx_at K.nd hx⟩
      have nt : ∀ Q : D → Sto → Prop, Wp (inTD not (kEnd w L T y c) (.tup [D.non, eD (s, d)]) S) Q ↔ Q (.bl (decide (isKn w T y c = true ∧ endR w y c ≠ (x, d)))) S := fun Q => by
        rw [wq_notInTu kEnd_gd allq]
        have : (!decide (kEnd w L T y c ∈ [D.non, eD (s, d)])) = decide (isKn w T y c = true ∧ endR w y c ≠ (x, d)) := by
          rw [← decide_not]
          apply decide_eq_decide.mpr
          rw [e2]
          by_cases hk : isKn w T y c = true
          · rw [if_pos hk]
            have hm := (K.knownK W hcl hk).2
            simp only [List.mem_cons, List.not_mem_nil, or_false, hk, true_and]
            rw [eDi]
            constructor
            · intro h1 h2
              apply h1
              right
              rw [h2]
              exact Prod.ext (idx_at K.nd hx) rfl
            · rintro h1 (h2 | h2)
              · cases h2
              · have h3 : L.idxOf (endR w y c).1 = s := congrArg Prod.fst h2
                have h4 : (endR w y c).2 = d := congrArg Prod.snd h2
                exact h1 (Prod.ext ((ids _ hm).mp h3) h4)
          · rw [if_neg hk]; simp [hk]
        rw [this]
      have fin : ¬ (isKn w T x d = true ∧ endR w x d ≠ (y, c)) → (if (isKn w T y c = true ∧ endR w y c ≠ (x, d)) then Q (.exc "Clash" [("why", .str (Str.ofString "taken"))]) S else Q (.val .non) S) := fun hn => by
        unfold clW at q
        rw [if_neg (fun z => z.2 hl), if_neg hn] at q
        by_cases h3 : isKn w T y c = true ∧ endR w y c ≠ (x, d)
        · rw [if_pos h3]
          rw [if_pos ⟨hy, h3⟩] at q
          exact q
        · rw [if_neg h3]
          rw [if_neg fun z => h3 z.2] at q
          exact q
      (simp! only [wp_fstS, wp_fldG, wp_fagS, wp_sagS, wp_mtE, wp_mkE, wp_aX, wp_mtX, wp_exX, wp_rtX, wp_stX, wp_lenX, wp_raiseS, wp_tryK, wp_tryO, rq_val, rq_exc, tk_nx, tk_rt, tk_ex, to_nx, to_rt, to_ex, enx, ch_ends h, ch_spot h, sbr, sb1, sb2])
      rw [eg]
      by_cases hk : isKn w T x d = true
      · rw [if_pos hk] at e1
        have n1 : isNonD (kEnd w L T x d) = false := by rw [e1]; rfl
        have hm := (K.knownK W hd hk).2
        have ee : (!decide (kEnd w L T x d = eD (L.idxOf y, c))) = decide (endR w x d ≠ (y, c)) := by
          rw [← decide_not]
          apply decide_eq_decide.mpr
          rw [e1, not_congr (eDi _ _)]
          constructor
          · intro h1 h2
            apply h1
            rw [h2]
          · intro h1 h2
            have h3 : L.idxOf (endR w x d).1 = L.idxOf y := congrArg Prod.fst h2
            have h4 : (endR w x d).2 = c := congrArg Prod.snd h2
            exact h1 (Prod.ext ((idi _ hm).mp h3) h4)
        by_cases he : endR w x d = (y, c)
        · have fin2 := fin fun z => z.2 he
          have ee2 : (!decide (kEnd w L T x d = eD (L.idxOf y, c))) = false := by rw [ee]; exact decide_eq_false fun z => z he
          have ee3 : kEnd w L T x d = eD (L.idxOf y, c) := by simpa using ee2
          (simp! only [wp_fstS, wp_fldG, wp_fagS, wp_sagS, wp_mtE, wp_mkE, wp_aX, wp_mtX, wp_exX, wp_rtX, wp_stX, wp_lenX, wp_raiseS, wp_tryK, wp_tryO, rq_val, rq_exc, tk_nx, tk_rt, tk_ex, to_nx, to_rt, to_ex, enx, n1, ek, ee2, wp_isnot_non, n2, a0, ch_ends h, ch_spot h, sbr, sb3, sb4, es, nt])
          refine ⟨_, rfl, ?_⟩
          (simp! only [wp_fstS, wp_fldG, wp_fagS, wp_sagS, wp_mtE, wp_mkE, wp_aX, wp_mtX, wp_exX, wp_rtX, wp_stX, wp_lenX, wp_raiseS, wp_tryK, wp_tryO, rq_val, rq_exc, tk_nx, tk_rt, tk_ex, to_nx, to_rt, to_ex, enx, ch_ends h, ch_spot h, sbr, sb3, sb4])
          rw [es, nt]
          by_cases h3 : isKn w T y c = true ∧ endR w y c ≠ (x, d)
          · rw [if_pos h3] at fin2
            (simp! only [wp_fstS, wp_fldG, wp_fagS, wp_sagS, wp_mtE, wp_mkE, wp_aX, wp_mtX, wp_exX, wp_rtX, wp_stX, wp_lenX, wp_raiseS, wp_tryK, wp_tryO, rq_val, rq_exc, tk_nx, tk_rt, tk_ex, to_nx, to_rt, to_ex, decide_eq_true h3, wp_raiseF])
            exact ⟨_, _, ⟨rfl, rfl⟩, fin2⟩
          · rw [if_neg h3] at fin2
            (simp! only [wp_fstS, wp_fldG, wp_fagS, wp_sagS, wp_mtE, wp_mkE, wp_aX, wp_mtX, wp_exX, wp_rtX, wp_stX, wp_lenX, wp_raiseS, wp_tryK, wp_tryO, rq_val, rq_exc, tk_nx, tk_rt, tk_ex, to_nx, to_rt, to_ex, decide_eq_false h3])
            exact fin2
        · have ee2 : (!decide (kEnd w L T x d = eD (L.idxOf y, c))) = true := by rw [ee]; exact decide_eq_true he
          unfold clW at q
          rw [if_neg (fun z => z.2 hl), if_pos ⟨hk, he⟩] at q
          (simp! only [wp_fstS, wp_fldG, wp_fagS, wp_sagS, wp_mtE, wp_mkE, wp_aX, wp_mtX, wp_exX, wp_rtX, wp_stX, wp_lenX, wp_raiseS, wp_tryK, wp_tryO, rq_val, rq_exc, tk_nx, tk_rt, tk_ex, to_nx, to_rt, to_ex, enx, n1, ek, ee2, wp_isnot_non, n2, wp_raiseF])
          exact ⟨_, _, ⟨rfl, rfl⟩, q⟩
      · rw [if_neg hk] at e1
        have n1 : ¬ isNonD (kEnd w L T x d) = false := by rw [e1]; decide
        have n1' : isNonD (kEnd w L T x d) = true := by rw [e1]; rfl
        have fin2 := fin fun z => hk z.1
        (simp! only [wp_fstS, wp_fldG, wp_fagS, wp_sagS, wp_mtE, wp_mkE, wp_aX, wp_mtX, wp_exX, wp_rtX, wp_stX, wp_lenX, wp_raiseS, wp_tryK, wp_tryO, rq_val, rq_exc, tk_nx, tk_rt, tk_ex, to_nx, to_rt, to_ex, enx, n1', ek, wp_isnot_non, n2, a0, ch_ends h, ch_spot h, sbr, sb3, sb4, es, nt])
        rw [if_neg (by decide)]
        (simp! only [wp_fstS, wp_fldG, wp_fagS, wp_sagS, wp_mtE, wp_mkE, wp_aX, wp_mtX, wp_exX, wp_rtX, wp_stX, wp_lenX, wp_raiseS, wp_tryK, wp_tryO, rq_val, rq_exc, tk_nx, tk_rt, tk_ex, to_nx, to_rt, to_ex, enx, n1', ek, wp_isnot_non, n2, a0, ch_ends h, ch_spot h, sbr, sb3, sb4, es, nt])
        refine ⟨_, rfl, ?_⟩
        (simp! only [wp_fstS, wp_fldG, wp_fagS, wp_sagS, wp_mtE, wp_mkE, wp_aX, wp_mtX, wp_exX, wp_rtX, wp_stX, wp_lenX, wp_raiseS, wp_tryK, wp_tryO, rq_val, rq_exc, tk_nx, tk_rt, tk_ex, to_nx, to_rt, to_ex, enx, ch_ends h, ch_spot h, sbr, sb3, sb4])
        rw [es, nt]
        by_cases h3 : isKn w T y c = true ∧ endR w y c ≠ (x, d)
        · rw [if_pos h3] at fin2
          (simp! only [wp_fstS, wp_fldG, wp_fagS, wp_sagS, wp_mtE, wp_mkE, wp_aX, wp_mtX, wp_exX, wp_rtX, wp_stX, wp_lenX, wp_raiseS, wp_tryK, wp_tryO, rq_val, rq_exc, tk_nx, tk_rt, tk_ex, to_nx, to_rt, to_ex, decide_eq_true h3, wp_raiseF])
          exact ⟨_, _, ⟨rfl, rfl⟩, fin2⟩
        · rw [if_neg h3] at fin2
          (simp! only [wp_fstS, wp_fldG, wp_fagS, wp_sagS, wp_mtE, wp_mkE, wp_aX, wp_mtX, wp_exX, wp_rtX, wp_stX, wp_lenX, wp_raiseS, wp_tryK, wp_tryO, rq_val, rq_exc, tk_nx, tk_rt, tk_ex, to_nx, to_rt, to_ex, decide_eq_false h3])
          exact fin2
    · rw [if_pos (by simpa using hl)]
      have e0 : clW w L T x d y c n = some (Str.ofString "doors") := by unfold clW; rw [if_pos ⟨hy, hl⟩]
      rw [e0] at q
      (simp! only [wp_fstS, wp_fldG, wp_fagS, wp_sagS, wp_mtE, wp_mkE, wp_aX, wp_mtX, wp_exX, wp_rtX, wp_stX, wp_lenX, wp_raiseS, wp_tryK, wp_tryO, rq_val, rq_exc, tk_nx, tk_rt, tk_ex, to_nx, to_rt, to_ex, wp_raiseF])
      exact ⟨_, _, ⟨rfl, rfl⟩, q⟩
  · rw [if_neg hy]
    (simp! only [wp_fstS, wp_fldG, wp_fagS, wp_sagS, wp_mtE, wp_mkE, wp_aX, wp_mtX, wp_exX, wp_rtX, wp_stX, wp_lenX, wp_raiseS, wp_tryK, wp_tryO, rq_val, rq_exc, tk_nx, tk_rt, tk_ex, to_nx, to_rt, to_ex, enx, ch_ends h, ch_spot h, sb1, sb2])
    have gnon : gd D.non := ⟨rfl, by simp [dp]⟩
    by_cases hk : isKn w T x d = true
    · rw [if_pos hk] at e1
      have n1 : isNonD (kEnd w L T x d) = false := by rw [e1]; rfl
      have hne : endR w x d ≠ (y, c) := fun z => hy (by have := (K.knownK W hd hk).2; rw [z] at this; exact this)
      unfold clW at q
      rw [if_neg (fun z => hy z.1), if_pos ⟨hk, hne⟩] at q
      have hd2 : (!decide (kEnd w L T x d = D.non)) = true := by
        have : kEnd w L T x d ≠ D.non := by rw [e1]; intro z; cases z
        rw [decide_eq_false this]; rfl
      rw [if_pos n1, wq_neG kEnd_gd gnon, hd2]
      (simp! only [wp_fstS, wp_fldG, wp_fagS, wp_sagS, wp_mtE, wp_mkE, wp_aX, wp_mtX, wp_exX, wp_rtX, wp_stX, wp_lenX, wp_raiseS, wp_tryK, wp_tryO, rq_val, rq_exc, tk_nx, tk_rt, tk_ex, to_nx, to_rt, to_ex, wp_raiseF])
      exact ⟨_, _, ⟨rfl, rfl⟩, q⟩
    · rw [if_neg hk] at e1
      have n1 : ¬ isNonD (kEnd w L T x d) = false := by rw [e1]; decide
      have n0 : isNonD D.non = true := rfl
      unfold clW at q
      rw [if_neg (fun z => hy z.1), if_neg (fun z => hk z.1), if_neg (fun z => hy z.1)] at q
      rw [if_neg n1]
      (simp! only [wp_fstS, wp_fldG, wp_fagS, wp_sagS, wp_mtE, wp_mkE, wp_aX, wp_mtX, wp_exX, wp_rtX, wp_stX, wp_lenX, wp_raiseS, wp_tryK, wp_tryO, rq_val, rq_exc, tk_nx, tk_rt, tk_ex, to_nx, to_rt, to_ex, wp_isnot_non, n0])
      exact q
theorem x_went_door {Q : Rs → Sto → Prop} {di : Int} (h : ChAt S g m le ps w L T s) (hx : L[s]? = some x) (hd : ¬ (0 ≤ di ∧ di < ((rowD w x).length : Int)) ∨ ¬ c < n) (q : Q (.exc "NoDoor" []) S) :
    Wp (g_x_Chart_went [.loc g, .int di, nD c, mkD y, nD n] S) Q := by
  unfold g_x_Chart_went
  refine (wp_fnX (by rfl)).mpr ?_
  unfold b_x_Chart_went
  have enx : ∀ n : Nat, nD n = D.int (n : Int) := fun _ => rfl
  obtain ⟨p, hp, hrp, sbp⟩ := ch_row h hx
  have lr : ∀ Q : D → Sto → Prop, Wp (lenD [.loc p] S) Q ↔ Q (.int ((rowD w x).length : Int)) S := fun Q => by
    rw [len_loc hrp, kRow_len]
  (simp! only [wp_fstS, wp_fldG, wp_fagS, wp_sagS, wp_mtE, wp_mkE, wp_aX, wp_mtX, wp_exX, wp_rtX, wp_stX, wp_lenX, wp_raiseS, wp_tryK, wp_tryO, rq_val, rq_exc, tk_nx, tk_rt, tk_ex, to_nx, to_rt, to_ex, enx, ch_ends h, ch_spot h, sbp, lr])
  by_cases h1 : 0 ≤ di
  · rw [if_pos h1]
    by_cases h2 : di < ((rowD w x).length : Int)
    · rw [if_neg (by simpa using h2), if_pos (by omega), if_pos (by
        have : ¬ c < n := hd.resolve_left fun z => z ⟨h1, h2⟩
        simp; omega)]
      exact q
    · rw [if_pos (by simpa using h2)]
      exact q
  · rw [if_neg h1]
    exact q
theorem x_went_ok {Q : Rs → Sto → Prop} (F : Ff w L T) (h : ChAt S g m le ps w L T s) (hx : L[s]? = some x) (hd : d < (rowD w x).length) (hy : y < 12) (hc : c < n) (hn : n ≤ 6)
    (q1 : ∀ u, clW w L T x d y c n = some u → Q (.exc "Clash" [("why", .str u)]) S)
    (q2 : clW w L T x d y c n = none → ∀ (w' : Wb), Ff w' (metStep L (y, c)) (addT w' T x d) → Sw w w' L T → (∀ z, z < 12 → (rowD w' z).length ≤ (rowD w z).length) → endR w' x d = (y, c) → (rowD w' y).length = n → WebK w' → d < (rowD w' x).length → Kc w' L T →
      ∀ (S' : Sto) (ps' : List Nat), ChAt S' g m le ps' w' (metStep L (y, c)) (addT w' T x d) ((metStep L (y, c)).idxOf y) → S.length ≤ S'.length → (∀ k, k < S.length → k ≠ g → k ≠ m → k ≠ le → k ∉ ps → S'[k]? = S[k]?) → (∀ p ∈ ps', p ∈ ps ∨ S.length ≤ p) → Q (.val .non) S') :
    Wp (g_x_Chart_went [.loc g, nD d, nD c, mkD y, nD n] S) Q := by
  unfold g_x_Chart_went
  refine (wp_fnX (by rfl)).mpr ?_
  show Wp (seqS (ifS (orT' (notT (tB (chE leD ltD (cE (.int 0)) (vE 1) (aE lenD (consA (b2E sbD (u1E (fldD ["Chart"] "ends") (vE 0)) (u1E (fldD ["Chart"] "spot") (vE 0))) nilA))))) (notT (tB (chE leD ltD (cE (.int 0)) (vE 2) (vE 4))))) (raiseS "NoDoor") nxS)
  (seqS (exX (mtX "Chart" "look_clash" g_x_Chart_look_clash (vE 0) (consA (vE 1) (consA (vE 2) (consA (vE 3) (consA (vE 4) nilA))))))
  Ws57) _ _) _
  have enx : ∀ n : Nat, nD n = D.int (n : Int) := fun _ => rfl
  have W := F.wk
  have K := F.kc
  have hL : ∀ z ∈ L, z < 12 := fun z hz => by have := K.lt z hz; rw [F.ln] at this; exact this
  have hxm := List.mem_of_getElem? hx
  obtain ⟨p, hp, hrp, sbp⟩ := ch_row h hx
  have lr : ∀ Q : D → Sto → Prop, Wp (lenD [.loc p] S) Q ↔ Q (.int ((rowD w x).length : Int)) S := fun Q => by
    rw [len_loc hrp, kRow_len]
  have c1 : (0 : Int) ≤ (d : Int) := by omega
  have c2 : (d : Int) < ((rowD w x).length : Int) := by omega
  have c3 : (0 : Int) ≤ (c : Int) := by omega
  have c4 : (c : Int) < (n : Int) := by omega
  (simp! only [wp_fstS, wp_fldG, wp_fagS, wp_sagS, wp_mtE, wp_mkE, wp_aX, wp_mtX, wp_exX, wp_rtX, wp_stX, wp_lenX, wp_raiseS, wp_tryK, wp_tryO, rq_val, rq_exc, tk_nx, tk_rt, tk_ex, to_nx, to_rt, to_ex, enx, ch_ends h, ch_spot h, sbp, lr, c1, c2, c3, c4, decide_true])
  repeat rw [if_neg (by decide)]
  refine ⟨ch_self h rfl, x_look_ok W h K hx hd (by omega) hc ?_⟩
  cases hcl : clW w L T x d y c n with
  | some u => exact q1 u hcl
  | none =>
    show Wp (Ws57 _ S) _
    -- what may be
    have hA : y ∈ L → (rowD w y).length = n := fun hy => Classical.byContradiction fun hl => by
      unfold clW at hcl; rw [if_pos ⟨hy, hl⟩] at hcl; cases hcl
    have n1 : ¬ (y ∈ L ∧ (rowD w y).length ≠ n) := fun z => z.2 (hA z.1)
    have hB : isKn w T x d = true → endR w x d = (y, c) := fun hk => Classical.byContradiction fun he => by
      unfold clW at hcl; rw [if_neg n1, if_pos ⟨hk, he⟩] at hcl; cases hcl
    have n2 : ¬ (isKn w T x d = true ∧ endR w x d ≠ (y, c)) := fun z => z.2 (hB z.1)
    have hC : y ∈ L → isKn w T y c = true → endR w y c = (x, d) := fun hy hk => Classical.byContradiction fun he => by
      unfold clW at hcl; rw [if_neg n1, if_neg n2, if_pos ⟨hy, hk, he⟩] at hcl; cases hcl
    have main : ∀ w', WebK w' → w'.length = 12 → Sw w w' L T → (∀ z, z < 12 → (rowD w' z).length ≤ (rowD w z).length) → endR w' x d = (y, c) → (rowD w' y).length = n → d < (rowD w' x).length →
        (∀ z, z < 12 → z ≠ y → (rowD w' z).length = (rowD w z).length) → (∀ z t, z < 12 → t < (rowD w' z).length → (z, t) ≠ (x, d) → (z, t) ≠ (y, c) → ¬ isKn w T z t = true → endR w' z t = (z, t)) → Wp (Ws57 [some (.loc g), some (nD d), some (nD c), some (mkD y), some (nD n), none] S) fun o S1 => match o with
          | .rt d => Q (.val d) S1
          | .nx _ => Q (.val .non) S1
          | .ex c fs _ => Q (.exc c fs) S1
          | _ => False := by
      intro w' W' l12 sw hle he hyn hd' hlz hun
      have Kc' : Kc w' L T := by
        refine ⟨fun z hz => by rw [l12]; exact hL z hz, K.nd, fun t ht => ?_⟩
        obtain ⟨v1, v2, v3⟩ := K.vt t ht
        have hk : isKn w T t.1 t.2 = true := isKn_iff.mpr (.inl ht)
        obtain ⟨k1, k2⟩ := sw.kn t.1 t.2 (hL _ v1) (by rw [sw.ln _ v1]; exact v2) v2
        exact ⟨v1, by rw [sw.ln _ v1]; exact v2, by rw [k2 hk]; exact v3⟩
      have hch := sw.ch hL h
      have eL : metStep L (endR w' x d) = metStep L (y, c) := by rw [he]
      have hm1 : ∀ z, z ∈ metStep L (y, c) ↔ z ∈ L ∨ z = y := fun z => by
        unfold metStep
        split
        · rename_i hy; exact ⟨.inl, fun o => o.elim id fun e => e ▸ hy⟩
        · simp
      have F' : Ff w' (metStep L (y, c)) (addT w' T x d) := by
        refine ⟨W', l12, by rw [← eL]; exact Kc'.stepK W' hxm hd', fun z t hz ht nk => ?_, fun z hz hn => ?_⟩
        · have ka := isKn_add (w := w') (T := T) (x := x) (d := d) (y := z) (c := t)
          rw [addT_knK W' ht] at ka
          have k1 : ¬ isKn w' T z t = true := fun k => nk (ka.mpr (.inl k))
          have k2 : (z, t) ≠ (x, d) := fun k => nk (ka.mpr (.inr (.inl k)))
          have k3 : endR w' z t ≠ (x, d) := fun k => nk (ka.mpr (.inr (.inr k)))
          have k4 : (z, t) ≠ (y, c) := fun k => k3 (by
            have e1 : z = y := congrArg Prod.fst k
            have e2 : t = c := congrArg Prod.snd k
            have := (endR_backK W' hd').2.2
            rw [he] at this
            rw [e1, e2]; exact this)
          have := (sw.kn z t hz ht (Nat.lt_of_lt_of_le ht (hle z hz))).1
          exact hun z t hz ht k2 k4 (by rw [← this]; exact k1)
        · have hn1 : z ∉ L := fun k => hn ((hm1 z).mpr (.inl k))
          have hn2 : z ≠ y := fun k => hn ((hm1 z).mpr (.inr k))
          rw [hlz z hz hn2, F.six z hz hn1]
      have r0 := went_rest (o := none) (Q := fun o S1 => match o with
          | .rt d => Q (.val d) S1
          | .nx _ => Q (.val .non) S1
          | .ex c fs _ => Q (.exc c fs) S1
          | _ => False) hch W' Kc' hx hd' (fun S' τ' ps' hc' l f p => q2 hcl w' F' sw hle he hyn W' hd' Kc' S' ps' (by rw [he] at hc'; exact hc') l f p)
      rw [he, hyn] at r0
      exact r0
    by_cases hk : isKn w T x d = true
    · have he := hB hk
      have hm : y ∈ L := by have := (K.knownK W hd hk).2; rw [he] at this; exact this
      exact main w W F.ln ⟨fun _ _ => rfl, fun _ _ _ _ _ => ⟨rfl, fun _ => rfl⟩⟩ (fun _ _ => Nat.le_refl _) he (hA hm) hd (fun _ _ _ => rfl) fun z t hz ht _ _ nk => F.un z t hz ht nk
    · have hk2 : y ∈ L → ¬ isKn w T y c = true := fun hy hk2 => by
        have hcl2 : c < (rowD w y).length := by rw [hA hy]; exact hc
        have h3 := isKn_backK (T := T) W hcl2
        rw [hC hy hk2] at h3
        exact hk (by rw [h3]; exact hk2)
      obtain ⟨a1, a2, a3, a4, a5, a6, a7, a8⟩ := step57 F hxm hd hy hc hn hA hk hk2
      exact main _ a1 a2 a3 a4 a5 a6 (by rw [a3.ln x hxm]; exact hd) a7 a8
end
end SW
namespace SW
open PySem L2

/-! k57: what is due, by the law's own keeping -/
/-- d.get(k, f), f may change what stands -/
theorem wp_get2Sg {S : Sto} {fo fe ff : EvE} {τ : Tau} {Q : D → Sto → Prop} {n : Nat} {kvs : List (Key × D)} {u : Str} (h0 : Wp (fo τ S) fun d S1 => d = .loc n ∧ S1 = S) (h2 : fe τ S = some (.str u, S)) (h : S[n]? = some (.dK kvs))
    (h3 : Wp (ff τ S) fun v S1 => S1[n]? = some (.dK kvs) ∧ Q ((lk kvs (.inr u)).getD v) S1) : Wp (getE2 fo fe ff τ S) Q := by
  have h1 : fo τ S = some (.loc n, S) := by
    obtain ⟨d, S1, e, rfl, rfl⟩ := h0
    exact e
  obtain ⟨v, S1, e3, hn, q⟩ := h3
  have : getE2 fo fe ff τ S = some ((lk kvs (.inr u)).getD v, S1) := by
    unfold getE2
    rw [h1]
    simp only [Option.bind_some, h2, e3]
    have : hasK (isKT (.loc n) S) (.loc n) (.str u) S1 = some (lk kvs (.inr u)) := by
      unfold hasK isKT
      simp only [h, hn]
      first
        | rfl
        | (unfold dHas; simp only [hn]; rfl)
    rw [this]
    rfl
  rw [this]
  exact wp_some.mpr q
theorem wp_get2Tg {S : Sto} {fo fe ff : EvE} {τ : Tau} {Q : D → Sto → Prop} {n : Nat} {kvs : List (List Key × D)} {e : D} {key : List Key} {v : D} (h0 : Wp (fo τ S) fun d S1 => d = .loc n ∧ S1 = S) (h2 : Wp (fe τ S) fun d S1 => d = e ∧ S1 = S) (ht : tOf e = some key) (h3 : Wp (ff τ S) fun d S1 => d = v ∧ S1 = S)
    (h : S[n]? = some (.dT kvs)) (q : Q ((lk kvs key).getD v) S) : Wp (getE2 fo fe ff τ S) Q := by
  have e1 : fo τ S = some (.loc n, S) := by obtain ⟨d, S1, e, rfl, rfl⟩ := h0; exact e
  have e2 : fe τ S = some (e, S) := by obtain ⟨d, S1, e, rfl, rfl⟩ := h2; exact e
  have e3 : ff τ S = some (v, S) := by obtain ⟨d, S1, e, rfl, rfl⟩ := h3; exact e
  have : getE2 fo fe ff τ S = some ((lk kvs key).getD v, S) := by
    unfold getE2
    rw [e1]
    simp only [Option.bind_some, e2, e3]
    have : hasK (isKT (.loc n) S) (.loc n) e S = some (lk kvs key) := by
      unfold hasK isKT
      simp only [h]
      simp only [dHas, h, ht, if_true, Option.map_some]
    rw [this]
    rfl
  rw [this]
  exact wp_some.mpr q
theorem wp_getTg {S : Sto} {fo fe : EvE} {τ : Tau} {Q : D → Sto → Prop} {n : Nat} {kvs : List (List Key × D)} {e : D} {key : List Key} (h0 : Wp (fo τ S) fun d S1 => d = .loc n ∧ S1 = S) (h2 : Wp (fe τ S) fun d S1 => d = e ∧ S1 = S) (ht : tOf e = some key)
    (h : S[n]? = some (.dT kvs)) (q : Q ((lk kvs key).getD .non) S) : Wp (getE fo fe τ S) Q := by
  have e1 : fo τ S = some (.loc n, S) := by obtain ⟨d, S1, e, rfl, rfl⟩ := h0; exact e
  have e2 : fe τ S = some (e, S) := by obtain ⟨d, S1, e, rfl, rfl⟩ := h2; exact e
  have : getE fo fe τ S = some ((lk kvs key).getD .non, S) := by
    unfold getE
    rw [e1]
    simp only [Option.bind_some, e2]
    have : hasK (isKT (.loc n) S) (.loc n) e S = some (lk kvs key) := by
      unfold hasK isKT
      simp only [h]
      simp only [dHas, h, ht, if_true, Option.map_some]
    rw [this]
    rfl
  rw [this]
  exact wp_some.mpr q
theorem mE2_gd {e : End} (h : e.1 < 26) : gd (mE2 e) := by
  have := mkD_gn h
  unfold mE2 nD
  exact ⟨by simp [gn, gns, this.1], by simp [dp, dps, mkD]⟩
theorem mE2_inj {a b : End} (ha : a.1 < 26) (hb : b.1 < 26) : mE2 a = mE2 b ↔ a = b :=
  ⟨fun h => by
    unfold mE2 at h
    simp only [D.tup.injEq, List.cons.injEq, and_true] at h
    exact Prod.ext (mkD_inj ha hb h.1) (Int.ofNat.inj (D.int.inj h.2)), fun h => by rw [h]⟩
def dueD (w : Wb) (L : List Nat) (T : List End) (x : Nat) (di : Int) (y c n : Nat) : D :=
  if (0 ≤ di ∧ di < ((rowD w x).length : Int)) ∧ c < n then (match clW w L T x di.toNat y c n with | none => .non | some u => .str u) else .str (Str.ofString "door")
section
variable {S : Sto} {md o mn en z : Nat} {w : Wb} {L : List Nat} {T : List End} {x y c n : Nat} {Q : D → Sto → Prop}
theorem due57_ok {di : Int} (F : Ff w L T) (h : MdAt S md o mn en z w L T x) (hx : x ∈ L) (hy : y < 12) (hn : n ≤ 6) (q : Q (dueD w L T x di y c n) S) : Wp (g_l_due_v7 [.loc md, .int di, nD c, mkD y, nD n] S) Q := by
  unfold g_l_due_v7
  refine (wp_fnD (by rfl)).mpr ?_
  unfold b_l_due_v7
  have W := F.wk
  have K := F.kc
  have h26 := K.s26K W
  have hL : ∀ z ∈ L, z < 12 := fun z hz => by have := K.lt z hz; rw [F.ln] at this; exact this
  have enx : ∀ n : Nat, nD n = D.int (n : Int) := fun _ => rfl
  obtain ⟨kvs, e1, e2, e3⟩ := h.en_
  (simp! only [md_many h, md_at h, md_ends h, sb_many h h26 hx, enx])
  by_cases h1 : 0 ≤ di ∧ di < ((rowD w x).length : Int)
  · by_cases h2 : c < n
    · obtain ⟨d, rfl⟩ : ∃ d : Nat, di = (d : Int) := ⟨di.toNat, by omega⟩
      have hd : d < (rowD w x).length := by omega
      have hcy : c < (rowD w y).length ∨ (y ∈ L ∧ (rowD w y).length ≠ n) := by
        by_cases hm : y ∈ L
        · by_cases e : (rowD w y).length = n
          · left; omega
          · right; exact ⟨hm, e⟩
        · left; rw [F.six y hy hm]; omega
      have q : Q (match clW w L T x d y c n with | none => .non | some u => .str u) S := by
        unfold dueD at q
        rw [if_pos ⟨h1, h2⟩, Int.toNat_natCast] at q
        exact q
      rw [if_pos h1.1, if_neg (by simpa using h1.2), if_neg (by omega)]
      refine wp_get2S (by (simp! only [md_many h])) rfl rfl h.mn_ ?_
      have nn : ∀ (a b : Nat) (Q : D → Sto → Prop), Wp (neD (nD a) (.int (b : Int)) S) Q ↔ Q (.bl (!decide (a = b))) S := fun a b Q => by
        rw [wq_neG ⟨rfl, by simp [nD, dp]⟩ ⟨rfl, by simp [dp]⟩]
        have : decide (nD a = D.int (b : Int)) = decide (a = b) := decide_eq_decide.mpr ⟨fun h => Int.ofNat.inj (D.int.inj h), fun h => by rw [h]; rfl⟩
        rw [this]
      have mval : (lk (kvMn w L) (.inr (mkS y))).getD (D.int (n : Int)) = nD (if y ∈ L then (rowD w y).length else n) := by
        rw [lk_kvMn (by omega) h26]
        by_cases hm : y ∈ L
        · rw [if_pos hm, if_pos hm]; rfl
        · rw [if_neg hm, if_neg hm]; rfl
      rw [mval, nn]
      have c1 : (y ∈ L ∧ (rowD w y).length ≠ n) ↔ ¬ ((if y ∈ L then (rowD w y).length else n) = n) := by
        by_cases hm : y ∈ L
        · rw [if_pos hm]; simp [hm]
        · rw [if_neg hm]; simp [hm]
      by_cases hA : y ∈ L ∧ (rowD w y).length ≠ n
      · rw [decide_eq_false (c1.mp hA)]
        unfold clW at q
        rw [if_pos hA] at q
        (simp! only [])
        exact q
      · rw [decide_eq_true (Classical.byContradiction fun z => hA (c1.mpr z))]
        have hcy : c < (rowD w y).length := hcy.resolve_right hA
        (simp! only [])
        have x12 := hL x hx
        have v1 : lk kvs (kM2 x d) = if isKn w T x d = true then some (mE2 (endR w x d)) else none := e3 x d (by rw [F.ln]; exact x12) hd
        have v2 : lk kvs (kM2 y c) = if isKn w T y c = true then some (mE2 (endR w y c)) else none := e3 y c (by rw [F.ln]; exact hy) hcy
        have kn1 : ∀ a t, t < (rowD w a).length → isKn w T a t = true → (endR w a t).1 < 26 := fun a t ht hk => h26 _ (K.knownK W ht hk).2
        refine wp_get2Tg (n := en) (e := .tup [mkD x, nD d]) (key := kM2 x d) (v := mE2 (y, c)) (by (simp! only [md_ends h])) (by (simp! only [md_at h, enx])) rfl (by (simp! only [mE2, enx])) e1 ?_
        have eyc : D.tup [mkD y, .int (c : Int)] = mE2 (y, c) := rfl
        have exd : D.tup [mkD x, .int (d : Int)] = mE2 (x, d) := rfl
        rw [v1]
        (simp! only [md_at h, eyc])
        have g1 : ∀ Q : D → Sto → Prop, Wp (neD ((if isKn w T x d = true then some (mE2 (endR w x d)) else none).getD (mE2 (y, c))) (mE2 (y, c)) S) Q ↔ Q (.bl (decide (isKn w T x d = true ∧ endR w x d ≠ (y, c)))) S := fun Q => by
          by_cases hk : isKn w T x d = true
          · rw [if_pos hk]
            show Wp (neD (mE2 (endR w x d)) _ S) Q ↔ _
            rw [wq_neG (mE2_gd (kn1 x d hd hk)) (mE2_gd (e := (y, c)) (show y < 26 by omega))]
            have : (!decide (mE2 (endR w x d) = mE2 (y, c))) = decide (isKn w T x d = true ∧ endR w x d ≠ (y, c)) := by
              rw [← decide_not]
              exact decide_eq_decide.mpr (by rw [mE2_inj (kn1 x d hd hk) (show y < 26 by omega)]; simp [hk])
            rw [this]
          · rw [if_neg hk]
            show Wp (neD (mE2 (y, c)) _ S) Q ↔ _
            rw [wq_neG (mE2_gd (e := (y, c)) (show y < 26 by omega)) (mE2_gd (e := (y, c)) (show y < 26 by omega))]
            simp [hk]
        have g2 : ∀ Q : D → Sto → Prop, Wp (neD ((if isKn w T y c = true then some (mE2 (endR w y c)) else none).getD (mE2 (x, d))) (mE2 (x, d)) S) Q ↔ Q (.bl (decide (isKn w T y c = true ∧ endR w y c ≠ (x, d)))) S := fun Q => by
          by_cases hk : isKn w T y c = true
          · rw [if_pos hk]
            show Wp (neD (mE2 (endR w y c)) _ S) Q ↔ _
            rw [wq_neG (mE2_gd (kn1 y c hcy hk)) (mE2_gd (e := (x, d)) (show x < 26 by omega))]
            have : (!decide (mE2 (endR w y c) = mE2 (x, d))) = decide (isKn w T y c = true ∧ endR w y c ≠ (x, d)) := by
              rw [← decide_not]
              exact decide_eq_decide.mpr (by rw [mE2_inj (kn1 y c hcy hk) (show x < 26 by omega)]; simp [hk])
            rw [this]
          · rw [if_neg hk]
            show Wp (neD (mE2 (x, d)) _ S) Q ↔ _
            rw [wq_neG (mE2_gd (e := (x, d)) (show x < 26 by omega)) (mE2_gd (e := (x, d)) (show x < 26 by omega))]
            simp [hk]
        rw [g1]
        unfold clW at q
        rw [if_neg hA] at q
        by_cases hB : isKn w T x d = true ∧ endR w x d ≠ (y, c)
        · rw [if_pos hB] at q
          rw [decide_eq_true hB]
          (simp! only [])
          exact q
        · rw [if_neg hB] at q
          rw [decide_eq_false hB]
          (simp! only [])
          refine wp_get2Tg (n := en) (e := .tup [mkD y, nD c]) (key := kM2 y c) (v := mE2 (x, d)) (by (simp! only [md_ends h])) (by (simp! only [enx])) rfl (by (simp! only [md_at h, mE2, enx])) e1 ?_
          rw [v2]
          (simp! only [md_at h, exd])
          rw [g2]
          by_cases hC : isKn w T y c = true ∧ endR w y c ≠ (x, d)
          · rw [if_pos ⟨(K.knownK W hcy hC.1).1, hC⟩] at q
            rw [decide_eq_true hC]
            (simp! only [])
            exact q
          · rw [if_neg fun z => hC z.2] at q
            rw [decide_eq_false hC]
            (simp! only [])
            exact q
    · unfold dueD at q
      rw [if_neg fun z => h2 z.2] at q
      rw [if_pos h1.1, if_neg (by simpa using h1.2), if_pos (by omega)]
      exact q
  · unfold dueD at q
    rw [if_neg fun z => h1 z.1] at q
    by_cases h3 : 0 ≤ di
    · rw [if_pos h3, if_pos (by simpa using fun z => h1 ⟨h3, z⟩)]
      exact q
    · rw [if_neg h3]
      exact q
end
end SW
namespace SW
open PySem L2

/-! k57: a step told to the chart, and its refusal looked at -/
def ToR57 : EvS := (seqS (ifS (tB (b2E isD (vE 5) (cE .non))) (rtS (cE .non)) nxS)
  (seqS (ifS (orT' (tB (u1E (isExF [("NoDoor", false), ("Clash", false)]) (vE 5))) (notT (tB (u1E (isExF [("NoDoor", true), ("Clash", true)]) (vE 5))))) (rtS (cE (.str "other"))) nxS)
  (seqS (ifS (tB (b2E eqD (u1E (isExF [("NoDoor", true), ("Clash", false)]) (vE 5)) (u1E (isExF [("NoDoor", false), ("Clash", true)]) (vE 5)))) (rtS (cE (.str "other"))) nxS)
  (rtS (iteE (tB (u1E (isExF [("NoDoor", false), ("Clash", true)]) (vE 5))) (u1E (xfD "Clash" "why") (vE 5)) (cE (.str "door")))))))
section
variable {S : Sto} {g m le s : Nat} {ps : List Nat} {w : Wb} {L : List Nat} {T : List End} {x n y c : Nat}
theorem tor_door {o0 o1 o2 o3 o4 o6 : Option D} {R : Out → Sto → Prop} (q : R (.rt (.str (Str.ofString "door"))) (S ++ [.exn "NoDoor" []])) : Wp (ToR57 [o0, o1, o2, o3, o4, some (.loc S.length), o6] (S ++ [.exn "NoDoor" []])) R := by
  unfold ToR57
  have e : (S ++ [MO.exn "NoDoor" []])[S.length]? = some (.exn "NoDoor" []) := sto_new
  generalize S ++ [MO.exn "NoDoor" []] = S1 at e q ⊢
  have n1 : isNonD (.loc S.length) = false := rfl
  have b1 : ∀ Q : D → Sto → Prop, Wp (isExF [("NoDoor", false), ("Clash", false)] (.loc S.length) S1) Q ↔ Q (.bl false) S1 := fun Q => wq_isF e rfl
  have b2 : ∀ Q : D → Sto → Prop, Wp (isExF [("NoDoor", true), ("Clash", true)] (.loc S.length) S1) Q ↔ Q (.bl true) S1 := fun Q => wq_isF e rfl
  have b3 : ∀ Q : D → Sto → Prop, Wp (isExF [("NoDoor", true), ("Clash", false)] (.loc S.length) S1) Q ↔ Q (.bl true) S1 := fun Q => wq_isF e rfl
  have b4 : ∀ Q : D → Sto → Prop, Wp (isExF [("NoDoor", false), ("Clash", true)] (.loc S.length) S1) Q ↔ Q (.bl false) S1 := fun Q => wq_isF e rfl
  have e2 : ∀ Q : D → Sto → Prop, Wp (eqD (.bl true) (.bl false) S1) Q ↔ Q (.bl false) S1 := fun Q => wp_some
  (simp! only [wp_fstS, wp_fldG, wp_fagS, wp_sagS, wp_mtE, wp_mkE, wp_aX, wp_mtX, wp_exX, wp_rtX, wp_stX, wp_lenX, wp_raiseS, wp_tryK, wp_tryO, rq_val, rq_exc, tk_nx, tk_rt, tk_ex, to_nx, to_rt, to_ex, wp_is_non, n1, b1, b2, b3, b4, e2])
  rw [if_neg (by decide)]
  exact q
theorem tor_clash {o0 o1 o2 o3 o4 o6 : Option D} {u : Str} {R : Out → Sto → Prop} (q : R (.rt (.str u)) (S ++ [.exn "Clash" [("why", .str u)]])) : Wp (ToR57 [o0, o1, o2, o3, o4, some (.loc S.length), o6] (S ++ [.exn "Clash" [("why", .str u)]])) R := by
  unfold ToR57
  have e : (S ++ [MO.exn "Clash" [("why", .str u)]])[S.length]? = some (.exn "Clash" [("why", .str u)]) := sto_new
  generalize S ++ [MO.exn "Clash" [("why", .str u)]] = S1 at e q ⊢
  have n1 : isNonD (.loc S.length) = false := rfl
  have b1 : ∀ Q : D → Sto → Prop, Wp (isExF [("NoDoor", false), ("Clash", false)] (.loc S.length) S1) Q ↔ Q (.bl false) S1 := fun Q => wq_isF e rfl
  have b2 : ∀ Q : D → Sto → Prop, Wp (isExF [("NoDoor", true), ("Clash", true)] (.loc S.length) S1) Q ↔ Q (.bl true) S1 := fun Q => wq_isF e rfl
  have b3 : ∀ Q : D → Sto → Prop, Wp (isExF [("NoDoor", true), ("Clash", false)] (.loc S.length) S1) Q ↔ Q (.bl false) S1 := fun Q => wq_isF e rfl
  have b4 : ∀ Q : D → Sto → Prop, Wp (isExF [("NoDoor", false), ("Clash", true)] (.loc S.length) S1) Q ↔ Q (.bl true) S1 := fun Q => wq_isF e rfl
  have b5 : ∀ Q : D → Sto → Prop, Wp (xfD "Clash" (Str.ofString "why") (.loc S.length) S1) Q ↔ Q (.str u) S1 := fun Q => wq_xf e (by simp [List.lookup])
  have e2 : ∀ Q : D → Sto → Prop, Wp (eqD (.bl false) (.bl true) S1) Q ↔ Q (.bl false) S1 := fun Q => wp_some
  (simp! only [wp_fstS, wp_fldG, wp_fagS, wp_sagS, wp_mtE, wp_mkE, wp_aX, wp_mtX, wp_exX, wp_rtX, wp_stX, wp_lenX, wp_raiseS, wp_tryK, wp_tryO, rq_val, rq_exc, tk_nx, tk_rt, tk_ex, to_nx, to_rt, to_ex, wp_is_non, n1, b1, b2, b3, b4, b5, e2])
  rw [if_neg (by decide)]
  exact q
theorem told57_ok {Q : D → Sto → Prop} {di : Int} (F : Ff w L T) (h : ChAt S g m le ps w L T s) (hx : L[s]? = some x) (hy : y < 12) (hn : n ≤ 6)
    (q1 : dueD w L T x di y c n ≠ .non → ∀ e : MO, Q (dueD w L T x di y c n) (S ++ [e]))
    (q2 : ∀ d : Nat, di = (d : Int) → d < (rowD w x).length → c < n → dueD w L T x di y c n = .non → ∀ (w' : Wb), Ff w' (metStep L (y, c)) (addT w' T x d) → Sw w w' L T → (∀ z, z < 12 → (rowD w' z).length ≤ (rowD w z).length) → endR w' x d = (y, c) → (rowD w' y).length = n → WebK w' → d < (rowD w' x).length → Kc w' L T →
      ∀ (S' : Sto) (ps' : List Nat), ChAt S' g m le ps' w' (metStep L (y, c)) (addT w' T x d) ((metStep L (y, c)).idxOf y) → S.length ≤ S'.length → (∀ k, k < S.length → k ≠ g → k ≠ m → k ≠ le → k ∉ ps → S'[k]? = S[k]?) → (∀ p ∈ ps', p ∈ ps ∨ S.length ≤ p) → Q .non S') :
    Wp (g_l_told_v4 [.loc g, .int di, nD c, mkD y, nD n] S) Q := by
  unfold g_l_told_v4
  refine (wp_fnD (by rfl)).mpr ?_
  show Wp (seqS (stS 5 (cE .non)) (seqS (tryF ["NoDoor", "Clash"] 6 5 (exX (mtX "Chart" "went" g_x_Chart_went (vE 0) (consA (vE 1) (consA (vE 2) (consA (vE 3) (consA (vE 4) nilA))))))) ToR57) _ _) _
  (simp! only [wp_fstS, wp_fldG, wp_fagS, wp_sagS, wp_mtE, wp_mkE, wp_aX, wp_mtX, wp_exX, wp_rtX, wp_stX, wp_lenX, wp_raiseS, wp_tryK, wp_tryO, rq_val, rq_exc, tk_nx, tk_rt, tk_ex, to_nx, to_rt, to_ex, wp_tryF])
  refine ⟨ch_self h rfl, ?_⟩
  by_cases h1 : (0 ≤ di ∧ di < ((rowD w x).length : Int)) ∧ c < n
  · obtain ⟨d, rfl⟩ : ∃ d : Nat, di = (d : Int) := ⟨di.toNat, by omega⟩
    have hd : d < (rowD w x).length := by omega
    have due : dueD w L T x (d : Int) y c n = (match clW w L T x d y c n with | none => .non | some u => .str u) := by
      unfold dueD; rw [if_pos h1, Int.toNat_natCast]
      first
        | done
        | (cases clW w L T x d y c n <;> rfl)
    refine x_went_ok F h hx hd hy h1.2 hn (fun u hu => ?_) fun hu w' f1 f2 f3 f4 f5 f6 f7 f8 S' ps' c' l f p => ?_
    · rw [hu] at due
      refine ⟨by simp, tor_clash ?_⟩
      have := q1 (by rw [due]; intro z; cases z) (.exn "Clash" [("why", .str u)])
      rw [due] at this
      exact this
    · rw [hu] at due
      have := q2 d rfl hd h1.2 due w' f1 f2 f3 f4 f5 f6 f7 f8 S' ps' c' l f p
      show Wp (ToR57 _ S') _
      unfold ToR57
      have n0 : isNonD .non = true := rfl
      (simp! only [wp_fstS, wp_fldG, wp_fagS, wp_sagS, wp_mtE, wp_mkE, wp_aX, wp_mtX, wp_exX, wp_rtX, wp_stX, wp_lenX, wp_raiseS, wp_tryK, wp_tryO, rq_val, rq_exc, tk_nx, tk_rt, tk_ex, to_nx, to_rt, to_ex, wp_is_non, n0])
      exact this
  · have due : dueD w L T x di y c n = .str (Str.ofString "door") := by unfold dueD; rw [if_neg h1]
    refine x_went_door h hx (by
      by_cases h2 : 0 ≤ di ∧ di < ((rowD w x).length : Int)
      · right; exact fun z => h1 ⟨h2, z⟩
      · left; exact h2) ?_
    refine ⟨by simp, tor_door ?_⟩
    have := q1 (by rw [due]; intro z; cases z) (.exn "NoDoor" [])
    rw [due] at this
    exact this
end
end SW
namespace SW
open PySem L2

/-! k57: a step drawn -/
structure G57 (S0 S : Sto) (b z : Nat) : Prop where
  fr : Fr S0 S b
  bx : ∃ z', z' ≤ z ∧ Bx S b z'
section
variable {S0 S : Sto} {b z : Nat}
theorem G57.mono {z' : Nat} (h : G57 S0 S b z) (l : z ≤ z') : G57 S0 S b z' := ⟨h.fr, let ⟨a, h1, h2⟩ := h.bx; ⟨a, Nat.le_trans h1 l, h2⟩⟩
theorem G57.step {S' : Sto} (h : G57 S0 S b z) (l : S.length ≤ S'.length) (f : ∀ k, k < S.length → S'[k]? = S[k]?) : G57 S0 S' b z :=
  ⟨h.fr.trans ⟨l, fun k hk _ => f k hk⟩, let ⟨a, h1, h2⟩ := h.bx; ⟨a, h1, h2.of (f _ h2.lt)⟩⟩
theorem take57 {m : Nat} {Q : D → Sto → Prop} (h : G57 S0 S b z) (hz : z ≤ 900000) (hm : 0 < m) (hm2 : m < 1000000) (q : ∀ (v : Nat) (S' : Sto), v < m → G57 S0 S' b (z + 1) → Fr S S' b → Q (.int v) S') : Wp (g_l_take [.loc b, .int m] S) Q := by
  obtain ⟨a, h1, h2⟩ := h.bx
  refine take_ok h2 (by omega) hm hm2 fun v S' hv hb l f => ?_
  have fr : Fr S S' b := ⟨by omega, fun n _ hn => f n hn⟩
  exact q v S' hv ⟨h.fr.trans fr, a + 1, by omega, hb⟩ fr
end
def Sa57 : EvS := (seqS (stS 2 (b2E sbD (vE 1) (cE (.str "at"))))
  (seqS (stS 3 (aE g_l_take (consA (vE 0) (consA (aE max2D (consA (cE (.int 1)) (consA (b2E addD (b2E sbD (b2E sbD (vE 1) (cE (.str "many"))) (vE 2)) (aE intD (consA (b2E eqD (aE g_l_take (consA (vE 0) (consA (cE (.int 6)) nilA))) (cE (.int 0))) nilA))) nilA))) nilA))))
  (ifS (tB (b2E eqD (aE g_l_take (consA (vE 0) (consA (cE (.int 16)) nilA))) (cE (.int 0)))) (stS 3 (u1E negD (cE (.int 1)))) nxS)))
def Sb57 : EvS := (seqS (stS 4 (getE (b2E sbD (vE 1) (cE (.str "ends"))) (aE tupD (consA (vE 2) (consA (vE 3) nilA)))))
  (seqS (stS 5 (aE g_l_mark (consA (aE g_l_take (consA (vE 0) (consA (b2E sbD (aE lstD (consA (cE (.int 4)) (consA (cE (.int 12)) nilA))) (aE intD (consA (b2E eqD (aE g_l_take (consA (vE 0) (consA (cE (.int 3)) nilA))) (cE (.int 0))) nilA))) nilA))) nilA)))
  (ifS (andT (tB (b2E isNotD (vE 4) (cE .non))) (tB (b2E gtD (aE g_l_take (consA (vE 0) (consA (cE (.int 3)) nilA))) (cE (.int 0))))) (stS 5 (b2E sbD (vE 4) (cE (.int 0)))) nxS)))
def Sc57a : EvS := (seqS (stS 6 (getE2 (b2E sbD (vE 1) (cE (.str "many"))) (vE 5) (b2E addD (cE (.int 1)) (aE g_l_take (consA (vE 0) (consA (cE (.int 6)) nilA))))))
  (ifS (tB (b2E eqD (aE g_l_take (consA (vE 0) (consA (cE (.int 5)) nilA))) (cE (.int 0)))) (stS 6 (aE g_l_take (consA (vE 0) (consA (cE (.int 7)) nilA)))) nxS))
def Sd57a : EvS := (seqS (stS 7 (aE g_l_take (consA (vE 0) (consA (aE max2D (consA (cE (.int 1)) (consA (b2E addD (vE 6) (aE intD (consA (b2E eqD (aE g_l_take (consA (vE 0) (consA (cE (.int 6)) nilA))) (cE (.int 0))) nilA))) nilA))) nilA))))
  (seqS (ifS (andT (tB (b2E isNotD (vE 4) (cE .non))) (andT (tB (b2E eqD (vE 5) (b2E sbD (vE 4) (cE (.int 0))))) (tB (b2E gtD (aE g_l_take (consA (vE 0) (consA (cE (.int 4)) nilA))) (cE (.int 0)))))) (stS 7 (b2E sbD (vE 4) (cE (.int 1)))) nxS)
  (rtS (aE tupD (consA (vE 3) (consA (vE 7) (consA (vE 5) (consA (vE 6) nilA))))))))
theorem seqS_assoc {A B C : EvS} : seqS (seqS A B) C = seqS A (seqS B C) := by
  funext τ S
  unfold seqS
  cases A τ S with
  | none => rfl
  | some p =>
    obtain ⟨o, S1⟩ := p
    cases o <;> rfl
theorem step_split : b_l_step = seqS Sa57 (seqS Sb57 (seqS Sc57a Sd57a)) := by
  unfold b_l_step Sa57 Sb57 Sc57a Sd57a
  simp only [seqS_assoc]
/-- what stands in the dict of ends is an end -/
def EnV (S : Sto) (en : Nat) : Prop := ∀ kvs, S[en]? = some (.dT kvs) → ∀ p ∈ kvs, ∃ e : End, p.2 = mE2 e ∧ e.1 < 12
theorem lk_mem {K : Type} [DecidableEq K] {kvs : List (K × D)} {k : K} {v : D} (h : lk kvs k = some v) : ∃ p ∈ kvs, p.2 = v := by
  induction kvs with
  | nil => cases h
  | cons p l ih =>
    obtain ⟨a, c⟩ := p
    rw [lk_cons] at h
    split at h
    · cases h; exact ⟨_, List.mem_cons_self, rfl⟩
    · obtain ⟨q, h1, h2⟩ := ih h
      exact ⟨q, List.mem_cons_of_mem _ h1, h2⟩
section
variable {S0 S : Sto} {md o mn en z0 z b : Nat} {w : Wb} {L : List Nat} {T : List End} {x : Nat}
structure H57 (S0 : Sto) (md o mn en z0 b : Nat) (w : Wb) (L : List Nat) (T : List End) (x : Nat) : Prop where
  F : Ff w L T
  M : MdAt S0 md o mn en z0 w L T x
  hx : x ∈ L
  nb : ¬ (b = md ∨ b = o ∨ b = mn ∨ b = en)
  ev : EnV S0 en
theorem H57.at_ (h : H57 S0 md o mn en z0 b w L T x) (g : G57 S0 S b z) : MdAt S md o mn en z0 w L T x :=
  h.M.of fun k hk => g.fr.at_ k (h.M.lt hk) fun e => h.nb (e ▸ hk)
theorem maxn {a v : Nat} (ha : a ≤ 12) : ∃ m : Nat, (if ((a : Int) + (if v = 0 then 1 else 0)) > 1 then ((a : Int) + (if v = 0 then 1 else 0)) else 1) = (m : Int) ∧ 0 < m ∧ m ≤ 13 := by
  by_cases hv : v = 0
  · simp only [if_pos hv]
    by_cases h : (a : Int) + 1 > 1
    · exact ⟨a + 1, by rw [if_pos h]; omega, by omega, by omega⟩
    · exact ⟨1, by rw [if_neg h]; rfl, by omega, by omega⟩
  · simp only [if_neg hv]
    by_cases h : (a : Int) + 0 > 1
    · exact ⟨a, by rw [if_pos h]; omega, by omega, by omega⟩
    · exact ⟨1, by rw [if_neg h]; rfl, by omega, by omega⟩
theorem eq0 {v : Nat} {S : Sto} {Q : D → Sto → Prop} : Wp (eqD (.int (v : Int)) (.int 0) S) Q ↔ Q (.bl (decide (v = 0))) S := by
  rw [wq_eqG ⟨rfl, by simp [dp]⟩ ⟨rfl, by simp [dp]⟩]
  have : decide (D.int (v : Int) = D.int 0) = decide (v = 0) := decide_eq_decide.mpr ⟨fun h => by have := D.int.inj h; omega, fun h => by rw [h]; rfl⟩
  rw [this]
theorem intb {v : Nat} {S : Sto} {Q : D → Sto → Prop} : Wp (intD [.bl (decide (v = 0))] S) Q ↔ Q (.int (if v = 0 then 1 else 0)) S := by
  have : intD [.bl (decide (v = 0))] S = some (.int (if v = 0 then 1 else 0), S) := by
    by_cases h : v = 0
    · rw [decide_eq_true h, if_pos h]; rfl
    · rw [decide_eq_false h, if_neg h]; rfl
  rw [this]; exact wp_some
theorem gt0 {v : Nat} {S : Sto} {Q : D → Sto → Prop} : Wp (gtD (.int (v : Int)) (.int 0) S) Q ↔ Q (.bl (decide (0 < v))) S := by
  have : gtD (.int (v : Int)) (.int 0) S = some (.bl (decide (0 < v)), S) := by
    have : gtD (.int (v : Int)) (.int 0) S = some (.bl (decide ((v : Int) > 0)), S) := rfl
    rw [this]
    have : decide ((v : Int) > 0) = decide (0 < v) := decide_eq_decide.mpr (by omega)
    rw [this]
  rw [this]; exact wp_some
theorem sa57_ok {o2 o3 o4 o5 o6 o7 : Option D} {R : Out → Sto → Prop} (h : H57 S0 md o mn en z0 b w L T x) (g : G57 S0 S b z) (hz : z ≤ 800000)
    (q : ∀ (di : Int) (S' : Sto), G57 S0 S' b (z + 3) → R (.nx [some (.loc b), some (.loc md), some (mkD x), some (.int di), o4, o5, o6, o7]) S') : Wp (Sa57 [some (.loc b), some (.loc md), o2, o3, o4, o5, o6, o7] S) R := by
  unfold Sa57
  have W := h.F.wk
  have h26 := h.F.kc.s26K W
  have M := h.at_ g
  have enx : ∀ n : Nat, nD n = D.int (n : Int) := fun _ => rfl
  have hxl : x < w.length := h.F.kc.lt x h.hx
  have h66 := W.doors _ _ (row_at hxl)
  (simp! only [md_at M, md_many M, sb_many M h26 h.hx, enx])
  refine take57 (m := 6) g (by omega) (by omega) (by omega) fun v S1 hv g1 f1 => ?_
  (simp! only [eq0, intb, wp_max2])
  obtain ⟨m1, e1, p1, p2⟩ := maxn (a := (rowD w x).length) (v := v) (by omega)
  rw [e1]
  refine take57 g1 (by omega) p1 (by omega) fun d S2 hd g2 f2 => ?_
  refine take57 (m := 16) g2 (by omega) (by omega) (by omega) fun v2 S3 hv2 g3 f3 => ?_
  (simp! only [eq0])
  by_cases h0 : v2 = 0
  · rw [if_pos (by simpa using h0)]
    exact q _ _ g3
  · rw [if_neg (by simpa using h0)]
    exact q _ _ g3
theorem sb57_ok {di : Int} {o4 o5 o6 o7 : Option D} {R : Out → Sto → Prop} (h : H57 S0 md o mn en z0 b w L T x) (g : G57 S0 S b z) (hz : z ≤ 800000)
    (q : ∀ (kd : D) (y : Nat) (S' : Sto), (kd = .non ∨ ∃ e : End, kd = mE2 e ∧ e.1 < 12) → y < 12 → G57 S0 S' b (z + 3) → R (.nx [some (.loc b), some (.loc md), some (mkD x), some (.int di), some kd, some (mkD y), o6, o7]) S') :
    Wp (Sb57 [some (.loc b), some (.loc md), some (mkD x), some (.int di), o4, o5, o6, o7] S) R := by
  unfold Sb57
  have M := h.at_ g
  obtain ⟨kvs, e1, e2, e3⟩ := M.en_
  have e0 : S0[en]? = some (.dT kvs) := by
    have := g.fr.at_ en (h.M.lt (.inr (.inr (.inr rfl)))) fun e => h.nb (e ▸ .inr (.inr (.inr rfl)))
    rw [← this]; exact e1
  have hk : ((lk kvs [.inr (mkS x), .inl di]).getD .non = .non ∨ ∃ e : End, (lk kvs [.inr (mkS x), .inl di]).getD .non = mE2 e ∧ e.1 < 12) := by
    cases hl : lk kvs [.inr (mkS x), .inl di] with
    | none => exact .inl rfl
    | some v =>
      obtain ⟨p, hp, rfl⟩ := lk_mem hl
      obtain ⟨e, h1, h2⟩ := h.ev kvs e0 p hp
      exact .inr ⟨e, h1, h2⟩
  (simp! only [])
  refine wp_getTg (n := en) (e := .tup [mkD x, .int di]) (key := [.inr (mkS x), .inl di]) (by (simp! only [md_ends M])) (by (simp! only [])) rfl e1 ?_
  generalize (lk kvs [.inr (mkS x), .inl di]).getD .non = kd at hk
  have hq := q kd
  replace hq := fun y S' => hq y S' hk
  (simp! only [])
  have l1 : (S ++ [MO.lst [.int 4, .int 12]])[S.length]? = some (.lst [.int 4, .int 12]) := sto_new
  have g1 : G57 S0 (S ++ [MO.lst [.int 4, .int 12]]) b z := g.step (by simp) fun k hk => sto_app hk
  have hbS : b < S.length := by obtain ⟨_, _, hb⟩ := g.bx; exact hb.lt
  generalize hS1 : S ++ [MO.lst [.int 4, .int 12]] = S1 at l1 g1 ⊢
  refine take57 (m := 3) g1 (by omega) (by omega) (by omega) fun v S2 hv g2 f2 => ?_
  have l2 : S2[S.length]? = some (.lst [.int 4, .int 12]) := f2.get (by omega) l1
  (simp! only [eq0, intb])
  have pick : ∃ m : Nat, atI [D.int 4, .int 12] (if v = 0 then 1 else 0) = some (.int (m : Int)) ∧ 0 < m ∧ m ≤ 12 := by
    by_cases h0 : v = 0
    · rw [if_pos h0]; exact ⟨12, rfl, by omega, by omega⟩
    · rw [if_neg h0]; exact ⟨4, rfl, by omega, by omega⟩
  obtain ⟨m, em, m1, m2⟩ := pick
  rw [wq_sbL l2]
  refine ⟨_, em, ?_⟩
  refine take57 g2 (by omega) m1 (by omega) fun y S3 hy g3 f3 => ?_
  refine mark_ok (by omega) fun S4 l4 f4 => ?_
  have g4 := g3.step l4 f4
  have emk : D.str (mkS y) = mkD y := rfl
  rw [emk]
  (simp! only [])
  rcases hk with rfl | ⟨e, rfl, he⟩
  · have n0 : isNonD .non = true := rfl
    (simp! only [wp_isnot_non, n0])
    exact hq y _ (by omega) (g4.mono (by omega))
  · have n1 : isNonD (mE2 e) = false := rfl
    have a0 : ∀ (S : Sto) (Q : D → Sto → Prop), Wp (sbD (mE2 e) (.int 0) S) Q ↔ Q (mkD e.1) S := fun S Q => by
      unfold mE2
      rw [wq_sbT]
      exact ⟨fun ⟨z, e, k⟩ => by cases e; exact k, fun k => ⟨_, rfl, k⟩⟩
    (simp! only [wp_isnot_non, n1])
    refine take57 (m := 3) g4 (by omega) (by omega) (by omega) fun v3 S5 hv3 g5 f5 => ?_
    (simp! only [gt0, a0])
    by_cases h0 : 0 < v3
    · rw [if_pos (by simpa using h0)]
      exact hq e.1 _ he g5
    · rw [if_neg (by simpa using h0)]
      exact hq y _ (by omega) g5
theorem sc57_ok {d3 d4 : Option D} {y : Nat} {o6 o7 : Option D} {R : Out → Sto → Prop} (h : H57 S0 md o mn en z0 b w L T x) (g : G57 S0 S b z) (hz : z ≤ 800000) (hy : y < 12)
    (q : ∀ (n : Nat) (S' : Sto), n ≤ 6 → G57 S0 S' b (z + 3) → R (.nx [some (.loc b), some (.loc md), some (mkD x), d3, d4, some (mkD y), some (nD n), o7]) S') :
    Wp (Sc57a [some (.loc b), some (.loc md), some (mkD x), d3, d4, some (mkD y), o6, o7] S) R := by
  unfold Sc57a
  have M := h.at_ g
  have W := h.F.wk
  have h26 := h.F.kc.s26K W
  have enx : ∀ n : Nat, nD n = D.int (n : Int) := fun _ => rfl
  (simp! only [])
  refine wp_get2Sg (n := mn) (by (simp! only [md_many M])) rfl M.mn_ ?_
  (simp! only [])
  refine take57 (m := 6) g (by omega) (by omega) (by omega) fun v S1 hv g1 f1 => ?_
  have M1 := h.at_ g1
  (simp! only [])
  have nv : ∃ n : Nat, (lk (kvMn w L) (.inr (mkS y))).getD (.int (1 + (v : Int))) = nD n ∧ n ≤ 6 := by
    rw [lk_kvMn (by omega) h26]
    by_cases hm : y ∈ L
    · rw [if_pos hm]
      exact ⟨_, rfl, W.doors _ _ (row_at (h.F.kc.lt y hm))⟩
    · rw [if_neg hm]
      exact ⟨1 + v, by unfold nD; show D.int _ = _; congr 1, by omega⟩
  obtain ⟨n, en', hn⟩ := nv
  refine ⟨M1.mn_, ?_⟩
  rw [en']
  (simp! only [])
  refine take57 (m := 5) g1 (by omega) (by omega) (by omega) fun v2 S2 hv2 g2 f2 => ?_
  (simp! only [eq0])
  by_cases h0 : v2 = 0
  · rw [if_pos (by simpa using h0)]
    refine take57 (m := 7) g2 (by omega) (by omega) (by omega) fun n2 S3 hn2 g3 f3 => ?_
    exact q n2 _ (by omega) g3
  · rw [if_neg (by simpa using h0)]
    exact q n _ hn (g2.mono (by omega))
theorem sd57_ok {di : Int} {kd : D} {y n : Nat} {o2 o7 : Option D} {R : Out → Sto → Prop} (hk : kd = .non ∨ ∃ e : End, kd = mE2 e ∧ e.1 < 12) (g : G57 S0 S b z) (hz : z ≤ 800000) (hy : y < 12) (hn : n ≤ 6)
    (q : ∀ (c : Nat) (S' : Sto), G57 S0 S' b (z + 3) → R (.rt (.tup [.int di, nD c, mkD y, nD n])) S') :
    Wp (Sd57a [some (.loc b), some (.loc md), o2, some (.int di), some kd, some (mkD y), some (nD n), o7] S) R := by
  unfold Sd57a
  have enx : ∀ n : Nat, nD n = D.int (n : Int) := fun _ => rfl
  (simp! only [enx])
  refine take57 (m := 6) g (by omega) (by omega) (by omega) fun v S1 hv g1 f1 => ?_
  (simp! only [eq0, intb, wp_max2])
  obtain ⟨m1, e1, p1, p2⟩ := maxn (a := n) (v := v) (by omega)
  rw [e1]
  refine take57 g1 (by omega) p1 (by omega) fun c S2 hc g2 f2 => ?_
  (simp! only [])
  rcases hk with rfl | ⟨e, rfl, he⟩
  · have n0 : isNonD .non = true := rfl
    (simp! only [wp_isnot_non, n0])
    exact q c _ (g2.mono (by omega))
  · have n1 : isNonD (mE2 e) = false := rfl
    have a0 : ∀ (S : Sto) (Q : D → Sto → Prop), Wp (sbD (mE2 e) (.int 0) S) Q ↔ Q (mkD e.1) S := fun S Q => by
      unfold mE2
      rw [wq_sbT]
      exact ⟨fun ⟨z, e, k⟩ => by cases e; exact k, fun k => ⟨_, rfl, k⟩⟩
    have a1 : ∀ (S : Sto) (Q : D → Sto → Prop), Wp (sbD (mE2 e) (.int 1) S) Q ↔ Q (nD e.2) S := fun S Q => by
      unfold mE2
      rw [wq_sbT]
      exact ⟨fun ⟨z, e, k⟩ => by cases e; exact k, fun k => ⟨_, rfl, k⟩⟩
    have eqm : ∀ (S : Sto) (Q : D → Sto → Prop), Wp (eqD (mkD y) (mkD e.1) S) Q ↔ Q (.bl (decide (y = e.1))) S := fun S Q => by
      rw [wq_eqG (mkD_gd (by omega)) (mkD_gd (by omega))]
      have : decide (mkD y = mkD e.1) = decide (y = e.1) := decide_eq_decide.mpr ⟨fun h => mkD_inj (by omega) (by omega) h, fun h => by rw [h]⟩
      rw [this]
    (simp! only [wp_isnot_non, n1, a0, eqm])
    by_cases h1 : y = e.1
    · rw [if_pos (by simpa using h1)]
      refine take57 (m := 4) g2 (by omega) (by omega) (by omega) fun v3 S3 hv3 g3 f3 => ?_
      (simp! only [gt0, a1])
      by_cases h0 : 0 < v3
      · rw [if_pos (by simpa using h0)]
        exact q e.2 _ g3
      · rw [if_neg (by simpa using h0)]
        exact q c _ g3
    · rw [if_neg (by simpa using h1)]
      exact q c _ (g2.mono (by omega))
theorem step57_ok {Q : D → Sto → Prop} (h : H57 S0 md o mn en z0 b w L T x) (g : G57 S0 S b z) (hz : z ≤ 700000)
    (q : ∀ (di : Int) (c y n : Nat) (S' : Sto), y < 12 → n ≤ 6 → G57 S0 S' b (z + 12) → Q (.tup [.int di, nD c, mkD y, nD n]) S') : Wp (g_l_step [.loc b, .loc md] S) Q := by
  unfold g_l_step
  refine (wp_fnD (by rfl)).mpr ?_
  rw [step_split]
  refine wp_seqS.mpr (sa57_ok h g (by omega) fun di S1 g1 => ?_)
  refine wp_seqS.mpr (sb57_ok h g1 (by omega) fun kd y S2 hk hy g2 => ?_)
  refine wp_seqS.mpr (sc57_ok h g2 (by omega) hy fun n S3 hn g3 => ?_)
  refine sd57_ok hk g3 (by omega) hy hn fun c S4 g4 => ?_
  exact q di c y n S4 hy hn (g4.mono (by omega))
end
end SW
namespace SW
open PySem L2

/-! k57: a step told to the chart and to the law's own keeping -/
theorem pt_mem {K : Type} [DecidableEq K] {kvs : List (K × D)} {k : K} {v : D} {p : K × D} (h : p ∈ ptK kvs k v) : p ∈ kvs ∨ p.2 = v := by
  unfold ptK at h
  split at h
  · obtain ⟨q, hq, e⟩ := List.mem_map.mp h
    split at e
    · right; rw [← e]
    · left; rw [← e]; exact hq
  · rcases List.mem_append.mp h with h | h
    · exact .inl h
    · right; rw [List.mem_singleton.mp h]
theorem dueD_gd {w : Wb} {L : List Nat} {T : List End} {x y c n : Nat} {di : Int} : gd (dueD w L T x di y c n) := by
  have s1 : ∀ u ∈ [Str.ofString "door", Str.ofString "doors", Str.ofString "end", Str.ofString "taken"], gd (.str u) := fun u hu => ⟨by
    have : PyData.strOk u = true := by
      simp only [List.mem_cons, List.not_mem_nil, or_false] at hu
      rcases hu with rfl | rfl | rfl | rfl <;> decide +kernel
    exact this, by simp [dp]⟩
  have n0 : gd D.non := ⟨rfl, by simp [dp]⟩
  unfold dueD clW
  split
  · by_cases a : y ∈ L ∧ (rowD w y).length ≠ n
    · rw [if_pos a]; exact s1 _ (by simp)
    · rw [if_neg a]
      by_cases b : isKn w T x di.toNat = true ∧ endR w x di.toNat ≠ (y, c)
      · rw [if_pos b]; exact s1 _ (by simp)
      · rw [if_neg b]
        by_cases e : y ∈ L ∧ isKn w T y c = true ∧ endR w y c ≠ (x, di.toNat)
        · rw [if_pos e]; exact s1 _ (by simp)
        · rw [if_neg e]; exact n0
  · exact s1 _ (by simp)
structure Q57 (S : Sto) (w : Wb) (g m le md o mn en b : Nat) (ps L : List Nat) (T : List End) (s x z : Nat) : Prop where
  ch : ChAt S g m le ps w L T s
  mo : MdAt S md o mn en z w L T x
  F : Ff w L T
  at_ : L[s]? = some x
  ev : EnV S en
  dj : ∀ k, (k = md ∨ k = o ∨ k = mn ∨ k = en) → ¬ (k = g ∨ k = m ∨ k = le ∨ k ∈ ps)
  b1 : ¬ (b = md ∨ b = o ∨ b = mn ∨ b = en)
  b2 : ¬ (b = g ∨ b = m ∨ b = le ∨ b ∈ ps)
section
variable {S : Sto} {w : Wb} {g m le md o mn en b : Nat} {ps L : List Nat} {T : List End} {s x z : Nat}
theorem Q57.keep {S' : Sto} (h : Q57 S w g m le md o mn en b ps L T s x z) (f : ∀ k, k < S.length → k ≠ b → S'[k]? = S[k]?) : Q57 S' w g m le md o mn en b ps L T s x z :=
  ⟨h.ch.ofO fun k ok => f k (h.ch.ltO ok) fun e => h.b2 (e ▸ ok), h.mo.of fun k ok => f k (h.mo.lt ok) fun e => h.b1 (e ▸ ok), h.F, h.at_, fun kvs e => h.ev kvs (by
    rw [← f en (h.mo.lt (.inr (.inr (.inr rfl)))) fun e => h.b1 (e ▸ .inr (.inr (.inr rfl)))]; exact e), h.dj, h.b1, h.b2⟩
theorem Q57.box {b' : Nat} {S' : Sto} (h : Q57 S w g m le md o mn en b ps L T s x z) (hb : S.length ≤ b') (f : ∀ k, k < S.length → S'[k]? = S[k]?) : Q57 S' w g m le md o mn en b' ps L T s x z :=
  ⟨h.ch.of f, h.mo.keep f, h.F, h.at_, fun kvs e => h.ev kvs (by rw [← f en (h.mo.lt (.inr (.inr (.inr rfl))))]; exact e), h.dj, fun ok => by have := h.mo.lt ok; omega, fun ok => by have := h.ch.ltO ok; omega⟩
def In57 : EvS := (seqS (asS (aE g_l_step (consA (vE 1) (consA (vE 4) nilA))) (patG (.tp [(.nm 8), (.nm 9), (.nm 10), (.nm 2)])))
  (seqS (stS 7 (aE g_l_due_v7 (consA (vE 4) (consA (vE 8) (consA (vE 9) (consA (vE 10) (consA (vE 2) nilA)))))))
  (seqS (ifS (tB (b2E neD (aE g_l_told_v4 (consA (vE 3) (consA (vE 8) (consA (vE 9) (consA (vE 10) (consA (vE 2) nilA)))))) (vE 7))) (rtS (cE (.bl false))) nxS)
  (seqS (ifS (tB (b2E isD (vE 7) (cE .non))) (exS (aE g_l_stepped (consA (vE 4) (consA (vE 8) (consA (vE 9) (consA (vE 10) (consA (vE 2) nilA))))))) nxS)
  (ifS (notT (tB (aE g_l_chart_right (consA (vE 3) (consA (vE 4) nilA))))) (rtS (cE (.bl false))) nxS)))))
theorem in57_ok {zb : Nat} {o0 o2 o5 o6 o7 o8 o9 o10 : Option D} {Q : Out → Sto → Prop} (h : Q57 S w g m le md o mn en b ps L T s x z) (hz : z ≤ 90000) (hb : Bx S b zb) (hzb : zb ≤ 600000)
    (q : ∀ (S' : Sto) (w' : Wb) (ps' L' : List Nat) (T' : List End) (s' x' z' zb' : Nat) (p2 p7 p8 p9 p10 : Option D), Q57 S' w' g m le md o mn en b ps' L' T' s' x' z' → z' ≤ z + 2 → Bx S' b zb' → zb' ≤ zb + 12 →
      Q (.nx [o0, some (.loc b), p2, some (.loc g), some (.loc md), o5, o6, p7, p8, p9, p10]) S') :
    Wp (In57 [o0, some (.loc b), o2, some (.loc g), some (.loc md), o5, o6, o7, o8, o9, o10] S) Q := by
  unfold In57
  have enx : ∀ n : Nat, nD n = D.int (n : Int) := fun _ => rfl
  have hxm := List.mem_of_getElem? h.at_
  have H : H57 S md o mn en z b w L T x := ⟨h.F, h.mo, hxm, h.b1, h.ev⟩
  have hL : ∀ z ∈ L, z < 12 := fun z hz => by have := h.F.kc.lt z hz; rw [h.F.ln] at this; exact this
  have x12 := hL x hxm
  (simp! only [])
  refine step57_ok H ⟨Fr.refl _ _, zb, Nat.le_refl _, hb⟩ (by omega) fun di c y n S1 hy hn g1 => ?_
  have h1 := h.keep fun k hk hne => g1.fr.at_ k hk hne
  obtain ⟨zb1, hzb1, hb1⟩ := g1.bx
  have hl1 := g1.fr.len
  (simp! only [])
  refine due57_ok h1.F h1.mo hxm hy hn ?_
  (simp! only [])
  refine told57_ok h1.F h1.ch h1.at_ hy hn (fun hne e => ?_) fun d hdi hd hc hdue w' F' sw hle he hyn W' hd' K' S2 ps2 c2 l2 f2 p2 => ?_
  · rw [wq_neG dueD_gd dueD_gd]
    have f2 : ∀ k, k < S1.length → (S1 ++ [e])[k]? = S1[k]? := fun k hk => sto_app hk
    have h2 := h1.keep (S' := S1 ++ [e]) fun k hk _ => f2 k hk
    have hb2 : Bx (S1 ++ [e]) b zb1 := hb1.of (f2 _ hb1.lt)
    generalize S1 ++ [e] = S2 at h2 hb2
    have nn : isNonD (dueD w L T x di y c n) = false := by
      unfold dueD at hne ⊢
      split
      · rename_i hc
        rw [if_pos hc] at hne
        cases hcl : clW w L T x di.toNat y c n with
        | none => rw [hcl] at hne; exact (hne rfl).elim
        | some u => rfl
      · rfl
    (simp! only [decide_true, Bool.not_true, wp_is_non, nn])
    refine chart_right_okK h2.F.wk h2.ch h2.mo h2.F.kc h2.at_ fun S3 l3 f3 => ?_
    (simp! only [])
    exact q S3 w ps L T s x z zb1 _ _ _ _ _ (h2.keep fun k hk _ => f3 k hk) (by omega) (hb2.of (f3 _ hb2.lt)) hzb1
  · subst hdi
    rw [hdue]
    have n0 : isNonD D.non = true := rfl
    have gn0 : gd D.non := ⟨rfl, by simp [dp]⟩
    rw [wq_neG gn0 gn0]
    (simp! only [decide_true, Bool.not_true, wp_is_non, n0])
    have hb2 : Bx S2 b zb1 := hb1.of (f2 b hb1.lt (fun e => h1.b2 (.inl e)) (fun e => h1.b2 (.inr (.inl e))) (fun e => h1.b2 (.inr (.inr (.inl e)))) fun e => h1.b2 (.inr (.inr (.inr e))))
    have fm : ∀ k, (k = md ∨ k = o ∨ k = mn ∨ k = en) → S2[k]? = S1[k]? := fun k ok => f2 k (h1.mo.lt ok) (fun e => h1.dj k ok (.inl e)) (fun e => h1.dj k ok (.inr (.inl e))) (fun e => h1.dj k ok (.inr (.inr (.inl e)))) fun e => h1.dj k ok (.inr (.inr (.inr e)))
    have m2 : MdAt S2 md o mn en z w L T x := h1.mo.of fm
    have m3 : MdAt S2 md o mn en z w' L T x := sw.md h1.F.ln F'.ln hle m2
    have own2 : ∀ k, k < S1.length → ¬ (k = g ∨ k = m ∨ k = le ∨ k ∈ ps) → ¬ (k = g ∨ k = m ∨ k = le ∨ k ∈ ps2) := fun k hk no ok => by
      rcases ok with e | e | e | e
      · exact no (.inl e)
      · exact no (.inr (.inl e))
      · exact no (.inr (.inr (.inl e)))
      · rcases p2 k e with y | y
        · exact no (.inr (.inr (.inr y)))
        · omega
    have dj2 : ∀ k, (k = md ∨ k = o ∨ k = mn ∨ k = en) → ¬ (k = g ∨ k = m ∨ k = le ∨ k ∈ ps2) := fun k ok => own2 k (h1.mo.lt ok) (h1.dj k ok)
    have nb2 := own2 b hb1.lt h1.b2
    have st := stepped_okK (Q := fun v S' => ∃ (_ : v = .non), MdAt S' md o mn en (z + 2) w' (metStep L (y, c)) (addT w' T x d) y ∧ EnV S' en ∧ S'.length = S2.length ∧ ∀ k, k ≠ md → k ≠ o → k ≠ mn → k ≠ en → S'[k]? = S2[k]?) W' m3 K' hxm hd' (by omega) fun S3 m4 ev l4 f4 => by
      refine ⟨rfl, by rw [he] at m4; exact m4, fun kvs e p hp => ?_, l4, f4⟩
      obtain ⟨kv0, k1, _, _⟩ := m3.en_
      have e5 := ev kv0 k1
      rw [e] at e5
      cases e5
      rcases pt_mem hp with hp | hp
      · rcases pt_mem hp with hp | hp
        · exact h1.ev kv0 (by rw [← fm en (.inr (.inr (.inr rfl)))]; exact k1) p hp
        · exact ⟨_, hp, by rw [he]; exact hy⟩
      · exact ⟨_, hp, x12⟩
    rw [he, hyn] at st
    refine st.mono fun v S3 ⟨ev0, m4, ev4, l4, f4⟩ => ?_
    subst ev0
    have c4 : ChAt S3 g m le ps2 w' _ _ _ := c2.ofO fun k ok => f4 k (fun e => dj2 k (.inl e) ok) (fun e => dj2 k (.inr (.inl e)) ok) (fun e => dj2 k (.inr (.inr (.inl e))) ok) fun e => dj2 k (.inr (.inr (.inr e))) ok
    have hb4 : Bx S3 b zb1 := hb2.of (f4 b (fun e => h.b1 (.inl e)) (fun e => h.b1 (.inr (.inl e))) (fun e => h.b1 (.inr (.inr (.inl e)))) fun e => h.b1 (.inr (.inr (.inr e))))
    have at4 : (metStep L (y, c))[(metStep L (y, c)).idxOf y]? = some y := idx_get metStep_in
    have h4 : Q57 S3 w' g m le md o mn en b ps2 _ _ _ y (z + 2) := ⟨c4, m4, F', at4, ev4, dj2, h.b1, nb2⟩
    (simp! only [])
    refine chart_right_okK W' c4 m4 F'.kc at4 fun S5 l5 f5 => ?_
    (simp! only [])
    exact q S5 w' ps2 _ _ _ _ _ zb1 _ _ _ _ _ (h4.keep fun k hk _ => f5 k hk) (Nat.le_refl _) (hb4.of (f5 _ hb4.lt)) hzb1
end
end SW
namespace SW
open PySem L2

/-! k57: the law -/
def Ou57 : EvS := (seqS (stS 1 (aE g_l_box (consA (vE 0) (consA (b2E addD (vE 5) (cE (.int 1))) nilA))))
  (forS (rgI1 (cE (.int 2))) (.nm 6) In57))
theorem cut_le57 {ds : List D} {n : Nat} (h : ds.length ≤ n) : (cutD ds (some 1) (some 63)).length ≤ n := by
  unfold cutD
  rw [List.length_take, List.length_drop]
  omega
section
variable {S : Sto} {w : Wb} {g md : Nat}
def St57 (i0 : D) (g md : Nat) (n : Nat) (S : Sto) (τ : Tau) : Prop := ∃ (w : Wb) (m le o mn en b : Nat) (ps L : List Nat) (T : List End) (s x z : Nat) (o2 o5 o6 o7 o8 o9 o10 : Option D), τ = [some i0, some (.loc b), o2, some (.loc g), some (.loc md), o5, o6, o7, o8, o9, o10]
  ∧ Q57 S w g m le md o mn en b ps L T s x z ∧ z ≤ n
def Sx57 (i0 i5 : D) (g md b n nb : Nat) (S : Sto) (τ : Tau) : Prop := ∃ (w : Wb) (m le o mn en : Nat) (ps L : List Nat) (T : List End) (s x z zb : Nat) (o2 o6 o7 o8 o9 o10 : Option D), τ = [some i0, some (.loc b), o2, some (.loc g), some (.loc md), some i5, o6, o7, o8, o9, o10]
  ∧ Q57 S w g m le md o mn en b ps L T s x z ∧ z ≤ n ∧ Bx S b zb ∧ zb ≤ nb
theorem ou57_ok {i n : Nat} {ns : List Int} {τ : Tau} {Q : Out → Sto → Prop} (h : St57 (.fl (ns.map D.int)) g md n S τ) (hns : ns.length ≤ 63) (hi : i ≤ 70) (h5 : τ[5]? = some (some (nD i))) (hn : n ≤ 80000) (q : ∀ (S' : Sto) (τ' : Tau), St57 (.fl (ns.map D.int)) g md (n + 4) S' τ' → Q (.nx τ') S') : Wp (Ou57 τ S) Q := by
  obtain ⟨w, m, le, o, mn, en, b, ps, L, T, s, x, z, o2, o5, o6, o7, o8, o9, o10, rfl, h, hz⟩ := h
  have e5 : o5 = some (nD i) := by simpa using h5
  subst e5
  unfold Ou57
  have enx : ∀ n : Nat, nD n = D.int (n : Int) := fun _ => rfl
  have e1 : ((i : Int) + 1) = ((i + 1 : Nat) : Int) := by omega
  (simp! only [enx, e1])
  refine boxF_ok (by omega) (by omega) fun b' S1 hb1 hbl l1 f1 => ?_
  have h1 := h.box hbl f1
  (simp! only [enx])
  have e2 : (2 : Int) = ((2 : Nat) : Int) := rfl
  rw [e2]
  refine ⟨by decide, ?_⟩
  rw [Int.toNat_natCast]
  refine lo_rng 0 2 (fun j τ S' => Sx57 (.fl (ns.map D.int)) (nD i) g md b' (n + 2 * j) (12 * j) S' τ) ⟨_, _, _, _, _, _, _, _, _, _, _, _, _, _, _, _, _, _, _, rfl, h1, by omega, hb1, by omega⟩ ?_ ?_
  · rintro j τ S2 hj h2
    obtain ⟨w, m, le, o, mn, en, ps, L, T, s, x, z, zb, o2, o6, o7, o8, o9, o10, rfl, h2, hz2, hb2, hzb2⟩ := h2
    refine ⟨_, pb_nm, ?_⟩
    refine in57_ok h2 (by omega) hb2 (by omega) fun S3 w3 ps3 L3 T3 s3 x3 z3 zb3 p2 p7 p8 p9 p10 h3 hz3 hb3 hzb3 => ?_
    exact ⟨_, _, _, _, _, _, _, _, _, _, _, _, _, _, _, _, _, _, _, rfl, h3, by omega, hb3, by omega⟩
  · rintro τ S2 ⟨w, m, le, o, mn, en, ps, L, T, s, x, z, zb, o2, o6, o7, o8, o9, o10, rfl, h2, hz2, hb2, hzb2⟩
    exact q _ _ ⟨_, _, _, _, _, _, _, _, _, _, _, _, _, _, _, _, _, _, _, _, rfl, h2, by omega⟩
end
theorem law_true (ns : List Int) (hns : ns.length ≤ 63) : ∃ S', g_law_v80 [.fl (ns.map D.int)] [] = some (.bl true, S') := by
  have main : Wp (g_law_v80 [.fl (ns.map D.int)] []) fun d _ => d = .bl true := by
    unfold g_law_v80
    refine (wp_fnD (by rfl)).mpr ?_
    show Wp (seqS (stS 1 (aE g_l_box (consA (vE 0) (consA (cE (.int 0)) nilA))))
      (seqS (stS 2 (aE g_l_take (consA (vE 1) (consA (cE (.int 7)) nilA))))
      (seqS (stS 3 (mkE "Chart" g_Chart___init__ (consA (aE g_l_mark (consA (cE (.int 1)) nilA)) (consA (vE 2) nilA))))
      (seqS (stS 4 (aE g_l_begun (consA (aE g_l_mark (consA (cE (.int 1)) nilA)) (consA (vE 2) nilA))))
      (seqS (forS (rgI1 (aE max2D (consA (cE (.int 8)) (consA (aE lenD (consA (slE (vE 0) (someO (cE (.int 1))) (someO (cE (.int 63)))) nilA)) nilA)))) (.nm 5) Ou57)
      (rtS (cE (.bl true)))))))
      _ _) _
    have enx : ∀ n : Nat, nD n = D.int (n : Int) := fun _ => rfl
    have z0 : (0 : Int) = ((0 : Nat) : Int) := rfl
    (simp! only [wp_fstS, wp_fldG, wp_fagS, wp_sagS, wp_mtE, wp_mkE])
    refine boxF_ok (k := 0) (by omega) (by omega) fun b S1 hb hbl l1 f1 => ?_
    (simp! only [wp_fstS, wp_fldG, wp_fagS, wp_sagS, wp_mtE, wp_mkE])
    refine take_ok (m := 7) hb (by omega) (by omega) (by omega) fun n0 S3 hn0 hb3 l3 f3 => ?_
    obtain ⟨F0, len0⟩ := ff57 (n := n0) (by omega)
    generalize hw : w57 n0 = w at F0 len0
    have x1 : 1 < w.length := by rw [F0.ln]; omega
    (simp! only [wp_fstS, wp_fldG, wp_fagS, wp_sagS, wp_mtE, wp_mkE])
    refine mark_ok (r := 1) (by omega) fun S4 l4 f4 => ?_
    (simp! only [wp_fstS, wp_fldG, wp_fagS, wp_sagS, wp_mtE, wp_mkE, enx])
    have eL : (n0 : Int) = (((rowD w 1).length : Nat) : Int) := by rw [len0]
    rw [eL]
    refine ch_init_okK sto_new F0.wk x1 fun S5 m le p hch hm hle hp l5 f5 => ?_
    simp only [List.length_append, List.length_singleton] at hm hle hp l5 f5
    refine ⟨rfl, ?_⟩
    (simp! only [wp_fstS, wp_fldG, wp_fagS, wp_sagS, wp_mtE, wp_mkE, enx])
    refine mark_ok (r := 1) (by omega) fun S6 l6 f6 => ?_
    (simp! only [wp_fstS, wp_fldG, wp_fagS, wp_sagS, wp_mtE, wp_mkE, enx])
    refine begun_okK F0.wk x1 fun S7 md o mn en hmd n1 n2 n3 n4 l7 f7 => ?_
    have hch7 := (hch.of f6).of f7
    have at7 : [1][0]? = some 1 := rfl
    have hbS := hb3.lt
    have ev0 : EnV S7 en := fun kvs e q hq => by
      obtain ⟨kv0, k1, k2, _⟩ := hmd.en_
      rw [e] at k1
      cases k1
      have := List.length_eq_zero_iff.mp (Nat.le_zero.mp k2)
      rw [this] at hq
      cases hq
    have h7 : Q57 S7 w S4.length m le md o mn en b [p] [1] [] 0 1 0 := ⟨hch7, hmd, F0, at7, ev0, fun k ok no => by
      have a1 := (hch.of f6).ltO no
      rcases ok with e | e | e | e <;> omega, fun ok => by rcases ok with e | e | e | e <;> omega, fun ok => by
      rcases ok with e | e | e | e
      · omega
      · omega
      · omega
      · rw [List.mem_singleton.mp e] at hbS; omega⟩
    have hcl := cut_le57 (n := 63) (ds := ns.map D.int) (by rw [List.length_map]; omega)
    (simp! only [wp_fstS, wp_fldG, wp_fagS, wp_sagS, wp_mtE, wp_mkE])
    generalize cutD (ns.map D.int) (some 1) (some 63) = cu at hcl ⊢
    have hn : (S7 ++ [MO.lst cu])[S7.length]? = some (.lst cu) := sto_new
    have h9 := h7.keep (S' := S7 ++ [MO.lst cu]) fun k hk _ => sto_app hk
    generalize S7 ++ [MO.lst cu] = S9 at hn h9 ⊢
    (simp! only [wp_fstS, wp_fldG, wp_fagS, wp_sagS, wp_mtE, wp_mkE, len_loc hn])
    have hm : ∃ m : Nat, (if ((cu.length : Nat) : Int) > 8 then ((cu.length : Nat) : Int) else 8) = (m : Int) ∧ m ≤ 63 := by
      by_cases h : ((cu.length : Nat) : Int) > 8
      · exact ⟨cu.length, by rw [if_pos h], by omega⟩
      · exact ⟨8, by rw [if_neg h]; rfl, by omega⟩
    obtain ⟨mm, hmm, hm63⟩ := hm
    rw [hmm]
    refine ⟨by simp [big62]; omega, ?_⟩
    rw [Int.toNat_natCast]
    refine lo_rng 0 mm (fun i τ S' => St57 (.fl (ns.map D.int)) S4.length md (4 * i) S' τ) ⟨_, _, _, _, _, _, _, _, _, _, _, _, _, _, _, _, _, _, _, _, rfl, h9, by omega⟩ ?_ ?_
    · rintro i τ T hi hI
      obtain ⟨w, m', le', o', mn', en', b', ps', L', T', s', x', z', o2, o5, o6, o7, o8, o9, o10, rfl, hI⟩ := hI
      have e0 : ((0 : Int) + (i : Int)) = (i : Int) := by omega
      rw [e0]
      refine ⟨_, pb_nm, ?_⟩
      refine ou57_ok (i := i) (n := 4 * i) ⟨w, m', le', o', mn', en', b', ps', L', T', s', x', z', _, _, o6, o7, o8, o9, o10, rfl, hI⟩ hns (by omega) rfl (by omega) fun S' τ' h' => ?_
      show St57 _ _ _ (4 * (i + 1)) S' τ'
      rw [show 4 * (i + 1) = 4 * i + 4 by omega]
      exact h'
    · rintro τ T ⟨w, m', le', o', mn', en', b', ps', L', T', s', x', z', o2, o5, o6, o7, o8, o9, o10, rfl, hI, hz⟩
      (simp! only [wp_fstS, wp_fldG, wp_fagS, wp_sagS, wp_mtE, wp_mkE])
  obtain ⟨d, S', e, rfl⟩ := main
  exact ⟨S', e⟩
end SW
namespace SW
open PySem L2
section
variable {P : Program} {w : World} {K : PySem.W.Frag} {mg : Str → Option Value} {base : Heap}
def top (i : Nat) : Stmt := PySem.Challenge.pw_stonewalker_k57_steps_refused.main.body.getD i (.Pass ⟨0, 0, 0, 0⟩)
/-! _law_box -/
abbrev s_l_box : Stmt := top 14
abbrev N_l_box : List Str := ["_law_script", "_law_k", "_law_cell"]
theorem sc_l_box : FnScope N_l_box ["_law_script", "_law_k"] (defScope s_l_box) := ⟨rfl, rfl, rfl, by decide +kernel, rfl, by decide +kernel, by decide +kernel⟩
theorem ok_l_box {f : Addr} {fd : FuncData} (B : Bi mg) (F : Fun K "_law_box" "_law_box" s_l_box f fd)  : FnOk P w K mg base CX0 1 f fd ["_law_script", "_law_k"] (spE K g_l_box) := by
  have h : ∃ b, FnOk P w K mg base CX0 1 f fd ["_law_script", "_law_k"] (spE K (fnD 2 3 b)) ∧ b = b_l_box := ⟨_, fn_mk F sc_l_box fun cdv A outer s H E hc =>
    (ess_cons (es_set (i := 2) sc_l_box.nd rfl (by first | exact Or.inl rfl | exact Or.inr rfl) (ee_sub hc (ee_op opr_add op2_add (ee_v 0 (pv 0)) (ee_op opr_mul op2_mul (ee_lst (ea_cons ee_int ea_nil)) (ee_op opr_add op2_add (ee_v 1 (pv 1)) ee_int))) (ee_v 1 (pv 1))))
  (ess_one (es_ret (ee_lst (ea_cons (ee_op opr_mul op2_mul (ee_cb call_abs opa_abs rfl B.n_abs (by decide +kernel) (ea_cons (ee_v 2 (pv 2)) ea_nil)) (ee_ct call_int1 opa_int rfl B.n_int (by decide +kernel) (ea_cons (ee_cmp op_ge op2_ge (ee_cb call_abs opa_abs rfl B.n_abs (by decide +kernel) (ea_cons (ee_v 2 (pv 2)) ea_nil)) (ee_op op_pow op2_pow ee_int ee_int) (nomark _)) ea_nil))) (ea_cons (ee_op op_modN op2_mod (ee_op opr_mul op2_mul (ee_op opr_add op2_add (ee_op opr_add op2_add (ee_op op_modN op2_mod (ee_v 2 (pv 2)) ee_int) (ee_op opr_mul op2_mul ee_int (ee_v 1 (pv 1)))) ee_int) ee_int) ee_int) (ea_cons ee_int ea_nil))))))), rfl⟩
  obtain ⟨_, h, rfl⟩ := h
  exact h
theorem cal_l_box (B : Bi mg) (D : DefAt K mg "_law_box" s_l_box ["_law_script", "_law_k"])  : Cal P w K mg base 1 "_law_box" g_l_box :=
  let ⟨f, fd, F, hm, hb⟩ := D.ex
  ⟨f, fd, ["_law_script", "_law_k"], ok_l_box B F , hm, F.kp, hb⟩
/-! _law_take -/
abbrev s_l_take : Stmt := top 15
abbrev N_l_take : List Str := ["_law_box_here", "_law_many", "_law_once", "_law_found"]
theorem sc_l_take : FnScope N_l_take ["_law_box_here", "_law_many"] (defScope s_l_take) := ⟨rfl, rfl, rfl, by decide +kernel, rfl, by decide +kernel, by decide +kernel⟩
theorem ok_l_take {f : Addr} {fd : FuncData} (B : Bi mg) (F : Fun K "_law_take" "_law_take" s_l_take f fd)  : FnOk P w K mg base CX0 1 f fd ["_law_box_here", "_law_many"] (spE K g_l_take) := by
  have h : ∃ b, FnOk P w K mg base CX0 1 f fd ["_law_box_here", "_law_many"] (spE K (fnD 2 4 b)) ∧ b = b_l_take := ⟨_, fn_mk F sc_l_take fun cdv A outer s H E hc =>
    (ess_cons (es_if (et_cmp op_gt op2_gt (ee_sub hc (ee_v 0 (pv 0)) ee_int) ee_int (nomark _)) (ess_cons (es_asg (ee_cb call_divmod opa_divmod rfl B.n_divmod (by decide +kernel) (ea_cons (ee_sub hc (ee_v 0 (pv 0)) ee_int) (ea_cons (ee_v 1 (pv 1)) ea_nil))) (eG_tup (n := 2) rfl (eGs_cons (eG_sub hc (ee_v 0 (pv 0)) ee_int) (eGs_cons (eG_pat (eg_nm (pg_name (i := 3) sc_l_take.nd rfl (by first | exact Or.inl rfl | exact Or.inr rfl)))) eGs_nil)) (len_consG (len_consG len_nilG))))
  (ess_one (es_ret (ee_v 3 (pv 3))))) ess_nil)
  (ess_cons (es_asg (ee_op opr_add op2_add (ee_sub hc (ee_v 0 (pv 0)) ee_int) ee_int) (eG_sub hc (ee_v 0 (pv 0)) ee_int))
  (ess_cons (es_set (i := 2) sc_l_take.nd rfl (by first | exact Or.inl rfl | exact Or.inr rfl) (ee_op op_modN op2_mod (ee_op opr_mul op2_mul (ee_op opr_add op2_add (ee_sub hc (ee_v 0 (pv 0)) ee_int) (ee_op opr_mul op2_mul ee_int (ee_sub hc (ee_v 0 (pv 0)) ee_int))) (ee_op opr_add op2_add ee_int (ee_sub hc (ee_v 0 (pv 0)) ee_int))) ee_int))
  (ess_cons (es_asg (ee_op op_modN op2_mod (ee_op opr_add op2_add (ee_op opr_mul op2_mul (ee_v 2 (pv 2)) (ee_op opr_add op2_add (ee_op op_modN op2_mod (ee_v 2 (pv 2)) ee_int) ee_int)) (ee_sub hc (ee_v 0 (pv 0)) ee_int)) ee_int) (eG_sub hc (ee_v 0 (pv 0)) ee_int))
  (ess_one (es_ret (ee_op op_modN op2_mod (ee_op op_fdiv op2_fdiv (ee_op op_modN op2_mod (ee_op opr_mul op2_mul (ee_sub hc (ee_v 0 (pv 0)) ee_int) (ee_op opr_add op2_add (ee_op op_modN op2_mod (ee_sub hc (ee_v 0 (pv 0)) ee_int) ee_int) ee_int)) ee_int) ee_int) (ee_v 1 (pv 1))))))))), rfl⟩
  obtain ⟨_, h, rfl⟩ := h
  exact h
theorem cal_l_take (B : Bi mg) (D : DefAt K mg "_law_take" s_l_take ["_law_box_here", "_law_many"])  : Cal P w K mg base 1 "_law_take" g_l_take :=
  let ⟨f, fd, F, hm, hb⟩ := D.ex
  ⟨f, fd, ["_law_box_here", "_law_many"], ok_l_take B F , hm, F.kp, hb⟩
/-! Chart.__init__ -/
abbrev s_Chart___init__ : Stmt := inClass (top 12) 0
abbrev N_Chart___init__ : List Str := ["self", "mark", "doors"]
theorem sc_Chart___init__ : FnScope N_Chart___init__ ["self", "mark", "doors"] (defScope s_Chart___init__) := ⟨rfl, rfl, rfl, by decide +kernel, rfl, by decide +kernel, by decide +kernel⟩
theorem ok_Chart___init__ {f : Addr} {fd : FuncData} (B : Bi mg) (F : Fun K "__init__" "Chart.__init__" s_Chart___init__ f fd) (a_Chart_marks : ClsA K "Chart" "marks") (a_Chart_ends : ClsA K "Chart" "ends") (a_Chart_spot : ClsA K "Chart" "spot") : FnOk P w K mg base CX0 1 f fd ["self", "mark", "doors"] (spE K g_Chart___init__) := by
  have h : ∃ b, FnOk P w K mg base CX0 1 f fd ["self", "mark", "doors"] (spE K (fnD 3 3 b)) ∧ b = b_Chart___init__ := ⟨_, fn_mk F sc_Chart___init__ fun cdv A outer s H E hc =>
    (ess_cons (es_fld (ClsAs.cons a_Chart_marks ClsAs.nil) (ee_v 0 (pv 0)) (ee_lst (ea_cons (ee_v 1 (pv 1)) ea_nil)))
  (ess_cons (es_fld (ClsAs.cons a_Chart_ends ClsAs.nil) (ee_v 0 (pv 0)) (ee_lst (ea_cons (ee_op opr_mul op2_mul (ee_lst (ea_cons ee_non ea_nil)) (ee_v 2 (pv 2))) ea_nil)))
  (ess_one (es_fld (ClsAs.cons a_Chart_spot ClsAs.nil) (ee_v 0 (pv 0)) ee_int)))), rfl⟩
  obtain ⟨_, h, rfl⟩ := h
  exact h
theorem cal_Chart___init__ (B : Bi mg) (D : MkAt K mg "Chart" "Chart" "Chart.__init__" s_Chart___init__ ["self", "mark", "doors"]) (a_Chart_marks : ClsA K "Chart" "marks") (a_Chart_ends : ClsA K "Chart" "ends") (a_Chart_spot : ClsA K "Chart" "spot") : MkC P w K mg base 1 "Chart" "Chart" g_Chart___init__ :=
  let ⟨C, f, fd, hn, mk, F, hm, hb⟩ := D.ex
  ⟨C, f, fd, ["self", "mark", "doors"], hn, mk, ok_Chart___init__ B F a_Chart_marks a_Chart_ends a_Chart_spot, hm, hb⟩
/-! _law_mark -/
abbrev s_l_mark : Stmt := top 16
abbrev N_l_mark : List Str := ["_law_room", "_law_letter"]
theorem sc_l_mark : FnScope N_l_mark ["_law_room"] (defScope s_l_mark) := ⟨rfl, rfl, rfl, by decide +kernel, rfl, by decide +kernel, by decide +kernel⟩
theorem ok_l_mark {f : Addr} {fd : FuncData} (B : Bi mg) (F : Fun K "_law_mark" "_law_mark" s_l_mark f fd)  : FnOk P w K mg base CX0 1 f fd ["_law_room"] (spE K g_l_mark) := by
  have h : ∃ b, FnOk P w K mg base CX0 1 f fd ["_law_room"] (spE K (fnD 1 2 b)) ∧ b = b_l_mark := ⟨_, fn_mk F sc_l_mark fun cdv A outer s H E hc =>
    (ess_cons (es_set (i := 1) sc_l_mark.nd rfl (by first | exact Or.inl rfl | exact Or.inr rfl) (ee_sub hc ee_str (ee_op op_modN op2_mod (ee_op opr_add op2_add (ee_op opr_mul op2_mul (ee_v 0 (pv 0)) ee_int) ee_int) ee_int)))
  (ess_one (es_ret (ee_op op_mulS op2_mulS (ee_v 1 (pv 1)) (ee_sub hc (ee_lst (ea_cons ee_int (ea_cons ee_int (ea_cons ee_int (ea_cons ee_int (ea_cons ee_int ea_nil)))))) (ee_op op_modN op2_mod (ee_v 0 (pv 0)) ee_int)))))), rfl⟩
  obtain ⟨_, h, rfl⟩ := h
  exact h
theorem cal_l_mark (B : Bi mg) (D : DefAt K mg "_law_mark" s_l_mark ["_law_room"])  : Cal P w K mg base 1 "_law_mark" g_l_mark :=
  let ⟨f, fd, F, hm, hb⟩ := D.ex
  ⟨f, fd, ["_law_room"], ok_l_mark B F , hm, F.kp, hb⟩
/-! _law_begun -/
abbrev s_l_begun : Stmt := top 17
abbrev N_l_begun : List Str := ["_law_mark_here", "_law_doors"]
theorem sc_l_begun : FnScope N_l_begun ["_law_mark_here", "_law_doors"] (defScope s_l_begun) := ⟨rfl, rfl, rfl, by decide +kernel, rfl, by decide +kernel, by decide +kernel⟩
theorem ok_l_begun {f : Addr} {fd : FuncData} (B : Bi mg) (F : Fun K "_law_begun" "_law_begun" s_l_begun f fd)  : FnOk P w K mg base CX0 1 f fd ["_law_mark_here", "_law_doors"] (spE K g_l_begun) := by
  have h : ∃ b, FnOk P w K mg base CX0 1 f fd ["_law_mark_here", "_law_doors"] (spE K (fnD 2 2 b)) ∧ b = b_l_begun := ⟨_, fn_mk F sc_l_begun fun cdv A outer s H E hc =>
    (ess_one (es_ret (ee_d4 ee_str (ee_lst (ea_cons (ee_v 0 (pv 0)) ea_nil)) ee_str (ee_d1 (ee_v 0 (pv 0)) (ee_v 1 (pv 1))) ee_str ee_nT ee_str (ee_v 0 (pv 0))))), rfl⟩
  obtain ⟨_, h, rfl⟩ := h
  exact h
theorem cal_l_begun (B : Bi mg) (D : DefAt K mg "_law_begun" s_l_begun ["_law_mark_here", "_law_doors"])  : Cal P w K mg base 1 "_law_begun" g_l_begun :=
  let ⟨f, fd, F, hm, hb⟩ := D.ex
  ⟨f, fd, ["_law_mark_here", "_law_doors"], ok_l_begun B F , hm, F.kp, hb⟩
/-! _law_step -/
abbrev s_l_step : Stmt := top 23
abbrev N_l_step : List Str := ["_law_box_here", "_law_model", "_law_at", "_law_door", "_law_known", "_law_mark_here", "_law_doors", "_law_came"]
theorem sc_l_step : FnScope N_l_step ["_law_box_here", "_law_model"] (defScope s_l_step) := ⟨rfl, rfl, rfl, by decide +kernel, rfl, by decide +kernel, by decide +kernel⟩
theorem ok_l_step {f : Addr} {fd : FuncData} (B : Bi mg) (F : Fun K "_law_step" "_law_step" s_l_step f fd) (c_l_take : Cal P w K mg base 1 "_law_take" g_l_take) (c_l_mark : Cal P w K mg base 1 "_law_mark" g_l_mark) : FnOk P w K mg base CX0 2 f fd ["_law_box_here", "_law_model"] (spE K g_l_step) := by
  have h : ∃ b, FnOk P w K mg base CX0 2 f fd ["_law_box_here", "_law_model"] (spE K (fnD 2 8 b)) ∧ b = b_l_step := ⟨_, fn_mk F sc_l_step fun cdv A outer s H E hc =>
    (ess_cons (es_set (i := 2) sc_l_step.nd rfl (by first | exact Or.inl rfl | exact Or.inr rfl) (ee_sub hc (ee_v 1 (pv 1)) ee_str))
  (ess_cons (es_set (i := 3) sc_l_step.nd rfl (by first | exact Or.inl rfl | exact Or.inr rfl) (ee_call c_l_take hc (by omega) rfl (ea_cons (ee_v 0 (pv 0)) (ea_cons (ee_cb (call_max2 rfl) opa_max2 rfl B.n_max (by decide +kernel) (ea_cons ee_int (ea_cons (ee_op opr_add op2_add (ee_sub hc (ee_sub hc (ee_v 1 (pv 1)) ee_str) (ee_v 2 (pv 2))) (ee_ct call_int1 opa_int rfl B.n_int (by decide +kernel) (ea_cons (ee_cmp (op_eqD hc.room.units) op2_eq (ee_call c_l_take hc (by omega) rfl (ea_cons (ee_v 0 (pv 0)) (ea_cons ee_int ea_nil))) ee_int (nomark _)) ea_nil))) ea_nil))) ea_nil))))
  (ess_cons (es_if (et_cmp (op_eqD hc.room.units) op2_eq (ee_call c_l_take hc (by omega) rfl (ea_cons (ee_v 0 (pv 0)) (ea_cons ee_int ea_nil))) ee_int (nomark _)) (ess_one (es_set (i := 3) sc_l_step.nd rfl (by first | exact Or.inl rfl | exact Or.inr rfl) (ee_un un_neg op1_neg ee_int))) ess_nil)
  (ess_cons (es_set (i := 4) sc_l_step.nd rfl (by first | exact Or.inl rfl | exact Or.inr rfl) (ee_get hc (ee_sub hc (ee_v 1 (pv 1)) ee_str) (ee_tup (ea_cons (ee_v 2 (pv 2)) (ea_cons (ee_v 3 (pv 3)) ea_nil)))))
  (ess_cons (es_set (i := 5) sc_l_step.nd rfl (by first | exact Or.inl rfl | exact Or.inr rfl) (ee_call c_l_mark hc (by omega) rfl (ea_cons (ee_call c_l_take hc (by omega) rfl (ea_cons (ee_v 0 (pv 0)) (ea_cons (ee_sub hc (ee_lst (ea_cons ee_int (ea_cons ee_int ea_nil))) (ee_ct call_int1 opa_int rfl B.n_int (by decide +kernel) (ea_cons (ee_cmp (op_eqD hc.room.units) op2_eq (ee_call c_l_take hc (by omega) rfl (ea_cons (ee_v 0 (pv 0)) (ea_cons ee_int ea_nil))) ee_int (nomark _)) ea_nil))) ea_nil))) ea_nil)))
  (ess_cons (es_if (et_w (ew_and (et_cmp opr_isnot op2_isnot (ee_v 4 (pv 4)) ee_non (nomark _)) (ew_and1 (et_cmp op_gt op2_gt (ee_call c_l_take hc (by omega) rfl (ea_cons (ee_v 0 (pv 0)) (ea_cons ee_int ea_nil))) ee_int (nomark _))))) (ess_one (es_set (i := 5) sc_l_step.nd rfl (by first | exact Or.inl rfl | exact Or.inr rfl) (ee_sub hc (ee_v 4 (pv 4)) ee_int))) ess_nil)
  (ess_cons (es_set (i := 6) sc_l_step.nd rfl (by first | exact Or.inl rfl | exact Or.inr rfl) (ee_get2 hc (ee_sub hc (ee_v 1 (pv 1)) ee_str) (ee_v 5 (pv 5)) (ee_op opr_add op2_add ee_int (ee_call c_l_take hc (by omega) rfl (ea_cons (ee_v 0 (pv 0)) (ea_cons ee_int ea_nil))))))
  (ess_cons (es_if (et_cmp (op_eqD hc.room.units) op2_eq (ee_call c_l_take hc (by omega) rfl (ea_cons (ee_v 0 (pv 0)) (ea_cons ee_int ea_nil))) ee_int (nomark _)) (ess_one (es_set (i := 6) sc_l_step.nd rfl (by first | exact Or.inl rfl | exact Or.inr rfl) (ee_call c_l_take hc (by omega) rfl (ea_cons (ee_v 0 (pv 0)) (ea_cons ee_int ea_nil))))) ess_nil)
  (ess_cons (es_set (i := 7) sc_l_step.nd rfl (by first | exact Or.inl rfl | exact Or.inr rfl) (ee_call c_l_take hc (by omega) rfl (ea_cons (ee_v 0 (pv 0)) (ea_cons (ee_cb (call_max2 rfl) opa_max2 rfl B.n_max (by decide +kernel) (ea_cons ee_int (ea_cons (ee_op opr_add op2_add (ee_v 6 (pv 6)) (ee_ct call_int1 opa_int rfl B.n_int (by decide +kernel) (ea_cons (ee_cmp (op_eqD hc.room.units) op2_eq (ee_call c_l_take hc (by omega) rfl (ea_cons (ee_v 0 (pv 0)) (ea_cons ee_int ea_nil))) ee_int (nomark _)) ea_nil))) ea_nil))) ea_nil))))
  (ess_cons (es_if (et_w (ew_and (et_cmp opr_isnot op2_isnot (ee_v 4 (pv 4)) ee_non (nomark _)) (ew_and (et_cmp (op_eqD hc.room.units) op2_eq (ee_v 5 (pv 5)) (ee_sub hc (ee_v 4 (pv 4)) ee_int) (nomark _)) (ew_and1 (et_cmp op_gt op2_gt (ee_call c_l_take hc (by omega) rfl (ea_cons (ee_v 0 (pv 0)) (ea_cons ee_int ea_nil))) ee_int (nomark _)))))) (ess_one (es_set (i := 7) sc_l_step.nd rfl (by first | exact Or.inl rfl | exact Or.inr rfl) (ee_sub hc (ee_v 4 (pv 4)) ee_int))) ess_nil)
  (ess_one (es_ret (ee_tup (ea_cons (ee_v 3 (pv 3)) (ea_cons (ee_v 7 (pv 7)) (ea_cons (ee_v 5 (pv 5)) (ea_cons (ee_v 6 (pv 6)) ea_nil))))))))))))))))), rfl⟩
  obtain ⟨_, h, rfl⟩ := h
  exact h
theorem cal_l_step (B : Bi mg) (D : DefAt K mg "_law_step" s_l_step ["_law_box_here", "_law_model"]) (c_l_take : Cal P w K mg base 1 "_law_take" g_l_take) (c_l_mark : Cal P w K mg base 1 "_law_mark" g_l_mark) : Cal P w K mg base 2 "_law_step" g_l_step :=
  let ⟨f, fd, F, hm, hb⟩ := D.ex
  ⟨f, fd, ["_law_box_here", "_law_model"], ok_l_step B F c_l_take c_l_mark, hm, F.kp, hb⟩
/-! _law_due -/
abbrev s_l_due : Stmt := top 21
abbrev N_l_due : List Str := ["_law_model", "_law_door", "_law_came", "_law_mark_here", "_law_doors"]
theorem sc_l_due : FnScope N_l_due ["_law_model", "_law_door", "_law_came", "_law_mark_here", "_law_doors"] (defScope s_l_due) := ⟨rfl, rfl, rfl, by decide +kernel, rfl, by decide +kernel, by decide +kernel⟩
theorem ok_l_due {f : Addr} {fd : FuncData} (B : Bi mg) (F : Fun K "_law_due" "_law_due" s_l_due f fd)  : FnOk P w K mg base CX0 1 f fd ["_law_model", "_law_door", "_law_came", "_law_mark_here", "_law_doors"] (spE K g_l_due_v7) := by
  have h : ∃ b, FnOk P w K mg base CX0 1 f fd ["_law_model", "_law_door", "_law_came", "_law_mark_here", "_law_doors"] (spE K (fnD 5 5 b)) ∧ b = b_l_due_v7 := ⟨_, fn_mk F sc_l_due fun cdv A outer s H E hc =>
    (ess_cons (es_if (et_w (ew_or (et_not (et_chain (opr_le hc) (opr_lt hc) op2_le op2_lt ee_int (ee_v 1 (pv 1)) (ee_sub hc (ee_sub hc (ee_v 0 (pv 0)) ee_str) (ee_sub hc (ee_v 0 (pv 0)) ee_str)))) (ew_or1 (et_cmp op_ge op2_ge (ee_v 2 (pv 2)) (ee_v 4 (pv 4)) (nomark _))))) (ess_one (es_ret ee_str)) ess_nil)
  (ess_cons (es_if (et_cmp (op_neD hc.room.units) op2_ne (ee_get2 hc (ee_sub hc (ee_v 0 (pv 0)) ee_str) (ee_v 3 (pv 3)) (ee_v 4 (pv 4))) (ee_v 4 (pv 4)) (nomark _)) (ess_one (es_ret ee_str)) ess_nil)
  (ess_cons (es_if (et_cmp (op_neD hc.room.units) op2_ne (ee_get2 hc (ee_sub hc (ee_v 0 (pv 0)) ee_str) (ee_tup (ea_cons (ee_sub hc (ee_v 0 (pv 0)) ee_str) (ea_cons (ee_v 1 (pv 1)) ea_nil))) (ee_tup (ea_cons (ee_v 3 (pv 3)) (ea_cons (ee_v 2 (pv 2)) ea_nil)))) (ee_tup (ea_cons (ee_v 3 (pv 3)) (ea_cons (ee_v 2 (pv 2)) ea_nil))) (nomark _)) (ess_one (es_ret ee_str)) ess_nil)
  (ess_cons (es_if (et_cmp (op_neD hc.room.units) op2_ne (ee_get2 hc (ee_sub hc (ee_v 0 (pv 0)) ee_str) (ee_tup (ea_cons (ee_v 3 (pv 3)) (ea_cons (ee_v 2 (pv 2)) ea_nil))) (ee_tup (ea_cons (ee_sub hc (ee_v 0 (pv 0)) ee_str) (ea_cons (ee_v 1 (pv 1)) ea_nil)))) (ee_tup (ea_cons (ee_sub hc (ee_v 0 (pv 0)) ee_str) (ea_cons (ee_v 1 (pv 1)) ea_nil))) (nomark _)) (ess_one (es_ret ee_str)) ess_nil)
  (ess_one (es_ret ee_non)))))), rfl⟩
  obtain ⟨_, h, rfl⟩ := h
  exact h
theorem cal_l_due (B : Bi mg) (D : DefAt K mg "_law_due" s_l_due ["_law_model", "_law_door", "_law_came", "_law_mark_here", "_law_doors"])  : Cal P w K mg base 1 "_law_due" g_l_due_v7 :=
  let ⟨f, fd, F, hm, hb⟩ := D.ex
  ⟨f, fd, ["_law_model", "_law_door", "_law_came", "_law_mark_here", "_law_doors"], ok_l_due B F , hm, F.kp, hb⟩
/-! Clash.__init__ -/
abbrev s_Clash___init__ : Stmt := inClass (top 7) 0
abbrev N_Clash___init__ : List Str := ["self", "words", "why"]
theorem sc_Clash___init__ : FnScope N_Clash___init__ ["self", "words", "why"] (defScope s_Clash___init__) := ⟨rfl, rfl, rfl, by decide +kernel, rfl, by decide +kernel, by decide +kernel⟩
theorem cal_Clash___init__ (D : ExAt K mg "Clash" "Clash.__init__" s_Clash___init__ "why") (v_WebError : VeC K mg "WebError") : XcF P w K mg base 1 "Clash" "why" :=
  let ⟨C, fI, fd, n0, m0, T, iC, tI, F, nf, hb⟩ := D.ex
  ⟨C, fI, fd, n0, m0, T, iC, tI, xcF_mk F sc_Clash___init__ rfl T nf fun cdv A outer s H E => pss_cons (ps_expr (pe_clsinit v_WebError rfl (pa_cons (pv 0) (pa_cons (pv 1) pa_nil)))) (pss_one (ps_ost (pv 0) (pv 2))), hb⟩
/-! Chart.look_clash! -/
abbrev s_x_Chart_look_clash : Stmt := inClass (top 12) 1
abbrev N_x_Chart_look_clash : List Str := ["self", "door", "came", "mark", "doors", "goal", "known", "number"]
theorem sc_x_Chart_look_clash : FnScope N_x_Chart_look_clash ["self", "door", "came", "mark", "doors"] (defScope s_x_Chart_look_clash) := ⟨rfl, rfl, rfl, by decide +kernel, rfl, by decide +kernel, by decide +kernel⟩
theorem ok_x_Chart_look_clash {f : Addr} {fd : FuncData} (B : Bi mg) (F : Fun K "look_clash" "Chart.look_clash" s_x_Chart_look_clash f fd) (a_Chart_marks : ClsA K "Chart" "marks") (a_Chart_ends : ClsA K "Chart" "ends") (a_Chart_spot : ClsA K "Chart" "spot") (c_Clash___init__ : XcF P w K mg base 1 "Clash" "why") : FnOk P w K mg base (L2.CX P w) 3 f fd ["self", "door", "came", "mark", "doors"] (spX K g_x_Chart_look_clash) := by
  have h : ∃ b, FnOk P w K mg base (L2.CX P w) 3 f fd ["self", "door", "came", "mark", "doors"] (spX K (fnX 5 8 b)) ∧ b = b_x_Chart_look_clash := ⟨_, fnX_mk F sc_x_Chart_look_clash fun cdv A outer s H E tk po hc =>
    (ess_cons (es_set (i := 5) sc_x_Chart_look_clash.nd rfl (by first | exact Or.inl rfl | exact Or.inr rfl) ee_non)
  (ess_cons (es_if (et_in hc (ee_v 3 (pv 3)) (ee_fld (ClsAs.cons a_Chart_marks ClsAs.nil) (ee_v 0 (pv 0)))) (ess_cons (es_set (i := 7) sc_x_Chart_look_clash.nd rfl (by first | exact Or.inl rfl | exact Or.inr rfl) (ee_m (pe_bm PySem.F.plainAttrs_list PySem.F.slot_list_index PySem.F.type_list_index (mt_indexD hc.units) (ee_fld (ClsAs.cons a_Chart_marks ClsAs.nil) (ee_v 0 (pv 0))) (ea_cons (ee_v 3 (pv 3)) ea_nil)) opm_indexG))
  (ess_cons (es_if (et_cmp (op_neD hc.room.units) op2_ne (ee_cb opr_len opa_len rfl B.n_len (by decide +kernel) (ea_cons (ee_sub hc (ee_fld (ClsAs.cons a_Chart_ends ClsAs.nil) (ee_v 0 (pv 0))) (ee_v 7 (pv 7))) ea_nil)) (ee_v 4 (pv 4)) (nomark _)) (ess_one (es_raiseF c_Clash___init__ hc (by omega) tk rfl (ea_cons ee_str (ea_cons ee_str ea_nil)))) ess_nil)
  (ess_one (es_set (i := 5) sc_x_Chart_look_clash.nd rfl (by first | exact Or.inl rfl | exact Or.inr rfl) (ee_tup (ea_cons (ee_v 7 (pv 7)) (ea_cons (ee_v 2 (pv 2)) ea_nil))))))) ess_nil)
  (ess_cons (es_set (i := 6) sc_x_Chart_look_clash.nd rfl (by first | exact Or.inl rfl | exact Or.inr rfl) (ee_sub hc (ee_sub hc (ee_fld (ClsAs.cons a_Chart_ends ClsAs.nil) (ee_v 0 (pv 0))) (ee_fld (ClsAs.cons a_Chart_spot ClsAs.nil) (ee_v 0 (pv 0)))) (ee_v 1 (pv 1))))
  (ess_cons (es_if (et_w (ew_and (et_cmp opr_isnot op2_isnot (ee_v 6 (pv 6)) ee_non (nomark _)) (ew_and1 (et_cmp (op_neD hc.room.units) op2_ne (ee_v 6 (pv 6)) (ee_v 5 (pv 5)) (nomark _))))) (ess_one (es_raiseF c_Clash___init__ hc (by omega) tk rfl (ea_cons ee_str (ea_cons ee_str ea_nil)))) ess_nil)
  (ess_one (es_if (et_w (ew_and (et_cmp opr_isnot op2_isnot (ee_v 5 (pv 5)) ee_non (nomark _)) (ew_and1 (et_notinT hc (ee_sub hc (ee_sub hc (ee_fld (ClsAs.cons a_Chart_ends ClsAs.nil) (ee_v 0 (pv 0))) (ee_sub hc (ee_v 5 (pv 5)) ee_int)) (ee_v 2 (pv 2))) (ee_tup (ea_cons ee_non (ea_cons (ee_tup (ea_cons (ee_fld (ClsAs.cons a_Chart_spot ClsAs.nil) (ee_v 0 (pv 0))) (ea_cons (ee_v 1 (pv 1)) ea_nil))) ea_nil))))))) (ess_one (es_raiseF c_Clash___init__ hc (by omega) tk rfl (ea_cons ee_str (ea_cons ee_str ea_nil)))) ess_nil)))))), rfl⟩
  obtain ⟨_, h, rfl⟩ := h
  exact h
theorem cal_x_Chart_look_clash (B : Bi mg) (D : MtAt K "Chart" "look_clash" "Chart.look_clash" s_x_Chart_look_clash ["self", "door", "came", "mark", "doors"]) (a_Chart_marks : ClsA K "Chart" "marks") (a_Chart_ends : ClsA K "Chart" "ends") (a_Chart_spot : ClsA K "Chart" "spot") (c_Clash___init__ : XcF P w K mg base 1 "Clash" "why") : MtX P w K mg base 3 "Chart" "look_clash" g_x_Chart_look_clash :=
  let ⟨C, f, fd, hn, cl, me, F, hb⟩ := D.ex
  ⟨C, f, fd, ["self", "door", "came", "mark", "doors"], hn, cl, me, ok_x_Chart_look_clash B F a_Chart_marks a_Chart_ends a_Chart_spot c_Clash___init__, hb⟩
/-! Chart.went! -/
abbrev s_x_Chart_went : Stmt := inClass (top 12) 2
abbrev N_x_Chart_went : List Str := ["self", "door", "came", "mark", "doors", "number"]
theorem sc_x_Chart_went : FnScope N_x_Chart_went ["self", "door", "came", "mark", "doors"] (defScope s_x_Chart_went) := ⟨rfl, rfl, rfl, by decide +kernel, rfl, by decide +kernel, by decide +kernel⟩
theorem ok_x_Chart_went {f : Addr} {fd : FuncData} (B : Bi mg) (F : Fun K "went" "Chart.went" s_x_Chart_went f fd) (a_Chart_ends : ClsA K "Chart" "ends") (a_Chart_spot : ClsA K "Chart" "spot") (a_Chart_marks : ClsA K "Chart" "marks") (x_NoDoor : XcC K mg "NoDoor") (c_x_Chart_look_clash : MtX P w K mg base 3 "Chart" "look_clash" g_x_Chart_look_clash) : FnOk P w K mg base (L2.CX P w) 4 f fd ["self", "door", "came", "mark", "doors"] (spX K g_x_Chart_went) := by
  have h : ∃ b, FnOk P w K mg base (L2.CX P w) 4 f fd ["self", "door", "came", "mark", "doors"] (spX K (fnX 5 6 b)) ∧ b = b_x_Chart_went := ⟨_, fnX_mk F sc_x_Chart_went fun cdv A outer s H E tk po hc =>
    (ess_cons (es_if (et_w (ew_or (et_not (et_chain (opr_le hc) (opr_lt hc) op2_le op2_lt ee_int (ee_v 1 (pv 1)) (ee_cb opr_len opa_len rfl B.n_len (by decide +kernel) (ea_cons (ee_sub hc (ee_fld (ClsAs.cons a_Chart_ends ClsAs.nil) (ee_v 0 (pv 0))) (ee_fld (ClsAs.cons a_Chart_spot ClsAs.nil) (ee_v 0 (pv 0)))) ea_nil)))) (ew_or1 (et_not (et_chain (opr_le hc) (opr_lt hc) op2_le op2_lt ee_int (ee_v 2 (pv 2)) (ee_v 4 (pv 4))))))) (ess_one (es_raise x_NoDoor hc.calm tk rfl)) ess_nil)
  (ess_cons (es_exprX (ee_mtX tk c_x_Chart_look_clash hc (by omega) (ee_v 0 (pv 0)) (ea_cons (ee_v 1 (pv 1)) (ea_cons (ee_v 2 (pv 2)) (ea_cons (ee_v 3 (pv 3)) (ea_cons (ee_v 4 (pv 4)) ea_nil))))))
  (ess_cons (es_if (et_notin hc (ee_v 3 (pv 3)) (ee_fld (ClsAs.cons a_Chart_marks ClsAs.nil) (ee_v 0 (pv 0)))) (ess_cons (es_expr (ee_m (pe_bm PySem.F.plainAttrs_list PySem.F.slot_list_append PySem.F.type_list_append mt_append (ee_fld (ClsAs.cons a_Chart_marks ClsAs.nil) (ee_v 0 (pv 0))) (ea_cons (ee_v 3 (pv 3)) ea_nil)) opm_append))
  (ess_one (es_expr (ee_m (pe_bm PySem.F.plainAttrs_list PySem.F.slot_list_append PySem.F.type_list_append mt_append (ee_fld (ClsAs.cons a_Chart_ends ClsAs.nil) (ee_v 0 (pv 0))) (ea_cons (ee_op opr_mul op2_mul (ee_lst (ea_cons ee_non ea_nil)) (ee_v 4 (pv 4))) ea_nil)) opm_append)))) ess_nil)
  (ess_cons (es_set (i := 5) sc_x_Chart_went.nd rfl (by first | exact Or.inl rfl | exact Or.inr rfl) (ee_m (pe_bm PySem.F.plainAttrs_list PySem.F.slot_list_index PySem.F.type_list_index (mt_indexD hc.units) (ee_fld (ClsAs.cons a_Chart_marks ClsAs.nil) (ee_v 0 (pv 0))) (ea_cons (ee_v 3 (pv 3)) ea_nil)) opm_indexG))
  (ess_cons (es_asg (ee_tup (ea_cons (ee_v 5 (pv 5)) (ea_cons (ee_v 2 (pv 2)) ea_nil))) (eG_sub hc (ee_sub hc (ee_fld (ClsAs.cons a_Chart_ends ClsAs.nil) (ee_v 0 (pv 0))) (ee_fld (ClsAs.cons a_Chart_spot ClsAs.nil) (ee_v 0 (pv 0)))) (ee_v 1 (pv 1))))
  (ess_cons (es_asg (ee_tup (ea_cons (ee_fld (ClsAs.cons a_Chart_spot ClsAs.nil) (ee_v 0 (pv 0))) (ea_cons (ee_v 1 (pv 1)) ea_nil))) (eG_sub hc (ee_sub hc (ee_fld (ClsAs.cons a_Chart_ends ClsAs.nil) (ee_v 0 (pv 0))) (ee_v 5 (pv 5))) (ee_v 2 (pv 2))))
  (ess_one (es_fld (ClsAs.cons a_Chart_spot ClsAs.nil) (ee_v 0 (pv 0)) (ee_v 5 (pv 5)))))))))), rfl⟩
  obtain ⟨_, h, rfl⟩ := h
  exact h
theorem cal_x_Chart_went (B : Bi mg) (D : MtAt K "Chart" "went" "Chart.went" s_x_Chart_went ["self", "door", "came", "mark", "doors"]) (a_Chart_ends : ClsA K "Chart" "ends") (a_Chart_spot : ClsA K "Chart" "spot") (a_Chart_marks : ClsA K "Chart" "marks") (x_NoDoor : XcC K mg "NoDoor") (c_x_Chart_look_clash : MtX P w K mg base 3 "Chart" "look_clash" g_x_Chart_look_clash) : MtX P w K mg base 4 "Chart" "went" g_x_Chart_went :=
  let ⟨C, f, fd, hn, cl, me, F, hb⟩ := D.ex
  ⟨C, f, fd, ["self", "door", "came", "mark", "doors"], hn, cl, me, ok_x_Chart_went B F a_Chart_ends a_Chart_spot a_Chart_marks x_NoDoor c_x_Chart_look_clash, hb⟩
/-! _law_told -/
abbrev s_l_told : Stmt := top 22
abbrev N_l_told : List Str := ["_law_chart", "_law_door", "_law_came", "_law_mark_here", "_law_doors", "_law_caught", "error"]
theorem sc_l_told : FnScope N_l_told ["_law_chart", "_law_door", "_law_came", "_law_mark_here", "_law_doors"] (defScope s_l_told) := ⟨rfl, rfl, rfl, by decide +kernel, rfl, by decide +kernel, by decide +kernel⟩
theorem ok_l_told {f : Addr} {fd : FuncData} (B : Bi mg) (F : Fun K "_law_told" "_law_told" s_l_told f fd) {C_WebError : Addr} (g_WebError : mg "WebError" = some (.ref C_WebError)) (h_WebError_NoDoor_Clash : Caught K ["NoDoor", "Clash"] (.ref C_WebError)) {C_BadRow : Addr} (g_BadRow : mg "BadRow" = some (.ref C_BadRow)) {C_NoMark : Addr} (g_NoMark : mg "NoMark" = some (.ref C_NoMark)) {C_NoStone : Addr} (g_NoStone : mg "NoStone" = some (.ref C_NoStone)) {C_NotWhole : Addr} (g_NotWhole : mg "NotWhole" = some (.ref C_NotWhole)) {C_NoWeb : Addr} (g_NoWeb : mg "NoWeb" = some (.ref C_NoWeb)) {C_TooMany : Addr} (g_TooMany : mg "TooMany" = some (.ref C_TooMany)) (t_BadRow_NoMark_NoStone_NotWhole_NoWeb_TooMany : IsTbl K [.ref C_BadRow, .ref C_NoMark, .ref C_NoStone, .ref C_NotWhole, .ref C_NoWeb, .ref C_TooMany] true [("NoDoor", false), ("Clash", false)]) (t_ValueError : IsTbl K [.type "ValueError"] false [("NoDoor", true), ("Clash", true)]) (zz_ValueError : mg "ValueError" = none) {C_NoDoor : Addr} (g_NoDoor : mg "NoDoor" = some (.ref C_NoDoor)) (t_NoDoor : IsTbl K [.ref C_NoDoor] false [("NoDoor", true), ("Clash", false)]) {C_Clash : Addr} (g_Clash : mg "Clash" = some (.ref C_Clash)) (t_Clash : IsTbl K [.ref C_Clash] false [("NoDoor", false), ("Clash", true)]) (xf_Clash : XfA K "Clash" "why") (c_x_Chart_went : MtX P w K mg base 4 "Chart" "went" g_x_Chart_went) : FnOk P w K mg base CX0 5 f fd ["_law_chart", "_law_door", "_law_came", "_law_mark_here", "_law_doors"] (spE K g_l_told_v4) := by
  have h : ∃ b, FnOk P w K mg base CX0 5 f fd ["_law_chart", "_law_door", "_law_came", "_law_mark_here", "_law_doors"] (spE K (fnD 5 7 b)) ∧ b = b_l_told_v4 := ⟨_, fn_mk F sc_l_told fun cdv A outer s H E hc =>
    (ess_cons (es_set (i := 5) sc_l_told.nd rfl (by first | exact Or.inl rfl | exact Or.inr rfl) ee_non)
  (ess_cons (es_tryF (subs := ["NoDoor", "Clash"]) (i := 6) (j := 5) (by decide) rfl rfl sc_l_told.nd rfl rfl rfl (by first | exact Or.inl rfl | exact Or.inr rfl) (.inr rfl) (names_of rfl rfl g_WebError) (fun _ _ => pv 6) (fun _ _ => rfl) h_WebError_NoDoor_Clash hc (fun W pn xe tk po hc => (ess_one (es_exprX (ee_mtX tk c_x_Chart_went hc (by omega) (ee_v 0 (pv 0)) (ea_cons (ee_v 1 (pv 1)) (ea_cons (ee_v 2 (pv 2)) (ea_cons (ee_v 3 (pv 3)) (ea_cons (ee_v 4 (pv 4)) ea_nil)))))))))
  (ess_cons (es_if (et_cmp opr_is op2_is (ee_v 5 (pv 5)) ee_non (nomark _)) (ess_one (es_ret ee_non)) ess_nil)
  (ess_cons (es_if (et_w (ew_or (et_val (ee_isNF (as := [C_BadRow, C_NoMark, C_NoStone, C_NotWhole, C_NoWeb, C_TooMany]) rfl B.n_isinstance (ee_v 5 (pv 5)) (pa_ref (pe_glob rfl g_BadRow rfl) (pa_ref (pe_glob rfl g_NoMark rfl) (pa_ref (pe_glob rfl g_NoStone rfl) (pa_ref (pe_glob rfl g_NotWhole rfl) (pa_ref (pe_glob rfl g_NoWeb rfl) (pa_ref (pe_glob rfl g_TooMany rfl) pa_ref0)))))) (Nat.le_of_ble_eq_true rfl) t_BadRow_NoMark_NoStone_NotWhole_NoWeb_TooMany)) (ew_or1 (et_not (et_val (ee_is1F (cvv := .ty "ValueError") (cv := .type "ValueError") rfl B.n_isinstance (ee_v 5 (pv 5)) (pe_bltn rfl zz_ValueError (by decide +kernel) rfl) (fun _ h => h) t_ValueError)))))) (ess_one (es_ret ee_str)) ess_nil)
  (ess_cons (es_if (et_cmp (op_eqD hc.room.units) op2_eq (ee_is1F (cvv := .ref C_NoDoor) (cv := .ref C_NoDoor) rfl B.n_isinstance (ee_v 5 (pv 5)) (pe_glob rfl g_NoDoor rfl) (fun _ h => h) t_NoDoor) (ee_is1F (cvv := .ref C_Clash) (cv := .ref C_Clash) rfl B.n_isinstance (ee_v 5 (pv 5)) (pe_glob rfl g_Clash rfl) (fun _ h => h) t_Clash) (nomark _)) (ess_one (es_ret ee_str)) ess_nil)
  (ess_one (es_ret (ee_ite (et_val (ee_is1F (cvv := .ref C_Clash) (cv := .ref C_Clash) rfl B.n_isinstance (ee_v 5 (pv 5)) (pe_glob rfl g_Clash rfl) (fun _ h => h) t_Clash)) (ee_xf xf_Clash (ee_v 5 (pv 5))) ee_str)))))))), rfl⟩
  obtain ⟨_, h, rfl⟩ := h
  exact h
theorem cal_l_told (B : Bi mg) (D : DefAt K mg "_law_told" s_l_told ["_law_chart", "_law_door", "_law_came", "_law_mark_here", "_law_doors"]) {C_WebError : Addr} (g_WebError : mg "WebError" = some (.ref C_WebError)) (h_WebError_NoDoor_Clash : Caught K ["NoDoor", "Clash"] (.ref C_WebError)) {C_BadRow : Addr} (g_BadRow : mg "BadRow" = some (.ref C_BadRow)) {C_NoMark : Addr} (g_NoMark : mg "NoMark" = some (.ref C_NoMark)) {C_NoStone : Addr} (g_NoStone : mg "NoStone" = some (.ref C_NoStone)) {C_NotWhole : Addr} (g_NotWhole : mg "NotWhole" = some (.ref C_NotWhole)) {C_NoWeb : Addr} (g_NoWeb : mg "NoWeb" = some (.ref C_NoWeb)) {C_TooMany : Addr} (g_TooMany : mg "TooMany" = some (.ref C_TooMany)) (t_BadRow_NoMark_NoStone_NotWhole_NoWeb_TooMany : IsTbl K [.ref C_BadRow, .ref C_NoMark, .ref C_NoStone, .ref C_NotWhole, .ref C_NoWeb, .ref C_TooMany] true [("NoDoor", false), ("Clash", false)]) (t_ValueError : IsTbl K [.type "ValueError"] false [("NoDoor", true), ("Clash", true)]) (zz_ValueError : mg "ValueError" = none) {C_NoDoor : Addr} (g_NoDoor : mg "NoDoor" = some (.ref C_NoDoor)) (t_NoDoor : IsTbl K [.ref C_NoDoor] false [("NoDoor", true), ("Clash", false)]) {C_Clash : Addr} (g_Clash : mg "Clash" = some (.ref C_Clash)) (t_Clash : IsTbl K [.ref C_Clash] false [("NoDoor", false), ("Clash", true)]) (xf_Clash : XfA K "Clash" "why") (c_x_Chart_went : MtX P w K mg base 4 "Chart" "went" g_x_Chart_went) : Cal P w K mg base 5 "_law_told" g_l_told_v4 :=
  let ⟨f, fd, F, hm, hb⟩ := D.ex
  ⟨f, fd, ["_law_chart", "_law_door", "_law_came", "_law_mark_here", "_law_doors"], ok_l_told B F g_WebError h_WebError_NoDoor_Clash g_BadRow g_NoMark g_NoStone g_NotWhole g_NoWeb g_TooMany t_BadRow_NoMark_NoStone_NotWhole_NoWeb_TooMany t_ValueError zz_ValueError g_NoDoor t_NoDoor g_Clash t_Clash xf_Clash c_x_Chart_went, hm, F.kp, hb⟩
/-! _law_stepped -/
abbrev s_l_stepped : Stmt := top 18
abbrev N_l_stepped : List Str := ["_law_model", "_law_door", "_law_came", "_law_mark_here", "_law_doors"]
theorem sc_l_stepped : FnScope N_l_stepped ["_law_model", "_law_door", "_law_came", "_law_mark_here", "_law_doors"] (defScope s_l_stepped) := ⟨rfl, rfl, rfl, by decide +kernel, rfl, by decide +kernel, by decide +kernel⟩
theorem ok_l_stepped {f : Addr} {fd : FuncData} (B : Bi mg) (F : Fun K "_law_stepped" "_law_stepped" s_l_stepped f fd)  : FnOk P w K mg base CX0 1 f fd ["_law_model", "_law_door", "_law_came", "_law_mark_here", "_law_doors"] (spE K g_l_stepped) := by
  have h : ∃ b, FnOk P w K mg base CX0 1 f fd ["_law_model", "_law_door", "_law_came", "_law_mark_here", "_law_doors"] (spE K (fnD 5 5 b)) ∧ b = b_l_stepped := ⟨_, fn_mk F sc_l_stepped fun cdv A outer s H E hc =>
    (ess_cons (es_if (et_notin hc (ee_v 3 (pv 3)) (ee_sub hc (ee_v 0 (pv 0)) ee_str)) (ess_cons (es_expr (ee_m (pe_bm PySem.F.plainAttrs_list PySem.F.slot_list_append PySem.F.type_list_append mt_append (ee_sub hc (ee_v 0 (pv 0)) ee_str) (ea_cons (ee_v 3 (pv 3)) ea_nil)) opm_append))
  (ess_one (es_asg (ee_v 4 (pv 4)) (eG_sub hc (ee_sub hc (ee_v 0 (pv 0)) ee_str) (ee_v 3 (pv 3)))))) ess_nil)
  (ess_cons (es_asg (ee_tup (ea_cons (ee_v 3 (pv 3)) (ea_cons (ee_v 2 (pv 2)) ea_nil))) (eG_sub hc (ee_sub hc (ee_v 0 (pv 0)) ee_str) (ee_tup (ea_cons (ee_sub hc (ee_v 0 (pv 0)) ee_str) (ea_cons (ee_v 1 (pv 1)) ea_nil)))))
  (ess_cons (es_asg (ee_tup (ea_cons (ee_sub hc (ee_v 0 (pv 0)) ee_str) (ea_cons (ee_v 1 (pv 1)) ea_nil))) (eG_sub hc (ee_sub hc (ee_v 0 (pv 0)) ee_str) (ee_tup (ea_cons (ee_v 3 (pv 3)) (ea_cons (ee_v 2 (pv 2)) ea_nil)))))
  (ess_one (es_asg (ee_v 3 (pv 3)) (eG_sub hc (ee_v 0 (pv 0)) ee_str)))))), rfl⟩
  obtain ⟨_, h, rfl⟩ := h
  exact h
theorem cal_l_stepped (B : Bi mg) (D : DefAt K mg "_law_stepped" s_l_stepped ["_law_model", "_law_door", "_law_came", "_law_mark_here", "_law_doors"])  : Cal P w K mg base 1 "_law_stepped" g_l_stepped :=
  let ⟨f, fd, F, hm, hb⟩ := D.ex
  ⟨f, fd, ["_law_model", "_law_door", "_law_came", "_law_mark_here", "_law_doors"], ok_l_stepped B F , hm, F.kp, hb⟩
/-! Chart.here -/
abbrev s_Chart_here : Stmt := inClass (top 12) 3
abbrev N_Chart_here : List Str := ["self"]
theorem sc_Chart_here : FnScope N_Chart_here ["self"] (defScope s_Chart_here) := ⟨rfl, rfl, rfl, by decide +kernel, rfl, by decide +kernel, by decide +kernel⟩
theorem ok_Chart_here {f : Addr} {fd : FuncData} (B : Bi mg) (F : Fun K "here" "Chart.here" s_Chart_here f fd) (a_Chart_marks : ClsA K "Chart" "marks") (a_Chart_spot : ClsA K "Chart" "spot") : FnOk P w K mg base CX0 1 f fd ["self"] (spE K g_Chart_here) := by
  have h : ∃ b, FnOk P w K mg base CX0 1 f fd ["self"] (spE K (fnD 1 1 b)) ∧ b = b_Chart_here := ⟨_, fn_mk F sc_Chart_here fun cdv A outer s H E hc =>
    (ess_one (es_ret (ee_sub hc (ee_fld (ClsAs.cons a_Chart_marks ClsAs.nil) (ee_v 0 (pv 0))) (ee_fld (ClsAs.cons a_Chart_spot ClsAs.nil) (ee_v 0 (pv 0)))))), rfl⟩
  obtain ⟨_, h, rfl⟩ := h
  exact h
theorem cal_Chart_here (B : Bi mg) (D : MtAt K "Chart" "here" "Chart.here" s_Chart_here ["self"]) (a_Chart_marks : ClsA K "Chart" "marks") (a_Chart_spot : ClsA K "Chart" "spot") : Mt P w K mg base 1 "Chart" "here" g_Chart_here :=
  let ⟨C, f, fd, hn, cl, me, F, hb⟩ := D.ex
  ⟨C, f, fd, ["self"], hn, cl, me, ok_Chart_here B F a_Chart_marks a_Chart_spot, hb⟩
/-! Chart.rooms -/
abbrev s_Chart_rooms : Stmt := inClass (top 12) 4
abbrev N_Chart_rooms : List Str := ["self", "mark", "doors"]
theorem sc_Chart_rooms : FnScope N_Chart_rooms ["self"] (defScope s_Chart_rooms) := ⟨rfl, rfl, rfl, by decide +kernel, rfl, by decide +kernel, by decide +kernel⟩
theorem ok_Chart_rooms {f : Addr} {fd : FuncData} (B : Bi mg) (F : Fun K "rooms" "Chart.rooms" s_Chart_rooms f fd) (a_Chart_marks : ClsA K "Chart" "marks") (a_Chart_ends : ClsA K "Chart" "ends") : FnOk P w K mg base CX0 1 f fd ["self"] (spE K g_Chart_rooms) := by
  have h : ∃ b, FnOk P w K mg base CX0 1 f fd ["self"] (spE K (fnD 1 3 b)) ∧ b = b_Chart_rooms := ⟨_, fn_mk F sc_Chart_rooms fun cdv A outer s H E hc =>
    (ess_one (es_ret (ee_ct call_tuple_of opa_tuple rfl B.n_tuple (by decide +kernel) (ea_cons (ee_lc (own := [("mark", 1), ("doors", 2)]) rfl sc_Chart_rooms.nd (ei_zip (ee_fld (ClsAs.cons a_Chart_marks ClsAs.nil) (ee_v 0 (pv 0))) (ee_fld (ClsAs.cons a_Chart_ends ClsAs.nil) (ee_v 0 (pv 0))) (fun h => RZ.pi_zipA rfl B.n_zip h)) (blkOk_by (N := N_Chart_rooms) (sc := defScope s_Chart_rooms) (by decide +kernel)) (by decide) (fun _ _ _ _ _ => (eg_tp rfl (egs_cons (eg_nm (pg_name (i := 1) sc_Chart_rooms.nd rfl (by first | exact Or.inl rfl | exact Or.inr rfl))) (egs_cons (eg_nm (pg_name (i := 2) sc_Chart_rooms.nd rfl (by first | exact Or.inl rfl | exact Or.inr rfl))) egs_nil)))) (fun _ _ _ _ _ => et_yes) (fun _ _ _ _ _ => (ee_tup (ea_cons (ee_v 1 (pv 1)) (ea_cons (ee_cb opr_len opa_len rfl B.n_len (by decide +kernel) (ea_cons (ee_v 2 (pv 2)) ea_nil)) ea_nil))))) ea_nil)))), rfl⟩
  obtain ⟨_, h, rfl⟩ := h
  exact h
theorem cal_Chart_rooms (B : Bi mg) (D : MtAt K "Chart" "rooms" "Chart.rooms" s_Chart_rooms ["self"]) (a_Chart_marks : ClsA K "Chart" "marks") (a_Chart_ends : ClsA K "Chart" "ends") : Mt P w K mg base 1 "Chart" "rooms" g_Chart_rooms :=
  let ⟨C, f, fd, hn, cl, me, F, hb⟩ := D.ex
  ⟨C, f, fd, ["self"], hn, cl, me, ok_Chart_rooms B F a_Chart_marks a_Chart_ends, hb⟩
/-! _law_sketch_due -/
abbrev s_l_sketch_due : Stmt := top 19
abbrev N_l_sketch_due : List Str := ["_law_model", "_law_found", "_law_mark_here", "_law_ends", "_law_door", "_law_end"]
theorem sc_l_sketch_due : FnScope N_l_sketch_due ["_law_model"] (defScope s_l_sketch_due) := ⟨rfl, rfl, rfl, by decide +kernel, rfl, by decide +kernel, by decide +kernel⟩
theorem ok_l_sketch_due {f : Addr} {fd : FuncData} (B : Bi mg) (F : Fun K "_law_sketch_due" "_law_sketch_due" s_l_sketch_due f fd)  : FnOk P w K mg base CX0 1 f fd ["_law_model"] (spE K g_l_sketch_due) := by
  have h : ∃ b, FnOk P w K mg base CX0 1 f fd ["_law_model"] (spE K (fnD 1 6 b)) ∧ b = b_l_sketch_due := ⟨_, fn_mk F sc_l_sketch_due fun cdv A outer s H E hc =>
    (ess_cons (es_set (i := 1) sc_l_sketch_due.nd rfl (by first | exact Or.inl rfl | exact Or.inr rfl) (ee_lst ea_nil))
  (ess_cons (es_for PassesOwn.never rfl (ei_seq (ee_sub hc (ee_v 0 (pv 0)) ee_str)) (eg_nm (pg_name (i := 2) sc_l_sketch_due.nd rfl (by first | exact Or.inl rfl | exact Or.inr rfl))) (ess_cons (es_setLc (i := 3) (own := [("_law_door", 4)]) rfl sc_l_sketch_due.nd rfl rfl (sw_true rfl rfl rfl (by decide +kernel)) (ei_range1 rfl B.n_range (ee_sub hc (ee_sub hc (ee_v 0 (pv 0)) ee_str) (ee_v 2 (pv 2)))) (blkOk_by (N := N_l_sketch_due) (sc := defScope s_l_sketch_due) (by decide +kernel)) (by decide) (fun _ _ _ _ _ => (eg_nm (pg_name (i := 4) sc_l_sketch_due.nd rfl (by first | exact Or.inl rfl | exact Or.inr rfl)))) (fun _ _ _ _ _ => et_yes) (fun _ _ _ _ _ => (ee_get hc.blk (ee_sub hc.blk (ee_v 0 (pv 0)) ee_str) (ee_tup (ea_cons (ee_v 2 (pv 2)) (ea_cons (ee_v 4 (pv 4)) ea_nil))))))
  (ess_one (es_expr (ee_m (pe_bm PySem.F.plainAttrs_list PySem.F.slot_list_append PySem.F.type_list_append mt_append (ee_v 1 (pv 1)) (ea_cons (ee_ct call_tuple_of opa_tuple rfl B.n_tuple (by decide +kernel) (ea_cons (ee_lc (own := [("_law_end", 5)]) rfl sc_l_sketch_due.nd (ei_seq (ee_v 3 (pv 3))) (blkOk_by (N := N_l_sketch_due) (sc := defScope s_l_sketch_due) (by decide +kernel)) (by decide) (fun _ _ _ _ _ => (eg_nm (pg_name (i := 5) sc_l_sketch_due.nd rfl (by first | exact Or.inl rfl | exact Or.inr rfl)))) (fun _ _ _ _ _ => et_yes) (fun _ _ _ _ _ => (ee_ite (et_cmp opr_is op2_is (ee_v 5 (pv 5)) ee_non (nomark _)) ee_non (ee_tup (ea_cons (ee_m (pe_bm PySem.F.plainAttrs_list PySem.F.slot_list_index PySem.F.type_list_index (mt_indexD hc.blk.units) (ee_sub hc.blk (ee_v 0 (pv 0)) ee_str) (ea_cons (ee_sub hc.blk (ee_v 5 (pv 5)) ee_int) ea_nil)) opm_indexG) (ea_cons (ee_sub hc.blk (ee_v 5 (pv 5)) ee_int) ea_nil)))))) ea_nil)) ea_nil)) opm_append)))))
  (ess_one (es_ret (ee_ct call_tuple_of opa_tuple rfl B.n_tuple (by decide +kernel) (ea_cons (ee_v 1 (pv 1)) ea_nil)))))), rfl⟩
  obtain ⟨_, h, rfl⟩ := h
  exact h
theorem cal_l_sketch_due (B : Bi mg) (D : DefAt K mg "_law_sketch_due" s_l_sketch_due ["_law_model"])  : Cal P w K mg base 1 "_law_sketch_due" g_l_sketch_due :=
  let ⟨f, fd, F, hm, hb⟩ := D.ex
  ⟨f, fd, ["_law_model"], ok_l_sketch_due B F , hm, F.kp, hb⟩
/-! Chart.sketch -/
abbrev s_Chart_sketch : Stmt := inClass (top 12) 5
abbrev N_Chart_sketch : List Str := ["self", "doors"]
theorem sc_Chart_sketch : FnScope N_Chart_sketch ["self"] (defScope s_Chart_sketch) := ⟨rfl, rfl, rfl, by decide +kernel, rfl, by decide +kernel, by decide +kernel⟩
theorem ok_Chart_sketch {f : Addr} {fd : FuncData} (B : Bi mg) (F : Fun K "sketch" "Chart.sketch" s_Chart_sketch f fd) (a_Chart_ends : ClsA K "Chart" "ends") : FnOk P w K mg base CX0 1 f fd ["self"] (spE K g_Chart_sketch) := by
  have h : ∃ b, FnOk P w K mg base CX0 1 f fd ["self"] (spE K (fnD 1 2 b)) ∧ b = b_Chart_sketch := ⟨_, fn_mk F sc_Chart_sketch fun cdv A outer s H E hc =>
    (ess_one (es_ret (ee_ct call_tuple_of opa_tuple rfl B.n_tuple (by decide +kernel) (ea_cons (ee_lc (own := [("doors", 1)]) rfl sc_Chart_sketch.nd (ei_seq (ee_fld (ClsAs.cons a_Chart_ends ClsAs.nil) (ee_v 0 (pv 0)))) (blkOk_by (N := N_Chart_sketch) (sc := defScope s_Chart_sketch) (by decide +kernel)) (by decide) (fun _ _ _ _ _ => (eg_nm (pg_name (i := 1) sc_Chart_sketch.nd rfl (by first | exact Or.inl rfl | exact Or.inr rfl)))) (fun _ _ _ _ _ => et_yes) (fun _ _ _ _ _ => (ee_ct call_tuple_of opa_tuple rfl B.n_tuple (by decide +kernel) (ea_cons (ee_v 1 (pv 1)) ea_nil)))) ea_nil)))), rfl⟩
  obtain ⟨_, h, rfl⟩ := h
  exact h
theorem cal_Chart_sketch (B : Bi mg) (D : MtAt K "Chart" "sketch" "Chart.sketch" s_Chart_sketch ["self"]) (a_Chart_ends : ClsA K "Chart" "ends") : Mt P w K mg base 1 "Chart" "sketch" g_Chart_sketch :=
  let ⟨C, f, fd, hn, cl, me, F, hb⟩ := D.ex
  ⟨C, f, fd, ["self"], hn, cl, me, ok_Chart_sketch B F a_Chart_ends, hb⟩
/-! Chart.open_at -/
abbrev s_Chart_open_at : Stmt := inClass (top 12) 6
abbrev N_Chart_open_at : List Str := ["self", "number", "door", "end"]
theorem sc_Chart_open_at : FnScope N_Chart_open_at ["self", "number"] (defScope s_Chart_open_at) := ⟨rfl, rfl, rfl, by decide +kernel, rfl, by decide +kernel, by decide +kernel⟩
theorem ok_Chart_open_at {f : Addr} {fd : FuncData} (B : Bi mg) (F : Fun K "open_at" "Chart.open_at" s_Chart_open_at f fd) (a_Chart_ends : ClsA K "Chart" "ends") : FnOk P w K mg base CX0 1 f fd ["self", "number"] (spE K g_Chart_open_at) := by
  have h : ∃ b, FnOk P w K mg base CX0 1 f fd ["self", "number"] (spE K (fnD 2 4 b)) ∧ b = b_Chart_open_at := ⟨_, fn_mk F sc_Chart_open_at fun cdv A outer s H E hc =>
    (ess_one (es_ret (ee_lc (own := [("door", 2), ("end", 3)]) rfl sc_Chart_open_at.nd (ei_enum rfl B.n_enumerate (ee_sub hc (ee_fld (ClsAs.cons a_Chart_ends ClsAs.nil) (ee_v 0 (pv 0))) (ee_v 1 (pv 1)))) (blkOk_by (N := N_Chart_open_at) (sc := defScope s_Chart_open_at) (by decide +kernel)) (by decide) (fun _ _ _ _ _ => (eg_tp rfl (egs_cons (eg_nm (pg_name (i := 2) sc_Chart_open_at.nd rfl (by first | exact Or.inl rfl | exact Or.inr rfl))) (egs_cons (eg_nm (pg_name (i := 3) sc_Chart_open_at.nd rfl (by first | exact Or.inl rfl | exact Or.inr rfl))) egs_nil)))) (fun _ _ _ _ _ => (et_one (et_cmp opr_is op2_is (ee_v 3 (pv 3)) ee_non (nomark _)))) (fun _ _ _ _ _ => (ee_v 2 (pv 2)))))), rfl⟩
  obtain ⟨_, h, rfl⟩ := h
  exact h
theorem cal_Chart_open_at (B : Bi mg) (D : MtAt K "Chart" "open_at" "Chart.open_at" s_Chart_open_at ["self", "number"]) (a_Chart_ends : ClsA K "Chart" "ends") : Mt P w K mg base 1 "Chart" "open_at" g_Chart_open_at :=
  let ⟨C, f, fd, hn, cl, me, F, hb⟩ := D.ex
  ⟨C, f, fd, ["self", "number"], hn, cl, me, ok_Chart_open_at B F a_Chart_ends, hb⟩
/-! Chart.open_doors -/
abbrev s_Chart_open_doors : Stmt := inClass (top 12) 7
abbrev N_Chart_open_doors : List Str := ["self", "found", "number", "door"]
theorem sc_Chart_open_doors : FnScope N_Chart_open_doors ["self"] (defScope s_Chart_open_doors) := ⟨rfl, rfl, rfl, by decide +kernel, rfl, by decide +kernel, by decide +kernel⟩
theorem ok_Chart_open_doors {f : Addr} {fd : FuncData} (B : Bi mg) (F : Fun K "open_doors" "Chart.open_doors" s_Chart_open_doors f fd) (a_Chart_ends : ClsA K "Chart" "ends") (c_Chart_open_at : Mt P w K mg base 1 "Chart" "open_at" g_Chart_open_at) : FnOk P w K mg base CX0 2 f fd ["self"] (spE K g_Chart_open_doors) := by
  have h : ∃ b, FnOk P w K mg base CX0 2 f fd ["self"] (spE K (fnD 1 4 b)) ∧ b = b_Chart_open_doors := ⟨_, fn_mk F sc_Chart_open_doors fun cdv A outer s H E hc =>
    (ess_cons (es_set (i := 1) sc_Chart_open_doors.nd rfl (by first | exact Or.inl rfl | exact Or.inr rfl) (ee_lst ea_nil))
  (ess_cons (es_for PassesOwn.never rfl (ei_range1 rfl B.n_range (ee_cb opr_len opa_len rfl B.n_len (by decide +kernel) (ea_cons (ee_fld (ClsAs.cons a_Chart_ends ClsAs.nil) (ee_v 0 (pv 0))) ea_nil))) (eg_nm (pg_name (i := 2) sc_Chart_open_doors.nd rfl (by first | exact Or.inl rfl | exact Or.inr rfl))) (ess_one (es_expr (ee_m (pe_bm PySem.F.plainAttrs_list PySem.F.slot_list_extend PySem.F.type_list_extend mt_extend (ee_v 1 (pv 1)) (ea_cons (ee_lc (own := [("door", 3)]) rfl sc_Chart_open_doors.nd (ei_seq (ee_mt c_Chart_open_at hc (by omega) (ee_v 0 (pv 0)) (ea_cons (ee_v 2 (pv 2)) ea_nil))) (blkOk_by (N := N_Chart_open_doors) (sc := defScope s_Chart_open_doors) (by decide +kernel)) (by decide) (fun _ _ _ _ _ => (eg_nm (pg_name (i := 3) sc_Chart_open_doors.nd rfl (by first | exact Or.inl rfl | exact Or.inr rfl)))) (fun _ _ _ _ _ => et_yes) (fun _ _ _ _ _ => (ee_tup (ea_cons (ee_v 2 (pv 2)) (ea_cons (ee_v 3 (pv 3)) ea_nil))))) ea_nil)) opm_extend))))
  (ess_one (es_ret (ee_v 1 (pv 1)))))), rfl⟩
  obtain ⟨_, h, rfl⟩ := h
  exact h
theorem cal_Chart_open_doors (B : Bi mg) (D : MtAt K "Chart" "open_doors" "Chart.open_doors" s_Chart_open_doors ["self"]) (a_Chart_ends : ClsA K "Chart" "ends") (c_Chart_open_at : Mt P w K mg base 1 "Chart" "open_at" g_Chart_open_at) : Mt P w K mg base 2 "Chart" "open_doors" g_Chart_open_doors :=
  let ⟨C, f, fd, hn, cl, me, F, hb⟩ := D.ex
  ⟨C, f, fd, ["self"], hn, cl, me, ok_Chart_open_doors B F a_Chart_ends c_Chart_open_at, hb⟩
/-! _law_chart_right -/
abbrev s_l_chart_right : Stmt := top 20
abbrev N_l_chart_right : List Str := ["_law_chart", "_law_model", "_law_told_here", "_law_due_here", "_law_found", "_law_room", "_law_mark_here", "_law_door"]
theorem sc_l_chart_right : FnScope N_l_chart_right ["_law_chart", "_law_model"] (defScope s_l_chart_right) := ⟨rfl, rfl, rfl, by decide +kernel, rfl, by decide +kernel, by decide +kernel⟩
theorem ok_l_chart_right {f : Addr} {fd : FuncData} (B : Bi mg) (F : Fun K "_law_chart_right" "_law_chart_right" s_l_chart_right f fd) (c_Chart_here : Mt P w K mg base 1 "Chart" "here" g_Chart_here) (c_Chart_rooms : Mt P w K mg base 1 "Chart" "rooms" g_Chart_rooms) (c_l_sketch_due : Cal P w K mg base 1 "_law_sketch_due" g_l_sketch_due) (c_Chart_sketch : Mt P w K mg base 1 "Chart" "sketch" g_Chart_sketch) (c_Chart_open_doors : Mt P w K mg base 2 "Chart" "open_doors" g_Chart_open_doors) : FnOk P w K mg base CX0 3 f fd ["_law_chart", "_law_model"] (spE K g_l_chart_right) := by
  have h : ∃ b, FnOk P w K mg base CX0 3 f fd ["_law_chart", "_law_model"] (spE K (fnD 2 8 b)) ∧ b = b_l_chart_right := ⟨_, fn_mk F sc_l_chart_right fun cdv A outer s H E hc =>
    (ess_cons (es_set (i := 2) sc_l_chart_right.nd rfl (by first | exact Or.inl rfl | exact Or.inr rfl) (ee_ct call_tuple_of opa_tuple rfl B.n_tuple (by decide +kernel) (ea_cons (ee_lc (own := [("_law_mark_here", 6)]) rfl sc_l_chart_right.nd (ei_seq (ee_sub hc (ee_v 1 (pv 1)) ee_str)) (blkOk_by (N := N_l_chart_right) (sc := defScope s_l_chart_right) (by decide +kernel)) (by decide) (fun _ _ _ _ _ => (eg_nm (pg_name (i := 6) sc_l_chart_right.nd rfl (by first | exact Or.inl rfl | exact Or.inr rfl)))) (fun _ _ _ _ _ => et_yes) (fun _ _ _ _ _ => (ee_tup (ea_cons (ee_v 6 (pv 6)) (ea_cons (ee_sub hc.blk (ee_sub hc.blk (ee_v 1 (pv 1)) ee_str) (ee_v 6 (pv 6))) ea_nil))))) ea_nil)))
  (ess_cons (es_if (et_w (ew_or (et_cmp (op_neD hc.room.units) op2_ne (ee_mt0 c_Chart_here hc (by omega) (ee_v 0 (pv 0))) (ee_sub hc (ee_v 1 (pv 1)) ee_str) (nomark _)) (ew_or1 (et_cmp (op_neD hc.room.units) op2_ne (ee_mt0 c_Chart_rooms hc (by omega) (ee_v 0 (pv 0))) (ee_v 2 (pv 2)) (nomark _))))) (ess_one (es_ret ee_bl)) ess_nil)
  (ess_cons (es_set (i := 3) sc_l_chart_right.nd rfl (by first | exact Or.inl rfl | exact Or.inr rfl) (ee_call c_l_sketch_due hc (by omega) rfl (ea_cons (ee_v 1 (pv 1)) ea_nil)))
  (ess_cons (es_set (i := 4) sc_l_chart_right.nd rfl (by first | exact Or.inl rfl | exact Or.inr rfl) (ee_lst ea_nil))
  (ess_cons (es_for PassesOwn.never rfl (ei_range1 rfl B.n_range (ee_cb opr_len opa_len rfl B.n_len (by decide +kernel) (ea_cons (ee_v 3 (pv 3)) ea_nil))) (eg_nm (pg_name (i := 5) sc_l_chart_right.nd rfl (by first | exact Or.inl rfl | exact Or.inr rfl))) (ess_one (es_expr (ee_m (pe_bm PySem.F.plainAttrs_list PySem.F.slot_list_extend PySem.F.type_list_extend mt_extend (ee_v 4 (pv 4)) (ea_cons (ee_lc (own := [("_law_door", 7)]) rfl sc_l_chart_right.nd (ei_range1 rfl B.n_range (ee_cb opr_len opa_len rfl B.n_len (by decide +kernel) (ea_cons (ee_sub hc (ee_v 3 (pv 3)) (ee_v 5 (pv 5))) ea_nil))) (blkOk_by (N := N_l_chart_right) (sc := defScope s_l_chart_right) (by decide +kernel)) (by decide) (fun _ _ _ _ _ => (eg_nm (pg_name (i := 7) sc_l_chart_right.nd rfl (by first | exact Or.inl rfl | exact Or.inr rfl)))) (fun _ _ _ _ _ => (et_one (et_cmp opr_is op2_is (ee_sub hc.blk (ee_sub hc.blk (ee_v 3 (pv 3)) (ee_v 5 (pv 5))) (ee_v 7 (pv 7))) ee_non (nomark _)))) (fun _ _ _ _ _ => (ee_tup (ea_cons (ee_v 5 (pv 5)) (ea_cons (ee_v 7 (pv 7)) ea_nil))))) ea_nil)) opm_extend))))
  (ess_one (es_ret (ee_and (ee_cmp (op_eqD hc.room.units) op2_eq (ee_mt0 c_Chart_sketch hc (by omega) (ee_v 0 (pv 0))) (ee_v 3 (pv 3)) (nomark _)) (ee_one (ee_cmp (op_eqD hc.room.units) op2_eq (ee_mt0 c_Chart_open_doors hc (by omega) (ee_v 0 (pv 0))) (ee_v 4 (pv 4)) (nomark _))))))))))), rfl⟩
  obtain ⟨_, h, rfl⟩ := h
  exact h
theorem cal_l_chart_right (B : Bi mg) (D : DefAt K mg "_law_chart_right" s_l_chart_right ["_law_chart", "_law_model"]) (c_Chart_here : Mt P w K mg base 1 "Chart" "here" g_Chart_here) (c_Chart_rooms : Mt P w K mg base 1 "Chart" "rooms" g_Chart_rooms) (c_l_sketch_due : Cal P w K mg base 1 "_law_sketch_due" g_l_sketch_due) (c_Chart_sketch : Mt P w K mg base 1 "Chart" "sketch" g_Chart_sketch) (c_Chart_open_doors : Mt P w K mg base 2 "Chart" "open_doors" g_Chart_open_doors) : Cal P w K mg base 3 "_law_chart_right" g_l_chart_right :=
  let ⟨f, fd, F, hm, hb⟩ := D.ex
  ⟨f, fd, ["_law_chart", "_law_model"], ok_l_chart_right B F c_Chart_here c_Chart_rooms c_l_sketch_due c_Chart_sketch c_Chart_open_doors, hm, F.kp, hb⟩
/-! law -/
abbrev s_law : Stmt := top 24
abbrev N_law : List Str := ["_law_script", "_law_box_here", "_law_doors", "_law_chart", "_law_model", "_law_k", "_law_turn", "_law_due_here", "_law_door", "_law_came", "_law_mark_here"]
theorem sc_law : FnScope N_law ["_law_script"] (defScope s_law) := ⟨rfl, rfl, rfl, by decide +kernel, rfl, by decide +kernel, by decide +kernel⟩
theorem ok_law {f : Addr} {fd : FuncData} (B : Bi mg) (F : Fun K "law" "law" s_law f fd) (c_l_box : Cal P w K mg base 1 "_law_box" g_l_box) (c_l_take : Cal P w K mg base 1 "_law_take" g_l_take) (c_Chart___init__ : MkC P w K mg base 1 "Chart" "Chart" g_Chart___init__) (c_l_mark : Cal P w K mg base 1 "_law_mark" g_l_mark) (c_l_begun : Cal P w K mg base 1 "_law_begun" g_l_begun) (c_l_step : Cal P w K mg base 2 "_law_step" g_l_step) (c_l_due : Cal P w K mg base 1 "_law_due" g_l_due_v7) (c_l_told : Cal P w K mg base 5 "_law_told" g_l_told_v4) (c_l_stepped : Cal P w K mg base 1 "_law_stepped" g_l_stepped) (c_l_chart_right : Cal P w K mg base 3 "_law_chart_right" g_l_chart_right) : FnOk P w K mg base CX0 6 f fd ["_law_script"] (spE K g_law_v80) := by
  have h : ∃ b, FnOk P w K mg base CX0 6 f fd ["_law_script"] (spE K (fnD 1 11 b)) ∧ b = b_law_v80 := ⟨_, fn_mk F sc_law fun cdv A outer s H E hc =>
    (ess_cons (es_set (i := 1) sc_law.nd rfl (by first | exact Or.inl rfl | exact Or.inr rfl) (ee_call c_l_box hc (by omega) rfl (ea_cons (ee_v 0 (pv 0)) (ea_cons ee_int ea_nil))))
  (ess_cons (es_set (i := 2) sc_law.nd rfl (by first | exact Or.inl rfl | exact Or.inr rfl) (ee_call c_l_take hc (by omega) rfl (ea_cons (ee_v 1 (pv 1)) (ea_cons ee_int ea_nil))))
  (ess_cons (es_set (i := 3) sc_law.nd rfl (by first | exact Or.inl rfl | exact Or.inr rfl) (ee_mk c_Chart___init__ hc (by omega) rfl (ea_cons (ee_call c_l_mark hc (by omega) rfl (ea_cons ee_int ea_nil)) (ea_cons (ee_v 2 (pv 2)) ea_nil))))
  (ess_cons (es_set (i := 4) sc_law.nd rfl (by first | exact Or.inl rfl | exact Or.inr rfl) (ee_call c_l_begun hc (by omega) rfl (ea_cons (ee_call c_l_mark hc (by omega) rfl (ea_cons ee_int ea_nil)) (ea_cons (ee_v 2 (pv 2)) ea_nil))))
  (ess_cons (es_for PassesOwn.never rfl (ei_range1 rfl B.n_range (ee_cb (call_max2 rfl) opa_max2 rfl B.n_max (by decide +kernel) (ea_cons ee_int (ea_cons (ee_cb opr_len opa_len rfl B.n_len (by decide +kernel) (ea_cons (ee_slice (ee_v 0 (pv 0)) (eo_some ee_int) (eo_some ee_int)) ea_nil)) ea_nil)))) (eg_nm (pg_name (i := 5) sc_law.nd rfl (by first | exact Or.inl rfl | exact Or.inr rfl))) (ess_cons (es_set (i := 1) sc_law.nd rfl (by first | exact Or.inl rfl | exact Or.inr rfl) (ee_call c_l_box hc (by omega) rfl (ea_cons (ee_v 0 (pv 0)) (ea_cons (ee_op opr_add op2_add (ee_v 5 (pv 5)) ee_int) ea_nil))))
  (ess_one (es_for PassesOwn.never rfl (ei_range1 rfl B.n_range ee_int) (eg_nm (pg_name (i := 6) sc_law.nd rfl (by first | exact Or.inl rfl | exact Or.inr rfl))) (ess_cons (es_asg (ee_call c_l_step hc (by omega) rfl (ea_cons (ee_v 1 (pv 1)) (ea_cons (ee_v 4 (pv 4)) ea_nil))) (eG_pat (eg_tp rfl (egs_cons (eg_nm (pg_name (i := 8) sc_law.nd rfl (by first | exact Or.inl rfl | exact Or.inr rfl))) (egs_cons (eg_nm (pg_name (i := 9) sc_law.nd rfl (by first | exact Or.inl rfl | exact Or.inr rfl))) (egs_cons (eg_nm (pg_name (i := 10) sc_law.nd rfl (by first | exact Or.inl rfl | exact Or.inr rfl))) (egs_cons (eg_nm (pg_name (i := 2) sc_law.nd rfl (by first | exact Or.inl rfl | exact Or.inr rfl))) egs_nil)))))))
  (ess_cons (es_set (i := 7) sc_law.nd rfl (by first | exact Or.inl rfl | exact Or.inr rfl) (ee_call c_l_due hc (by omega) rfl (ea_cons (ee_v 4 (pv 4)) (ea_cons (ee_v 8 (pv 8)) (ea_cons (ee_v 9 (pv 9)) (ea_cons (ee_v 10 (pv 10)) (ea_cons (ee_v 2 (pv 2)) ea_nil)))))))
  (ess_cons (es_if (et_cmp (op_neD hc.room.units) op2_ne (ee_call c_l_told hc (by omega) rfl (ea_cons (ee_v 3 (pv 3)) (ea_cons (ee_v 8 (pv 8)) (ea_cons (ee_v 9 (pv 9)) (ea_cons (ee_v 10 (pv 10)) (ea_cons (ee_v 2 (pv 2)) ea_nil)))))) (ee_v 7 (pv 7)) (nomark _)) (ess_one (es_ret ee_bl)) ess_nil)
  (ess_cons (es_if (et_cmp opr_is op2_is (ee_v 7 (pv 7)) ee_non (nomark _)) (ess_one (es_expr (ee_call c_l_stepped hc (by omega) rfl (ea_cons (ee_v 4 (pv 4)) (ea_cons (ee_v 8 (pv 8)) (ea_cons (ee_v 9 (pv 9)) (ea_cons (ee_v 10 (pv 10)) (ea_cons (ee_v 2 (pv 2)) ea_nil)))))))) ess_nil)
  (ess_one (es_if (et_not (et_val (ee_call c_l_chart_right hc (by omega) rfl (ea_cons (ee_v 3 (pv 3)) (ea_cons (ee_v 4 (pv 4)) ea_nil))))) (ess_one (es_ret ee_bl)) ess_nil))))))))))
  (ess_one (es_ret ee_bl))))))), rfl⟩
  obtain ⟨_, h, rfl⟩ := h
  exact h
theorem cal_law (B : Bi mg) (D : DefAt K mg "law" s_law ["_law_script"]) (c_l_box : Cal P w K mg base 1 "_law_box" g_l_box) (c_l_take : Cal P w K mg base 1 "_law_take" g_l_take) (c_Chart___init__ : MkC P w K mg base 1 "Chart" "Chart" g_Chart___init__) (c_l_mark : Cal P w K mg base 1 "_law_mark" g_l_mark) (c_l_begun : Cal P w K mg base 1 "_law_begun" g_l_begun) (c_l_step : Cal P w K mg base 2 "_law_step" g_l_step) (c_l_due : Cal P w K mg base 1 "_law_due" g_l_due_v7) (c_l_told : Cal P w K mg base 5 "_law_told" g_l_told_v4) (c_l_stepped : Cal P w K mg base 1 "_law_stepped" g_l_stepped) (c_l_chart_right : Cal P w K mg base 3 "_law_chart_right" g_l_chart_right) : Cal P w K mg base 6 "law" g_law_v80 :=
  let ⟨f, fd, F, hm, hb⟩ := D.ex
  ⟨f, fd, ["_law_script"], ok_law B F c_l_box c_l_take c_Chart___init__ c_l_mark c_l_begun c_l_step c_l_due c_l_told c_l_stepped c_l_chart_right, hm, F.kp, hb⟩
end
theorem bd_l_box : ∀ (kV doc pm : Value) (an : Option Addr) (cdv ct : Value) (us : List Value), us.length = 2 → bindArgs (PySem.W.fnOf "_law_box" "_law_box" (defArgs s_l_box) (defBody s_l_box) (defScope s_l_box) .none kV doc pm an cdv ct) ⟨us, []⟩ = pure ((["_law_script", "_law_k"] : List Str).zip us) := fun _ _ _ _ _ _ us hl => match us, hl with | [_, _], _ => rfl
theorem bd_l_take : ∀ (kV doc pm : Value) (an : Option Addr) (cdv ct : Value) (us : List Value), us.length = 2 → bindArgs (PySem.W.fnOf "_law_take" "_law_take" (defArgs s_l_take) (defBody s_l_take) (defScope s_l_take) .none kV doc pm an cdv ct) ⟨us, []⟩ = pure ((["_law_box_here", "_law_many"] : List Str).zip us) := fun _ _ _ _ _ _ us hl => match us, hl with | [_, _], _ => rfl
theorem bd_Chart___init__ : ∀ (kV doc pm : Value) (an : Option Addr) (cdv ct : Value) (us : List Value), us.length = 3 → bindArgs (PySem.W.fnOf "__init__" "Chart.__init__" (defArgs s_Chart___init__) (defBody s_Chart___init__) (defScope s_Chart___init__) .none kV doc pm an cdv ct) ⟨us, []⟩ = pure ((["self", "mark", "doors"] : List Str).zip us) := fun _ _ _ _ _ _ us hl => match us, hl with | [_, _, _], _ => rfl
theorem bd_l_mark : ∀ (kV doc pm : Value) (an : Option Addr) (cdv ct : Value) (us : List Value), us.length = 1 → bindArgs (PySem.W.fnOf "_law_mark" "_law_mark" (defArgs s_l_mark) (defBody s_l_mark) (defScope s_l_mark) .none kV doc pm an cdv ct) ⟨us, []⟩ = pure ((["_law_room"] : List Str).zip us) := fun _ _ _ _ _ _ us hl => match us, hl with | [_], _ => rfl
theorem bd_l_begun : ∀ (kV doc pm : Value) (an : Option Addr) (cdv ct : Value) (us : List Value), us.length = 2 → bindArgs (PySem.W.fnOf "_law_begun" "_law_begun" (defArgs s_l_begun) (defBody s_l_begun) (defScope s_l_begun) .none kV doc pm an cdv ct) ⟨us, []⟩ = pure ((["_law_mark_here", "_law_doors"] : List Str).zip us) := fun _ _ _ _ _ _ us hl => match us, hl with | [_, _], _ => rfl
theorem bd_l_step : ∀ (kV doc pm : Value) (an : Option Addr) (cdv ct : Value) (us : List Value), us.length = 2 → bindArgs (PySem.W.fnOf "_law_step" "_law_step" (defArgs s_l_step) (defBody s_l_step) (defScope s_l_step) .none kV doc pm an cdv ct) ⟨us, []⟩ = pure ((["_law_box_here", "_law_model"] : List Str).zip us) := fun _ _ _ _ _ _ us hl => match us, hl with | [_, _], _ => rfl
theorem bd_l_due : ∀ (kV doc pm : Value) (an : Option Addr) (cdv ct : Value) (us : List Value), us.length = 5 → bindArgs (PySem.W.fnOf "_law_due" "_law_due" (defArgs s_l_due) (defBody s_l_due) (defScope s_l_due) .none kV doc pm an cdv ct) ⟨us, []⟩ = pure ((["_law_model", "_law_door", "_law_came", "_law_mark_here", "_law_doors"] : List Str).zip us) := fun _ _ _ _ _ _ us hl => match us, hl with | [_, _, _, _, _], _ => rfl
theorem bd_Clash___init__ : ∀ (kV doc pm : Value) (an : Option Addr) (cdv ct : Value) (us : List Value), us.length = 3 → bindArgs (PySem.W.fnOf "__init__" "Clash.__init__" (defArgs s_Clash___init__) (defBody s_Clash___init__) (defScope s_Clash___init__) .none kV doc pm an cdv ct) ⟨us, []⟩ = pure ((["self", "words", "why"] : List Str).zip us) := fun _ _ _ _ _ _ us hl => match us, hl with | [_, _, _], _ => rfl
theorem bd_x_Chart_look_clash : ∀ (kV doc pm : Value) (an : Option Addr) (cdv ct : Value) (us : List Value), us.length = 5 → bindArgs (PySem.W.fnOf "look_clash" "Chart.look_clash" (defArgs s_x_Chart_look_clash) (defBody s_x_Chart_look_clash) (defScope s_x_Chart_look_clash) .none kV doc pm an cdv ct) ⟨us, []⟩ = pure ((["self", "door", "came", "mark", "doors"] : List Str).zip us) := fun _ _ _ _ _ _ us hl => match us, hl with | [_, _, _, _, _], _ => rfl
theorem bd_x_Chart_went : ∀ (kV doc pm : Value) (an : Option Addr) (cdv ct : Value) (us : List Value), us.length = 5 → bindArgs (PySem.W.fnOf "went" "Chart.went" (defArgs s_x_Chart_went) (defBody s_x_Chart_went) (defScope s_x_Chart_went) .none kV doc pm an cdv ct) ⟨us, []⟩ = pure ((["self", "door", "came", "mark", "doors"] : List Str).zip us) := fun _ _ _ _ _ _ us hl => match us, hl with | [_, _, _, _, _], _ => rfl
theorem bd_l_told : ∀ (kV doc pm : Value) (an : Option Addr) (cdv ct : Value) (us : List Value), us.length = 5 → bindArgs (PySem.W.fnOf "_law_told" "_law_told" (defArgs s_l_told) (defBody s_l_told) (defScope s_l_told) .none kV doc pm an cdv ct) ⟨us, []⟩ = pure ((["_law_chart", "_law_door", "_law_came", "_law_mark_here", "_law_doors"] : List Str).zip us) := fun _ _ _ _ _ _ us hl => match us, hl with | [_, _, _, _, _], _ => rfl
theorem bd_l_stepped : ∀ (kV doc pm : Value) (an : Option Addr) (cdv ct : Value) (us : List Value), us.length = 5 → bindArgs (PySem.W.fnOf "_law_stepped" "_law_stepped" (defArgs s_l_stepped) (defBody s_l_stepped) (defScope s_l_stepped) .none kV doc pm an cdv ct) ⟨us, []⟩ = pure ((["_law_model", "_law_door", "_law_came", "_law_mark_here", "_law_doors"] : List Str).zip us) := fun _ _ _ _ _ _ us hl => match us, hl with | [_, _, _, _, _], _ => rfl
theorem bd_Chart_here : ∀ (kV doc pm : Value) (an : Option Addr) (cdv ct : Value) (us : List Value), us.length = 1 → bindArgs (PySem.W.fnOf "here" "Chart.here" (defArgs s_Chart_here) (defBody s_Chart_here) (defScope s_Chart_here) .none kV doc pm an cdv ct) ⟨us, []⟩ = pure ((["self"] : List Str).zip us) := fun _ _ _ _ _ _ us hl => match us, hl with | [_], _ => rfl
theorem bd_Chart_rooms : ∀ (kV doc pm : Value) (an : Option Addr) (cdv ct : Value) (us : List Value), us.length = 1 → bindArgs (PySem.W.fnOf "rooms" "Chart.rooms" (defArgs s_Chart_rooms) (defBody s_Chart_rooms) (defScope s_Chart_rooms) .none kV doc pm an cdv ct) ⟨us, []⟩ = pure ((["self"] : List Str).zip us) := fun _ _ _ _ _ _ us hl => match us, hl with | [_], _ => rfl
theorem bd_l_sketch_due : ∀ (kV doc pm : Value) (an : Option Addr) (cdv ct : Value) (us : List Value), us.length = 1 → bindArgs (PySem.W.fnOf "_law_sketch_due" "_law_sketch_due" (defArgs s_l_sketch_due) (defBody s_l_sketch_due) (defScope s_l_sketch_due) .none kV doc pm an cdv ct) ⟨us, []⟩ = pure ((["_law_model"] : List Str).zip us) := fun _ _ _ _ _ _ us hl => match us, hl with | [_], _ => rfl
theorem bd_Chart_sketch : ∀ (kV doc pm : Value) (an : Option Addr) (cdv ct : Value) (us : List Value), us.length = 1 → bindArgs (PySem.W.fnOf "sketch" "Chart.sketch" (defArgs s_Chart_sketch) (defBody s_Chart_sketch) (defScope s_Chart_sketch) .none kV doc pm an cdv ct) ⟨us, []⟩ = pure ((["self"] : List Str).zip us) := fun _ _ _ _ _ _ us hl => match us, hl with | [_], _ => rfl
theorem bd_Chart_open_at : ∀ (kV doc pm : Value) (an : Option Addr) (cdv ct : Value) (us : List Value), us.length = 2 → bindArgs (PySem.W.fnOf "open_at" "Chart.open_at" (defArgs s_Chart_open_at) (defBody s_Chart_open_at) (defScope s_Chart_open_at) .none kV doc pm an cdv ct) ⟨us, []⟩ = pure ((["self", "number"] : List Str).zip us) := fun _ _ _ _ _ _ us hl => match us, hl with | [_, _], _ => rfl
theorem bd_Chart_open_doors : ∀ (kV doc pm : Value) (an : Option Addr) (cdv ct : Value) (us : List Value), us.length = 1 → bindArgs (PySem.W.fnOf "open_doors" "Chart.open_doors" (defArgs s_Chart_open_doors) (defBody s_Chart_open_doors) (defScope s_Chart_open_doors) .none kV doc pm an cdv ct) ⟨us, []⟩ = pure ((["self"] : List Str).zip us) := fun _ _ _ _ _ _ us hl => match us, hl with | [_], _ => rfl
theorem bd_l_chart_right : ∀ (kV doc pm : Value) (an : Option Addr) (cdv ct : Value) (us : List Value), us.length = 2 → bindArgs (PySem.W.fnOf "_law_chart_right" "_law_chart_right" (defArgs s_l_chart_right) (defBody s_l_chart_right) (defScope s_l_chart_right) .none kV doc pm an cdv ct) ⟨us, []⟩ = pure ((["_law_chart", "_law_model"] : List Str).zip us) := fun _ _ _ _ _ _ us hl => match us, hl with | [_, _], _ => rfl
theorem bd_law : ∀ (kV doc pm : Value) (an : Option Addr) (cdv ct : Value) (us : List Value), us.length = 1 → bindArgs (PySem.W.fnOf "law" "law" (defArgs s_law) (defBody s_law) (defScope s_law) .none kV doc pm an cdv ct) ⟨us, []⟩ = pure ((["_law_script"] : List Str).zip us) := fun _ _ _ _ _ _ us hl => match us, hl with | [_], _ => rfl
end SW
namespace SW
open PySem L2
theorem all_mk {l : PySem.W.OpenLaw} {w : World} {K : PySem.W.Frag} {h : Heap} {mg : Str → Option Value} {fa : Addr} (X : K.In h) (G : h.Ns mainGlobals mg) (hfa : mg "law" = some (.ref fa))
    {C_Chart : Addr} (n_Chart : PySem.W.nsIn K mainGlobals "Chart" = some (some (.ref C_Chart))) (pg_Chart : PySem.W.plainGet K C_Chart Str.empty = true) (hd_Chart : PySem.W.hasDictIn K C_Chart = true) (po_Chart : PySem.W.plainOver K C_Chart = true) (sa_Chart : PySem.W.findIn K (.ref C_Chart) "__setattr__" = some (some (.builtin "object.__setattr__")))
    (mk_Chart : PySem.W.makesIn K C_Chart = true) (kc_Chart : PySem.W.keepIn K (.ref C_Chart) = true)
    (na_Chart_marks : PySem.W.findIn K (.ref C_Chart) "marks" = some none)
    (na_Chart_ends : PySem.W.findIn K (.ref C_Chart) "ends" = some none)
    (na_Chart_spot : PySem.W.findIn K (.ref C_Chart) "spot" = some none)
    {C_NoDoor : Addr} (n_NoDoor : PySem.W.nsIn K mainGlobals "NoDoor" = some (some (.ref C_NoDoor)))
    {C_WebError : Addr} (n_WebError : PySem.W.nsIn K mainGlobals "WebError" = some (some (.ref C_WebError)))
    {C_BadRow : Addr} (n_BadRow : PySem.W.nsIn K mainGlobals "BadRow" = some (some (.ref C_BadRow)))
    {C_NoMark : Addr} (n_NoMark : PySem.W.nsIn K mainGlobals "NoMark" = some (some (.ref C_NoMark)))
    {C_NoStone : Addr} (n_NoStone : PySem.W.nsIn K mainGlobals "NoStone" = some (some (.ref C_NoStone)))
    {C_NotWhole : Addr} (n_NotWhole : PySem.W.nsIn K mainGlobals "NotWhole" = some (some (.ref C_NotWhole)))
    {C_NoWeb : Addr} (n_NoWeb : PySem.W.nsIn K mainGlobals "NoWeb" = some (some (.ref C_NoWeb)))
    {C_TooMany : Addr} (n_TooMany : PySem.W.nsIn K mainGlobals "TooMany" = some (some (.ref C_TooMany)))
    {C_Clash : Addr} (n_Clash : PySem.W.nsIn K mainGlobals "Clash" = some (some (.ref C_Clash)))
    (xi_NoDoor : PySem.W.excIn K C_NoDoor [.type "ValueError", .type "Exception", .type "BaseException", .type "object"] "ValueError.__new__" = true) (ke_NoDoor : PySem.W.keepIn K (.ref C_NoDoor) = true) (bx_NoDoor : PySem.W.subIn K (.ref C_NoDoor) (.type "BaseException") = some true) (tx_NoDoor : PySem.W.typeIn K (.ref C_NoDoor) = some (.type "type"))
    (eg_NoDoor : PySem.W.findIn K (.ref C_NoDoor) "__getattribute__" = some (some (.builtin "BaseException.__getattribute__"))) (ek_NoDoor : PySem.W.findIn K (.ref C_NoDoor) "__getattr__" = some none) (ed_NoDoor : PySem.W.hasDictIn K C_NoDoor = true) (ea_NoDoor : PySem.W.findIn K (.ref C_NoDoor) "__class__" = some (some (.builtin "object.__class__"))) (em_NoDoor : PySem.W.mroIn K C_NoDoor (.type "object") = some true)
    (oe_Clash : oexB K C_Clash = true) (sa_Clash : PySem.W.findIn K (.ref C_Clash) "__setattr__" = some (some (.builtin "object.__setattr__"))) (nf_Clash : PySem.W.findIn K (.ref C_Clash) "why" = some none) (ke_Clash : PySem.W.keepIn K (.ref C_Clash) = true) (bx_Clash : PySem.W.subIn K (.ref C_Clash) (.type "BaseException") = some true) (tx_Clash : PySem.W.typeIn K (.ref C_Clash) = some (.type "type"))
    (eg_Clash : PySem.W.findIn K (.ref C_Clash) "__getattribute__" = some (some (.builtin "BaseException.__getattribute__"))) (ek_Clash : PySem.W.findIn K (.ref C_Clash) "__getattr__" = some none) (ed_Clash : PySem.W.hasDictIn K C_Clash = true) (ea_Clash : PySem.W.findIn K (.ref C_Clash) "__class__" = some (some (.builtin "object.__class__"))) (em_Clash : PySem.W.mroIn K C_Clash (.type "object") = some true)
    (en_ : PySem.W.specialIn K (.builtin "object.__class__") "__get__" = some (some (.builtin "getset_descriptor.__get__"))) (et_ : PySem.W.takesIn K (.builtin "object.__class__") = some true)
    (vs_WebError : PySem.W.specialIn K (.ref C_WebError) "__getattribute__" = some (some (.builtin "type.__getattribute__"))) (vr_WebError : PySem.W.readsIn K C_WebError (.type "type") = true) (vf_WebError : PySem.W.findCls K (.ref C_WebError) (.type "type") "__init__" = some (.val (.builtin "ValueError.__init__")))
    (m_Clash_WebError : PySem.W.exmOne K (.ref C_Clash) (.ref C_WebError) = some true)
    (m_NoDoor_WebError : PySem.W.exmOne K (.ref C_NoDoor) (.ref C_WebError) = some true)
    (q_NoDoor_t_BadRow_NoMark_NoStone_NotWhole_NoWeb_TooMany : PySem.W.kitAny K (.ref C_NoDoor) [.ref C_BadRow, .ref C_NoMark, .ref C_NoStone, .ref C_NotWhole, .ref C_NoWeb, .ref C_TooMany] = some false)
    (q_Clash_t_BadRow_NoMark_NoStone_NotWhole_NoWeb_TooMany : PySem.W.kitAny K (.ref C_Clash) [.ref C_BadRow, .ref C_NoMark, .ref C_NoStone, .ref C_NotWhole, .ref C_NoWeb, .ref C_TooMany] = some false)
    (q_NoDoor_t_ValueError : PySem.W.kitOne K (.ref C_NoDoor) (.type "ValueError") = some true)
    (q_Clash_t_ValueError : PySem.W.kitOne K (.ref C_Clash) (.type "ValueError") = some true)
    (z_ValueError : PySem.W.nsIn K mainGlobals "ValueError" = some none)
    (q_NoDoor_t_NoDoor : PySem.W.kitOne K (.ref C_NoDoor) (.ref C_NoDoor) = some true)
    (q_Clash_t_NoDoor : PySem.W.kitOne K (.ref C_Clash) (.ref C_NoDoor) = some false)
    (q_NoDoor_t_Clash : PySem.W.kitOne K (.ref C_NoDoor) (.ref C_Clash) = some false)
    (q_Clash_t_Clash : PySem.W.kitOne K (.ref C_Clash) (.ref C_Clash) = some true)
    {f0 : Addr} {oc0 : Value} {od0 an0 : Option Addr} {sl0 : Array (Option Value)} {kV0 dc0 pm0 cd0 ct0 : Value} (a0 : PySem.W.nsIn K mainGlobals "_law_box" = some (some (.ref f0))) (l0 : K.lookup f0 = some ⟨oc0, od0, .func (PySem.W.fnOf "_law_box" "_law_box" (defArgs s_l_box) (defBody s_l_box) (defScope s_l_box) .none kV0 dc0 pm0 an0 cd0 ct0), sl0⟩) (c0 : PySem.W.codeIn K cd0 "_law_box" = true) (k0 : PySem.W.keepIn K (.ref f0) = true)
    {f1 : Addr} {oc1 : Value} {od1 an1 : Option Addr} {sl1 : Array (Option Value)} {kV1 dc1 pm1 cd1 ct1 : Value} (a1 : PySem.W.nsIn K mainGlobals "_law_take" = some (some (.ref f1))) (l1 : K.lookup f1 = some ⟨oc1, od1, .func (PySem.W.fnOf "_law_take" "_law_take" (defArgs s_l_take) (defBody s_l_take) (defScope s_l_take) .none kV1 dc1 pm1 an1 cd1 ct1), sl1⟩) (c1 : PySem.W.codeIn K cd1 "_law_take" = true) (k1 : PySem.W.keepIn K (.ref f1) = true)
    {f2 : Addr} {oc2 : Value} {od2 an2 : Option Addr} {sl2 : Array (Option Value)} {kV2 dc2 pm2 cd2 ct2 : Value} (a2 : PySem.W.findIn K (.ref C_Chart) "__init__" = some (some (.ref f2))) (i2 : PySem.W.isFn K (.ref f2) = true) (l2 : K.lookup f2 = some ⟨oc2, od2, .func (PySem.W.fnOf "__init__" "Chart.__init__" (defArgs s_Chart___init__) (defBody s_Chart___init__) (defScope s_Chart___init__) .none kV2 dc2 pm2 an2 cd2 ct2), sl2⟩) (c2 : PySem.W.codeIn K cd2 "Chart.__init__" = true) (k2 : PySem.W.keepIn K (.ref f2) = true)
    {f3 : Addr} {oc3 : Value} {od3 an3 : Option Addr} {sl3 : Array (Option Value)} {kV3 dc3 pm3 cd3 ct3 : Value} (a3 : PySem.W.nsIn K mainGlobals "_law_mark" = some (some (.ref f3))) (l3 : K.lookup f3 = some ⟨oc3, od3, .func (PySem.W.fnOf "_law_mark" "_law_mark" (defArgs s_l_mark) (defBody s_l_mark) (defScope s_l_mark) .none kV3 dc3 pm3 an3 cd3 ct3), sl3⟩) (c3 : PySem.W.codeIn K cd3 "_law_mark" = true) (k3 : PySem.W.keepIn K (.ref f3) = true)
    {f4 : Addr} {oc4 : Value} {od4 an4 : Option Addr} {sl4 : Array (Option Value)} {kV4 dc4 pm4 cd4 ct4 : Value} (a4 : PySem.W.nsIn K mainGlobals "_law_begun" = some (some (.ref f4))) (l4 : K.lookup f4 = some ⟨oc4, od4, .func (PySem.W.fnOf "_law_begun" "_law_begun" (defArgs s_l_begun) (defBody s_l_begun) (defScope s_l_begun) .none kV4 dc4 pm4 an4 cd4 ct4), sl4⟩) (c4 : PySem.W.codeIn K cd4 "_law_begun" = true) (k4 : PySem.W.keepIn K (.ref f4) = true)
    {f5 : Addr} {oc5 : Value} {od5 an5 : Option Addr} {sl5 : Array (Option Value)} {kV5 dc5 pm5 cd5 ct5 : Value} (a5 : PySem.W.nsIn K mainGlobals "_law_step" = some (some (.ref f5))) (l5 : K.lookup f5 = some ⟨oc5, od5, .func (PySem.W.fnOf "_law_step" "_law_step" (defArgs s_l_step) (defBody s_l_step) (defScope s_l_step) .none kV5 dc5 pm5 an5 cd5 ct5), sl5⟩) (c5 : PySem.W.codeIn K cd5 "_law_step" = true) (k5 : PySem.W.keepIn K (.ref f5) = true)
    {f6 : Addr} {oc6 : Value} {od6 an6 : Option Addr} {sl6 : Array (Option Value)} {kV6 dc6 pm6 cd6 ct6 : Value} (a6 : PySem.W.nsIn K mainGlobals "_law_due" = some (some (.ref f6))) (l6 : K.lookup f6 = some ⟨oc6, od6, .func (PySem.W.fnOf "_law_due" "_law_due" (defArgs s_l_due) (defBody s_l_due) (defScope s_l_due) .none kV6 dc6 pm6 an6 cd6 ct6), sl6⟩) (c6 : PySem.W.codeIn K cd6 "_law_due" = true) (k6 : PySem.W.keepIn K (.ref f6) = true)
    {f7 : Addr} {oc7 : Value} {od7 an7 : Option Addr} {sl7 : Array (Option Value)} {kV7 dc7 pm7 cd7 ct7 : Value} (a7 : PySem.W.findIn K (.ref C_Clash) "__init__" = some (some (.ref f7))) (i7 : PySem.W.isFn K (.ref f7) = true) (l7 : K.lookup f7 = some ⟨oc7, od7, .func (PySem.W.fnOf "__init__" "Clash.__init__" (defArgs s_Clash___init__) (defBody s_Clash___init__) (defScope s_Clash___init__) .none kV7 dc7 pm7 an7 cd7 ct7), sl7⟩) (c7 : PySem.W.codeIn K cd7 "Clash.__init__" = true) (k7 : PySem.W.keepIn K (.ref f7) = true)
    {f8 : Addr} {oc8 : Value} {od8 an8 : Option Addr} {sl8 : Array (Option Value)} {kV8 dc8 pm8 cd8 ct8 : Value} (a8 : PySem.W.findIn K (.ref C_Chart) "look_clash" = some (some (.ref f8))) (i8 : PySem.W.isFn K (.ref f8) = true) (l8 : K.lookup f8 = some ⟨oc8, od8, .func (PySem.W.fnOf "look_clash" "Chart.look_clash" (defArgs s_x_Chart_look_clash) (defBody s_x_Chart_look_clash) (defScope s_x_Chart_look_clash) .none kV8 dc8 pm8 an8 cd8 ct8), sl8⟩) (c8 : PySem.W.codeIn K cd8 "Chart.look_clash" = true) (k8 : PySem.W.keepIn K (.ref f8) = true)
    {f9 : Addr} {oc9 : Value} {od9 an9 : Option Addr} {sl9 : Array (Option Value)} {kV9 dc9 pm9 cd9 ct9 : Value} (a9 : PySem.W.findIn K (.ref C_Chart) "went" = some (some (.ref f9))) (i9 : PySem.W.isFn K (.ref f9) = true) (l9 : K.lookup f9 = some ⟨oc9, od9, .func (PySem.W.fnOf "went" "Chart.went" (defArgs s_x_Chart_went) (defBody s_x_Chart_went) (defScope s_x_Chart_went) .none kV9 dc9 pm9 an9 cd9 ct9), sl9⟩) (c9 : PySem.W.codeIn K cd9 "Chart.went" = true) (k9 : PySem.W.keepIn K (.ref f9) = true)
    {f10 : Addr} {oc10 : Value} {od10 an10 : Option Addr} {sl10 : Array (Option Value)} {kV10 dc10 pm10 cd10 ct10 : Value} (a10 : PySem.W.nsIn K mainGlobals "_law_told" = some (some (.ref f10))) (l10 : K.lookup f10 = some ⟨oc10, od10, .func (PySem.W.fnOf "_law_told" "_law_told" (defArgs s_l_told) (defBody s_l_told) (defScope s_l_told) .none kV10 dc10 pm10 an10 cd10 ct10), sl10⟩) (c10 : PySem.W.codeIn K cd10 "_law_told" = true) (k10 : PySem.W.keepIn K (.ref f10) = true)
    {f11 : Addr} {oc11 : Value} {od11 an11 : Option Addr} {sl11 : Array (Option Value)} {kV11 dc11 pm11 cd11 ct11 : Value} (a11 : PySem.W.nsIn K mainGlobals "_law_stepped" = some (some (.ref f11))) (l11 : K.lookup f11 = some ⟨oc11, od11, .func (PySem.W.fnOf "_law_stepped" "_law_stepped" (defArgs s_l_stepped) (defBody s_l_stepped) (defScope s_l_stepped) .none kV11 dc11 pm11 an11 cd11 ct11), sl11⟩) (c11 : PySem.W.codeIn K cd11 "_law_stepped" = true) (k11 : PySem.W.keepIn K (.ref f11) = true)
    {f12 : Addr} {oc12 : Value} {od12 an12 : Option Addr} {sl12 : Array (Option Value)} {kV12 dc12 pm12 cd12 ct12 : Value} (a12 : PySem.W.findIn K (.ref C_Chart) "here" = some (some (.ref f12))) (i12 : PySem.W.isFn K (.ref f12) = true) (l12 : K.lookup f12 = some ⟨oc12, od12, .func (PySem.W.fnOf "here" "Chart.here" (defArgs s_Chart_here) (defBody s_Chart_here) (defScope s_Chart_here) .none kV12 dc12 pm12 an12 cd12 ct12), sl12⟩) (c12 : PySem.W.codeIn K cd12 "Chart.here" = true) (k12 : PySem.W.keepIn K (.ref f12) = true)
    {f13 : Addr} {oc13 : Value} {od13 an13 : Option Addr} {sl13 : Array (Option Value)} {kV13 dc13 pm13 cd13 ct13 : Value} (a13 : PySem.W.findIn K (.ref C_Chart) "rooms" = some (some (.ref f13))) (i13 : PySem.W.isFn K (.ref f13) = true) (l13 : K.lookup f13 = some ⟨oc13, od13, .func (PySem.W.fnOf "rooms" "Chart.rooms" (defArgs s_Chart_rooms) (defBody s_Chart_rooms) (defScope s_Chart_rooms) .none kV13 dc13 pm13 an13 cd13 ct13), sl13⟩) (c13 : PySem.W.codeIn K cd13 "Chart.rooms" = true) (k13 : PySem.W.keepIn K (.ref f13) = true)
    {f14 : Addr} {oc14 : Value} {od14 an14 : Option Addr} {sl14 : Array (Option Value)} {kV14 dc14 pm14 cd14 ct14 : Value} (a14 : PySem.W.nsIn K mainGlobals "_law_sketch_due" = some (some (.ref f14))) (l14 : K.lookup f14 = some ⟨oc14, od14, .func (PySem.W.fnOf "_law_sketch_due" "_law_sketch_due" (defArgs s_l_sketch_due) (defBody s_l_sketch_due) (defScope s_l_sketch_due) .none kV14 dc14 pm14 an14 cd14 ct14), sl14⟩) (c14 : PySem.W.codeIn K cd14 "_law_sketch_due" = true) (k14 : PySem.W.keepIn K (.ref f14) = true)
    {f15 : Addr} {oc15 : Value} {od15 an15 : Option Addr} {sl15 : Array (Option Value)} {kV15 dc15 pm15 cd15 ct15 : Value} (a15 : PySem.W.findIn K (.ref C_Chart) "sketch" = some (some (.ref f15))) (i15 : PySem.W.isFn K (.ref f15) = true) (l15 : K.lookup f15 = some ⟨oc15, od15, .func (PySem.W.fnOf "sketch" "Chart.sketch" (defArgs s_Chart_sketch) (defBody s_Chart_sketch) (defScope s_Chart_sketch) .none kV15 dc15 pm15 an15 cd15 ct15), sl15⟩) (c15 : PySem.W.codeIn K cd15 "Chart.sketch" = true) (k15 : PySem.W.keepIn K (.ref f15) = true)
    {f16 : Addr} {oc16 : Value} {od16 an16 : Option Addr} {sl16 : Array (Option Value)} {kV16 dc16 pm16 cd16 ct16 : Value} (a16 : PySem.W.findIn K (.ref C_Chart) "open_at" = some (some (.ref f16))) (i16 : PySem.W.isFn K (.ref f16) = true) (l16 : K.lookup f16 = some ⟨oc16, od16, .func (PySem.W.fnOf "open_at" "Chart.open_at" (defArgs s_Chart_open_at) (defBody s_Chart_open_at) (defScope s_Chart_open_at) .none kV16 dc16 pm16 an16 cd16 ct16), sl16⟩) (c16 : PySem.W.codeIn K cd16 "Chart.open_at" = true) (k16 : PySem.W.keepIn K (.ref f16) = true)
    {f17 : Addr} {oc17 : Value} {od17 an17 : Option Addr} {sl17 : Array (Option Value)} {kV17 dc17 pm17 cd17 ct17 : Value} (a17 : PySem.W.findIn K (.ref C_Chart) "open_doors" = some (some (.ref f17))) (i17 : PySem.W.isFn K (.ref f17) = true) (l17 : K.lookup f17 = some ⟨oc17, od17, .func (PySem.W.fnOf "open_doors" "Chart.open_doors" (defArgs s_Chart_open_doors) (defBody s_Chart_open_doors) (defScope s_Chart_open_doors) .none kV17 dc17 pm17 an17 cd17 ct17), sl17⟩) (c17 : PySem.W.codeIn K cd17 "Chart.open_doors" = true) (k17 : PySem.W.keepIn K (.ref f17) = true)
    {f18 : Addr} {oc18 : Value} {od18 an18 : Option Addr} {sl18 : Array (Option Value)} {kV18 dc18 pm18 cd18 ct18 : Value} (a18 : PySem.W.nsIn K mainGlobals "_law_chart_right" = some (some (.ref f18))) (l18 : K.lookup f18 = some ⟨oc18, od18, .func (PySem.W.fnOf "_law_chart_right" "_law_chart_right" (defArgs s_l_chart_right) (defBody s_l_chart_right) (defScope s_l_chart_right) .none kV18 dc18 pm18 an18 cd18 ct18), sl18⟩) (c18 : PySem.W.codeIn K cd18 "_law_chart_right" = true) (k18 : PySem.W.keepIn K (.ref f18) = true)
    {f19 : Addr} {oc19 : Value} {od19 an19 : Option Addr} {sl19 : Array (Option Value)} {kV19 dc19 pm19 cd19 ct19 : Value} (a19 : PySem.W.nsIn K mainGlobals "law" = some (some (.ref f19))) (l19 : K.lookup f19 = some ⟨oc19, od19, .func (PySem.W.fnOf "law" "law" (defArgs s_law) (defBody s_law) (defScope s_law) .none kV19 dc19 pm19 an19 cd19 ct19), sl19⟩) (c19 : PySem.W.codeIn K cd19 "law" = true) (k19 : PySem.W.keepIn K (.ref f19) = true)
    (z_len : PySem.W.nsIn K mainGlobals "len" = some none)
    (z_abs : PySem.W.nsIn K mainGlobals "abs" = some none)
    (z_max : PySem.W.nsIn K mainGlobals "max" = some none)
    (z_min : PySem.W.nsIn K mainGlobals "min" = some none)
    (z_divmod : PySem.W.nsIn K mainGlobals "divmod" = some none)
    (z_sum : PySem.W.nsIn K mainGlobals "sum" = some none)
    (z_all : PySem.W.nsIn K mainGlobals "all" = some none)
    (z_any : PySem.W.nsIn K mainGlobals "any" = some none)
    (z_isinstance : PySem.W.nsIn K mainGlobals "isinstance" = some none)
    (z_sorted : PySem.W.nsIn K mainGlobals "sorted" = some none)
    (z_int : PySem.W.nsIn K mainGlobals "int" = some none)
    (z_bool : PySem.W.nsIn K mainGlobals "bool" = some none)
    (z_str : PySem.W.nsIn K mainGlobals "str" = some none)
    (z_list : PySem.W.nsIn K mainGlobals "list" = some none)
    (z_tuple : PySem.W.nsIn K mainGlobals "tuple" = some none)
    (z_dict : PySem.W.nsIn K mainGlobals "dict" = some none)
    (z_set : PySem.W.nsIn K mainGlobals "set" = some none)
    (z_range : PySem.W.nsIn K mainGlobals "range" = some none)
    (z_enumerate : PySem.W.nsIn K mainGlobals "enumerate" = some none)
    (z_zip : PySem.W.nsIn K mainGlobals "zip" = some none)
    (z_reversed : PySem.W.nsIn K mainGlobals "reversed" = some none)
    : ∃ fd : FuncData, (∀ (s : Shared) (v : Value), BindsTo s fd ⟨[v], []⟩ [("_law_script", v)]) ∧ ∀ base : Heap, K.In base → base.Ns mainGlobals mg → FnOk l.prog w K mg base CX0 6 fa fd ["_law_script"] (spE K g_law_v80) := by
  have B : Bi mg := ⟨PySem.W.mg_none_of X G z_len, PySem.W.mg_none_of X G z_abs, PySem.W.mg_none_of X G z_max, PySem.W.mg_none_of X G z_min, PySem.W.mg_none_of X G z_divmod, PySem.W.mg_none_of X G z_sum, PySem.W.mg_none_of X G z_all, PySem.W.mg_none_of X G z_any, PySem.W.mg_none_of X G z_isinstance, PySem.W.mg_none_of X G z_sorted, PySem.W.mg_none_of X G z_int, PySem.W.mg_none_of X G z_bool, PySem.W.mg_none_of X G z_str, PySem.W.mg_none_of X G z_list, PySem.W.mg_none_of X G z_tuple, PySem.W.mg_none_of X G z_dict, PySem.W.mg_none_of X G z_set, PySem.W.mg_none_of X G z_range, PySem.W.mg_none_of X G z_enumerate, PySem.W.mg_none_of X G z_zip, PySem.W.mg_none_of X G z_reversed⟩
  have cl_Chart : Cls K C_Chart := ⟨pg_Chart, hd_Chart, po_Chart, sa_Chart⟩
  have at_Chart_marks : ClsA K "Chart" "marks" := ⟨C_Chart, n_Chart, cl_Chart, na_Chart_marks⟩
  have at_Chart_ends : ClsA K "Chart" "ends" := ⟨C_Chart, n_Chart, cl_Chart, na_Chart_ends⟩
  have at_Chart_spot : ClsA K "Chart" "spot" := ⟨C_Chart, n_Chart, cl_Chart, na_Chart_spot⟩
  have X_NoDoor : XcC K mg "NoDoor" := ⟨C_NoDoor, n_NoDoor, PySem.W.mg_of X G n_NoDoor, xi_NoDoor, ke_NoDoor, bx_NoDoor, tx_NoDoor⟩
  have E_NoDoor : ExcC K C_NoDoor := ⟨eg_NoDoor, ek_NoDoor, bx_NoDoor, ed_NoDoor, ea_NoDoor, en_, et_, em_NoDoor⟩
  have XF_Clash : XfA K "Clash" "why" := ⟨C_Clash, n_Clash, ⟨eg_Clash, ek_Clash, bx_Clash, ed_Clash⟩, nf_Clash⟩
  have E_Clash : ExcC K C_Clash := ⟨eg_Clash, ek_Clash, bx_Clash, ed_Clash, ea_Clash, en_, et_, em_Clash⟩
  have V_WebError : VeC K mg "WebError" := ⟨C_WebError, PySem.W.mg_of X G n_WebError, vs_WebError, vr_WebError, vf_WebError⟩
  have e := hfa.symm.trans (PySem.W.mg_of X G a19)
  cases e
  have FL := fun_mk (st := s_law) l19 c19 k19
  refine ⟨PySem.W.fnOf "law" "law" (defArgs s_law) (defBody s_law) (defScope s_law) .none kV19 dc19 pm19 an19 cd19 ct19, fun s v => .of_eq (bd_law kV19 dc19 pm19 an19 cd19 ct19 [v] rfl), fun base _ _ => ?_⟩
  have c_l_box := cal_l_box (P := l.prog) (w := w) (base := base) B (defAt X G bd_l_box a0 l0 c0 k0) 
  have c_l_take := cal_l_take (P := l.prog) (w := w) (base := base) B (defAt X G bd_l_take a1 l1 c1 k1) 
  have c_Chart___init__ := cal_Chart___init__ (P := l.prog) (w := w) (base := base) B (mkAt X G bd_Chart___init__ n_Chart mk_Chart kc_Chart a2 i2 l2 c2 k2) at_Chart_marks at_Chart_ends at_Chart_spot
  have c_l_mark := cal_l_mark (P := l.prog) (w := w) (base := base) B (defAt X G bd_l_mark a3 l3 c3 k3) 
  have c_l_begun := cal_l_begun (P := l.prog) (w := w) (base := base) B (defAt X G bd_l_begun a4 l4 c4 k4) 
  have c_l_step := cal_l_step (P := l.prog) (w := w) (base := base) B (defAt X G bd_l_step a5 l5 c5 k5) c_l_take c_l_mark
  have c_l_due := cal_l_due (P := l.prog) (w := w) (base := base) B (defAt X G bd_l_due a6 l6 c6 k6) 
  have c_Clash___init__ := cal_Clash___init__ (P := l.prog) (w := w) (base := base) (exAt X G bd_Clash___init__ n_Clash oe_Clash sa_Clash bx_Clash tx_Clash ke_Clash nf_Clash a7 i7 l7 c7 k7) V_WebError
  have c_x_Chart_look_clash := cal_x_Chart_look_clash (P := l.prog) (w := w) (mg := mg) (base := base) B (mtAt bd_x_Chart_look_clash n_Chart cl_Chart a8 i8 l8 c8 k8) at_Chart_marks at_Chart_ends at_Chart_spot c_Clash___init__
  have c_x_Chart_went := cal_x_Chart_went (P := l.prog) (w := w) (mg := mg) (base := base) B (mtAt bd_x_Chart_went n_Chart cl_Chart a9 i9 l9 c9 k9) at_Chart_ends at_Chart_spot at_Chart_marks X_NoDoor c_x_Chart_look_clash
  have c_l_told := cal_l_told (P := l.prog) (w := w) (base := base) B (defAt X G bd_l_told a10 l10 c10 k10) (PySem.W.mg_of X G n_WebError) ((Caught.cons n_NoDoor m_NoDoor_WebError (Caught.cons n_Clash m_Clash_WebError Caught.nil))) (PySem.W.mg_of X G n_BadRow) (PySem.W.mg_of X G n_NoMark) (PySem.W.mg_of X G n_NoStone) (PySem.W.mg_of X G n_NotWhole) (PySem.W.mg_of X G n_NoWeb) (PySem.W.mg_of X G n_TooMany) ((IsTbl.cons n_NoDoor E_NoDoor q_NoDoor_t_BadRow_NoMark_NoStone_NotWhole_NoWeb_TooMany (IsTbl.cons n_Clash E_Clash q_Clash_t_BadRow_NoMark_NoStone_NotWhole_NoWeb_TooMany IsTbl.nil))) ((IsTbl.cons n_NoDoor E_NoDoor ⟨_, rfl, q_NoDoor_t_ValueError⟩ (IsTbl.cons n_Clash E_Clash ⟨_, rfl, q_Clash_t_ValueError⟩ IsTbl.nil))) (PySem.W.mg_none_of X G z_ValueError) (PySem.W.mg_of X G n_NoDoor) ((IsTbl.cons n_NoDoor E_NoDoor ⟨_, rfl, q_NoDoor_t_NoDoor⟩ (IsTbl.cons n_Clash E_Clash ⟨_, rfl, q_Clash_t_NoDoor⟩ IsTbl.nil))) (PySem.W.mg_of X G n_Clash) ((IsTbl.cons n_NoDoor E_NoDoor ⟨_, rfl, q_NoDoor_t_Clash⟩ (IsTbl.cons n_Clash E_Clash ⟨_, rfl, q_Clash_t_Clash⟩ IsTbl.nil))) XF_Clash c_x_Chart_went
  have c_l_stepped := cal_l_stepped (P := l.prog) (w := w) (base := base) B (defAt X G bd_l_stepped a11 l11 c11 k11) 
  have c_Chart_here := cal_Chart_here (P := l.prog) (w := w) (mg := mg) (base := base) B (mtAt bd_Chart_here n_Chart cl_Chart a12 i12 l12 c12 k12) at_Chart_marks at_Chart_spot
  have c_Chart_rooms := cal_Chart_rooms (P := l.prog) (w := w) (mg := mg) (base := base) B (mtAt bd_Chart_rooms n_Chart cl_Chart a13 i13 l13 c13 k13) at_Chart_marks at_Chart_ends
  have c_l_sketch_due := cal_l_sketch_due (P := l.prog) (w := w) (base := base) B (defAt X G bd_l_sketch_due a14 l14 c14 k14) 
  have c_Chart_sketch := cal_Chart_sketch (P := l.prog) (w := w) (mg := mg) (base := base) B (mtAt bd_Chart_sketch n_Chart cl_Chart a15 i15 l15 c15 k15) at_Chart_ends
  have c_Chart_open_at := cal_Chart_open_at (P := l.prog) (w := w) (mg := mg) (base := base) B (mtAt bd_Chart_open_at n_Chart cl_Chart a16 i16 l16 c16 k16) at_Chart_ends
  have c_Chart_open_doors := cal_Chart_open_doors (P := l.prog) (w := w) (mg := mg) (base := base) B (mtAt bd_Chart_open_doors n_Chart cl_Chart a17 i17 l17 c17 k17) at_Chart_ends c_Chart_open_at
  have c_l_chart_right := cal_l_chart_right (P := l.prog) (w := w) (base := base) B (defAt X G bd_l_chart_right a18 l18 c18 k18) c_Chart_here c_Chart_rooms c_l_sketch_due c_Chart_sketch c_Chart_open_doors
  exact ok_law B FL c_l_box c_l_take c_Chart___init__ c_l_mark c_l_begun c_l_step c_l_due c_l_told c_l_stepped c_l_chart_right
end SW
open PySem PySem.W PyProof.Rows
set_option maxRecDepth 100000 in
set_option maxHeartbeats 0 in
theorem PySem.Challenge.cw_stonewalker_k57_steps_refused_holds : PySem.Challenge.rw_stonewalker_k57_steps_refused.Holds := by
  w_on; o_law; k_head; (case hw => w_witness2)
  k_fill
  refine SW.walk (l := PySem.Challenge.rw_stonewalker_k57_steps_refused) (k := 6) (g := SW.g_law_v80) (x := "_law_script") rfl rfl ⟨rfl, by decide, by decide⟩ (fun w h Y => PySem.W.kIn_of Y) SW.law_true ?F
  case F =>
    intro w mg fa h KX G hmg
    refine' SW.all_mk KX G hmg ?n_Chart ?pg_Chart ?hd_Chart ?po_Chart ?sa_Chart ?mk_Chart ?kc_Chart ?na_Chart_marks ?na_Chart_ends ?na_Chart_spot ?n_NoDoor ?n_WebError ?n_BadRow ?n_NoMark ?n_NoStone ?n_NotWhole ?n_NoWeb ?n_TooMany ?n_Clash ?xi_NoDoor ?ke_NoDoor ?bx_NoDoor ?tx_NoDoor ?eg_NoDoor ?ek_NoDoor ?ed_NoDoor ?ea_NoDoor ?em_NoDoor ?oe_Clash ?sa_Clash ?nf_Clash ?ke_Clash ?bx_Clash ?tx_Clash ?eg_Clash ?ek_Clash ?ed_Clash ?ea_Clash ?em_Clash ?en_ ?et_ ?vs_WebError ?vr_WebError ?vf_WebError ?m_Clash_WebError ?m_NoDoor_WebError ?q_NoDoor_t_BadRow_NoMark_NoStone_NotWhole_NoWeb_TooMany ?q_Clash_t_BadRow_NoMark_NoStone_NotWhole_NoWeb_TooMany ?q_NoDoor_t_ValueError ?q_Clash_t_ValueError ?z_ValueError ?q_NoDoor_t_NoDoor ?q_Clash_t_NoDoor ?q_NoDoor_t_Clash ?q_Clash_t_Clash ?a0 ?l0 ?c0 ?k0 ?a1 ?l1 ?c1 ?k1 ?a2 ?i2 ?l2 ?c2 ?k2 ?a3 ?l3 ?c3 ?k3 ?a4 ?l4 ?c4 ?k4 ?a5 ?l5 ?c5 ?k5 ?a6 ?l6 ?c6 ?k6 ?a7 ?i7 ?l7 ?c7 ?k7 ?a8 ?i8 ?l8 ?c8 ?k8 ?a9 ?i9 ?l9 ?c9 ?k9 ?a10 ?l10 ?c10 ?k10 ?a11 ?l11 ?c11 ?k11 ?a12 ?i12 ?l12 ?c12 ?k12 ?a13 ?i13 ?l13 ?c13 ?k13 ?a14 ?l14 ?c14 ?k14 ?a15 ?i15 ?l15 ?c15 ?k15 ?a16 ?i16 ?l16 ?c16 ?k16 ?a17 ?i17 ?l17 ?c17 ?k17 ?a18 ?l18 ?c18 ?k18 ?a19 ?l19 ?c19 ?k19 ?z_len ?z_abs ?z_max ?z_min ?z_divmod ?z_sum ?z_all ?z_any ?z_isinstance ?z_sorted ?z_int ?z_bool ?z_str ?z_list ?z_tuple ?z_dict ?z_set ?z_range ?z_enumerate ?z_zip ?z_reversed
    (case n_Chart => k_is)
    (case pg_Chart => k_is)
    (case hd_Chart => k_is)
    (case po_Chart => k_is)
    (case sa_Chart => k_is)
    (case mk_Chart => k_is)
    (case kc_Chart => k_is)
    (case na_Chart_marks => k_is)
    (case na_Chart_ends => k_is)
    (case na_Chart_spot => k_is)
    (case n_NoDoor => k_is)
    (case n_WebError => k_is)
    (case n_BadRow => k_is)
    (case n_NoMark => k_is)
    (case n_NoStone => k_is)
    (case n_NotWhole => k_is)
    (case n_NoWeb => k_is)
    (case n_TooMany => k_is)
    (case n_Clash => k_is)
    (case xi_NoDoor => k_exc)
    (case ke_NoDoor => k_is)
    (case bx_NoDoor => k_is)
    (case tx_NoDoor => k_is)
    (case eg_NoDoor => k_is)
    (case ek_NoDoor => k_is)
    (case ed_NoDoor => k_is)
    (case ea_NoDoor => k_is)
    (case em_NoDoor => k_is)
    (case oe_Clash => kernel_rfl)
    (case sa_Clash => k_is)
    (case nf_Clash => k_is)
    (case ke_Clash => k_is)
    (case bx_Clash => k_is)
    (case tx_Clash => k_is)
    (case eg_Clash => k_is)
    (case ek_Clash => k_is)
    (case ed_Clash => k_is)
    (case ea_Clash => k_is)
    (case em_Clash => k_is)
    (case en_ => k_is)
    (case et_ => k_is)
    (case vs_WebError => k_is)
    (case vr_WebError => k_is)
    (case vf_WebError => k_is)
    (case m_Clash_WebError => kts_exm)
    (case m_NoDoor_WebError => kts_exm)
    (case q_NoDoor_t_BadRow_NoMark_NoStone_NotWhole_NoWeb_TooMany => kit_is)
    (case q_Clash_t_BadRow_NoMark_NoStone_NotWhole_NoWeb_TooMany => kit_is)
    (case q_NoDoor_t_ValueError => kit_is)
    (case q_Clash_t_ValueError => kit_is)
    (case z_ValueError => k_is)
    (case q_NoDoor_t_NoDoor => kit_is)
    (case q_Clash_t_NoDoor => kit_is)
    (case q_NoDoor_t_Clash => kit_is)
    (case q_Clash_t_Clash => kit_is)
    (case a0 => k_is)
    (case l0 => k_is)
    (case c0 => k_is)
    (case k0 => k_is)
    (case a1 => k_is)
    (case l1 => k_is)
    (case c1 => k_is)
    (case k1 => k_is)
    (case a2 => k_is)
    (case i2 => k_is)
    (case l2 => k_is)
    (case c2 => k_is)
    (case k2 => k_is)
    (case a3 => k_is)
    (case l3 => k_is)
    (case c3 => k_is)
    (case k3 => k_is)
    (case a4 => k_is)
    (case l4 => k_is)
    (case c4 => k_is)
    (case k4 => k_is)
    (case a5 => k_is)
    (case l5 => k_is)
    (case c5 => k_is)
    (case k5 => k_is)
    (case a6 => k_is)
    (case l6 => k_is)
    (case c6 => k_is)
    (case k6 => k_is)
    (case a7 => k_is)
    (case i7 => k_is)
    (case l7 => k_is)
    (case c7 => k_is)
    (case k7 => k_is)
    (case a8 => k_is)
    (case i8 => k_is)
    (case l8 => k_is)
    (case c8 => k_is)
    (case k8 => k_is)
    (case a9 => k_is)
    (case i9 => k_is)
    (case l9 => k_is)
    (case c9 => k_is)
    (case k9 => k_is)
    (case a10 => k_is)
    (case l10 => k_is)
    (case c10 => k_is)
    (case k10 => k_is)
    (case a11 => k_is)
    (case l11 => k_is)
    (case c11 => k_is)
    (case k11 => k_is)
    (case a12 => k_is)
    (case i12 => k_is)
    (case l12 => k_is)
    (case c12 => k_is)
    (case k12 => k_is)
    (case a13 => k_is)
    (case i13 => k_is)
    (case l13 => k_is)
    (case c13 => k_is)
    (case k13 => k_is)
    (case a14 => k_is)
    (case l14 => k_is)
    (case c14 => k_is)
    (case k14 => k_is)
    (case a15 => k_is)
    (case i15 => k_is)
    (case l15 => k_is)
    (case c15 => k_is)
    (case k15 => k_is)
    (case a16 => k_is)
    (case i16 => k_is)
    (case l16 => k_is)
    (case c16 => k_is)
    (case k16 => k_is)
    (case a17 => k_is)
    (case i17 => k_is)
    (case l17 => k_is)
    (case c17 => k_is)
    (case k17 => k_is)
    (case a18 => k_is)
    (case l18 => k_is)
    (case c18 => k_is)
    (case k18 => k_is)
    (case a19 => k_is)
    (case l19 => k_is)
    (case c19 => k_is)
    (case k19 => k_is)
    (case z_len => k_is)
    (case z_abs => k_is)
    (case z_max => k_is)
    (case z_min => k_is)
    (case z_divmod => k_is)
    (case z_sum => k_is)
    (case z_all => k_is)
    (case z_any => k_is)
    (case z_isinstance => k_is)
    (case z_sorted => k_is)
    (case z_int => k_is)
    (case z_bool => k_is)
    (case z_str => k_is)
    (case z_list => k_is)
    (case z_tuple => k_is)
    (case z_dict => k_is)
    (case z_set => k_is)
    (case z_range => k_is)
    (case z_enumerate => k_is)
    (case z_zip => k_is)
    (case z_reversed => k_is)
