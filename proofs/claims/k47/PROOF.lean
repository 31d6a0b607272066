import PyProof.Rows.All
import Wide.All
import OpenK.AllK
import Wide.FinOn
import HandS.ForExc
import HandS.Comp
import HandS.Walk
import HandS.Dict
import HandS.ExcSuper
import HandS.TryMany
import PyProof.ReprRoads
import HandS.Ends
import HandS.WordsExc
import KE.KTupSum
import HandS.TupAny
import HandS.Deep
import HandS.RaiseMore
import KE.GoesNew
import HandS.TupMul
import HandS.Text
import HandS.IsInst
import HandS.SortInts
import KE.SortData
import KE.DataMinMax
import HandS.Conv
import HandS.Style
import KE.KDictPairs
import HandS.ExcInit
import KE.KExcSuper
import HandS.ExcField
import HandS.ExcIs
import HandS.TupLe
import KE.KIndexOf
import HandS.Zip
import PyProof.ReprLen
import KE.LtData
import PySem.Challenge.RW_wholehills_k47_lots_judged
set_option Elab.async false
set_option linter.all false
set_option maxRecDepth 100000
set_option maxHeartbeats 4000000
/-! PyE: a pure evaluator over data; its values, how they lie in the heap -/
namespace PyE
open PySem PySem.Spec PyProof.Rows
open L2

abbrev St := L2.St
abbrev Kvs := List (PyData × PyData)
/-- what a slot holds: frozen data; an owned list, dict; a source of draws -/
inductive Mv where
  | fz (d : PyData) | ol (xs : List PyData) | od (kvs : Kvs) | rs (kind : Nat) (cells : List Int) (a b : Int)
abbrev Sm := List (Option Mv)
/-- what an expression gives: data; a slot's owned thing; a new list; a new dict -/
inductive Rv where
  | d (x : PyData) | s (i : Nat) | nl (xs : List PyData) | nd (kvs : Kvs) | nr (kind : Nat) (cells : List Int) (a b : Int)
/-- an exception: its class's name, what it keeps -/
structure Ex where
  cls : Str
  arg : Option PyData
inductive Res (α : Type) where
  | ok (a : α) (m : Sm) | ex (e : Ex) (m : Sm) | no
abbrev Ev (α : Type) := Sm → Res α
def Res.bind {α β : Type} : Res α → (α → Ev β) → Res β
  | .ok a m, f => f a m
  | .ex e m, _ => .ex e m
  | .no, _ => .no

/-! ### frozen data -/
/-- a list that never changes -/
def FL (K : PySem.W.Frag) (H : Hp) (a : Addr) (xs : List V) : Prop :=
  (∃ o, H a = some (.frz o (.lst xs))) ∨ ∃ (its : Array Value) (n : Nat), K.lookup a = some { cls := .type "list", dict := none, data := .seq its n, slots := #[] } ∧ its.size ≤ sizeLine ∧ Vals xs its.toList
theorem FL.seq {K : PySem.W.Frag} {H : Hp} {a : Addr} {xs : List V} (h : FL K H a xs) : SqL K H a xs := by
  rcases h with h | ⟨its, n, h1, h2, h3⟩
  · exact .inl (.inr h)
  · exact .inr ⟨_, its, n, h1, rfl, rfl, rfl, h2, h3⟩
/-- a tuple, as it stands -/
def TupF (H : Hp) (a : Addr) (xs : List V) : Prop := ∃ o : Obj, H a = some (.frz o (.tup xs)) ∧ o.dict = none
theorem TupF.sq {K : PySem.W.Frag} {H : Hp} {a : Addr} {xs : List V} (h : TupF H a xs) : SqT K H a xs := let ⟨o, h, _⟩ := h; .inl (.inr ⟨o, h⟩)
/-! ### dicts: keys, objects -/
/-- a dict's key: an int, a text -/
def keyD : Key → PyData
  | .inl i => .int i
  | .inr x => .str x
/-- a dict's key of more: a tuple of ints -/
def keysI (ks : List Int) : PyData := .tuple (ks.map .int)
abbrev Xs := List (List Int × Addr × Value)
def hashT (ks : List Int) : Int := reduceHash (Builtin.Tuple.tupleHashOf (ks.map hashInt))
def entI (x : List Int × Addr × Value) : DictEntry := ⟨hashT x.1, .ref x.2.1, x.2.2⟩
/-- a dict whose keys are tuples of ints, as it lies -/
def DXo (xs : Xs) (a : Addr) : HO := .ext fun h => (a == sysModules) = false ∧ xs.length ≤ sizeLine ∧ ∃ o es ep, h.get? a = some o ∧ o.ExactDict ∧ o.data = .dict es ep ∧ es.toList = xs.map entI ∧ (xs.map (·.1)).Nodup
mutual
inductive Fz (K : PySem.W.Frag) (H : Hp) : V → PyData → Prop
  | non : Fz K H .non .none
  | bl (b : Bool) : Fz K H (.bl b) (.bool b)
  | int (i : Int) : Fz K H (.int i) (.int i)
  | str (x : Str) : Fz K H (.str x) (.str x)
  | lst {a : Addr} {xs : List V} {ds : List PyData} : FL K H a xs → FzAll K H xs ds → Fz K H (.ref a) (.list ds)
  | tup {a : Addr} {xs : List V} {ds : List PyData} : TupF H a xs → FzAll K H xs ds → Fz K H (.ref a) (.tuple ds)
  | dik {a : Addr} {o : Obj} {l : List (Key × V)} {kvs : Kvs} : H a = some (.frz o (.dK l)) → FzAll K H (l.map (·.2)) (kvs.map (·.2)) → kvs.map (·.1) = l.map (fun p => keyD p.1) → Fz K H (.ref a) (.dict kvs)
  | dit {a : Addr} {o : Obj} {xs : Xs} {vs : List V} {kvs : Kvs} : H a = some (.frz o (DXo xs a)) → (∀ x ∈ xs, TupF H x.2.1 (x.1.map V.int)) → Vals vs (xs.map (·.2.2)) → FzAll K H vs (kvs.map (·.2)) → kvs.map (·.1) = xs.map (fun x => keysI x.1) → kvs ≠ [] → Fz K H (.ref a) (.dict kvs)
inductive FzAll (K : PySem.W.Frag) (H : Hp) : List V → List PyData → Prop
  | nil : FzAll K H [] []
  | cons {v : V} {vs : List V} {d : PyData} {ds : List PyData} : Fz K H v d → FzAll K H vs ds → FzAll K H (v :: vs) (d :: ds)
end
/-- what never changes is kept -/
def Keep (H H' : Hp) : Prop := ∀ b u, H b = some u → ¬ Mut (some u) → H' b = some u
theorem Keep.refl (H : Hp) : Keep H H := fun _ _ h _ => h
theorem Keep.trans {H H1 H2 : Hp} (a : Keep H H1) (b : Keep H1 H2) : Keep H H2 := fun c u h n => b c u (a c u h n) n
theorem Keep.rd {H H' : Hp} {a : Addr} {xs : List V} (k : Keep H H') (h : Rd H a (.tup xs)) : Rd H' a (.tup xs) := by
  rcases h with h | ⟨o, h⟩
  · exact .inl (k _ _ h fun z => z)
  · exact .inr ⟨o, k _ _ h fun z => z⟩
theorem Keep.sqT {K : PySem.W.Frag} {H H' : Hp} {a : Addr} {xs : List V} (k : Keep H H') (h : SqT K H a xs) : SqT K H' a xs := by
  rcases h with h | h
  · exact .inl (k.rd h)
  · exact .inr h
theorem Keep.fl {K : PySem.W.Frag} {H H' : Hp} {a : Addr} {xs : List V} (k : Keep H H') (h : FL K H a xs) : FL K H' a xs := by
  rcases h with ⟨o, h⟩ | h
  · exact .inl ⟨o, k _ _ h fun z => z⟩
  · exact .inr h
theorem Same.toKeep {H H' : Hp} (s : Same H H') : Keep H H' := fun b u h _ => s b u h
section
variable {K : PySem.W.Frag} {H H' : Hp}
mutual
theorem Fz.keep (k : Keep H H') : ∀ {v : V} {d : PyData}, Fz K H v d → Fz K H' v d
  | _, _, .non => .non
  | _, _, .bl b => .bl b
  | _, _, .int i => .int i
  | _, _, .str x => .str x
  | _, _, .lst h g => .lst (k.fl h) (FzAll.keep k g)
  | _, _, .tup h g => .tup (let ⟨o, h1, h2⟩ := h; ⟨o, k _ _ h1 fun z => z, h2⟩) (FzAll.keep k g)
  | _, _, .dik h g e => .dik (k _ _ h fun z => z) (FzAll.keep k g) e
  | _, _, .dit h t v g e n => .dit (k _ _ h fun z => z) (fun x hx => let ⟨o, h1, h2⟩ := t x hx; ⟨o, k _ _ h1 fun z => z, h2⟩) v (FzAll.keep k g) e n
theorem FzAll.keep (k : Keep H H') : ∀ {vs : List V} {ds : List PyData}, FzAll K H vs ds → FzAll K H' vs ds
  | _, _, .nil => .nil
  | _, _, .cons h g => .cons (Fz.keep k h) (FzAll.keep k g)
end
mutual
theorem Fz.dp : ∀ {v : V} {d : PyData}, Fz K H v d → d.hasDict = false → Dp K H v d
  | _, _, .non, _ => .non
  | _, _, .bl b, _ => .bl b
  | _, _, .int i, _ => .int i
  | _, _, .str x, _ => .str x
  | _, _, .lst h g, n => .lst h.seq (FzAll.dp g (by simpa only [PyData.hasDict] using n))
  | _, _, .tup h g, n => .tup h.sq (FzAll.dp g (by simpa only [PyData.hasDict] using n))
  | _, _, .dik .., n => by simp only [PyData.hasDict] at n; cases n
  | _, _, .dit .., n => by simp only [PyData.hasDict] at n; cases n
theorem FzAll.dp : ∀ {vs : List V} {ds : List PyData}, FzAll K H vs ds → PyData.hasDictAll ds = false → DpAll K H vs ds
  | _, _, .nil, _ => .nil
  | _, _, .cons h g, n => by
    simp only [PyData.hasDictAll, Bool.or_eq_false_iff] at n
    exact .cons (Fz.dp h n.1) (FzAll.dp g n.2)
end
theorem FzAll.length : ∀ {vs : List V} {ds : List PyData}, FzAll K H vs ds → vs.length = ds.length
  | _, _, .nil => rfl
  | _, _, .cons _ g => congrArg (· + 1) (FzAll.length g)
theorem FzAll.append : ∀ {vs ws : List V} {ds es : List PyData}, FzAll K H vs ds → FzAll K H ws es → FzAll K H (vs ++ ws) (ds ++ es)
  | _, _, _, _, .nil, g => g
  | _, _, _, _, .cons h g, g' => .cons h (FzAll.append g g')
theorem FzAll.get : ∀ {vs : List V} {ds : List PyData} {i : Nat} {d : PyData}, FzAll K H vs ds → ds[i]? = some d → ∃ v, vs[i]? = some v ∧ Fz K H v d
  | _, _, _, _, .nil, e => by simp at e
  | _, _, 0, _, .cons h _, e => by simp at e; subst e; exact ⟨_, rfl, h⟩
  | _, _, i + 1, d, .cons _ g, e => by
    obtain ⟨v, e1, h⟩ := FzAll.get (i := i) (d := d) g (by simpa using e)
    exact ⟨v, by simpa using e1, h⟩
theorem FzAll.getV : ∀ {vs : List V} {ds : List PyData} {i : Nat} {v : V}, FzAll K H vs ds → vs[i]? = some v → ∃ d, ds[i]? = some d ∧ Fz K H v d
  | _, _, _, _, .nil, e => by simp at e
  | _, _, 0, _, .cons h _, e => by simp at e; subst e; exact ⟨_, rfl, h⟩
  | _, _, i + 1, v, .cons _ g, e => by
    obtain ⟨d, e1, h⟩ := FzAll.getV (i := i) (v := v) g (by simpa using e)
    exact ⟨d, by simpa using e1, h⟩
theorem FzAll.take : ∀ {vs : List V} {ds : List PyData} (n : Nat), FzAll K H vs ds → FzAll K H (vs.take n) (ds.take n)
  | _, _, 0, _ => .nil
  | _, _, _ + 1, .nil => .nil
  | _, _, n + 1, .cons h g => .cons h (FzAll.take n g)
theorem FzAll.drop : ∀ {vs : List V} {ds : List PyData} (n : Nat), FzAll K H vs ds → FzAll K H (vs.drop n) (ds.drop n)
  | _, _, 0, g => g
  | _, _, _ + 1, .nil => .nil
  | _, _, n + 1, .cons _ g => FzAll.drop n g
theorem FzAll.reverse : ∀ {vs : List V} {ds : List PyData}, FzAll K H vs ds → FzAll K H vs.reverse ds.reverse
  | _, _, .nil => .nil
  | _, _, .cons h g => by rw [List.reverse_cons, List.reverse_cons]; exact (FzAll.reverse g).append (.cons h .nil)
theorem FzAll.set {w : V} {e : PyData} (q : Fz K H w e) : ∀ {vs : List V} {ds : List PyData} (n : Nat), FzAll K H vs ds → FzAll K H (vs.set n w) (ds.set n e)
  | _, _, _, .nil => .nil
  | _, _, 0, .cons _ g => .cons q g
  | _, _, n + 1, .cons h g => .cons h (FzAll.set q n g)
theorem FzAll.ints : ∀ (ns : List Int), FzAll K H (ns.map V.int) (ns.map PyData.int)
  | [] => .nil
  | n :: r => .cons (.int n) (FzAll.ints r)
end

/-! ### dicts -/
/-- a dict's pairs, by their data -/
inductive KvR (K : PySem.W.Frag) (H : Hp) {κ : Type} (e : κ → PyData) : List (κ × V) → Kvs → Prop
  | nil : KvR K H e [] []
  | cons {k : κ} {v : V} {d : PyData} {l : List (κ × V)} {kvs : Kvs} : Fz K H v d → KvR K H e l kvs → KvR K H e ((k, v) :: l) ((e k, d) :: kvs)
theorem KvR.keep {K : PySem.W.Frag} {H H' : Hp} {κ : Type} {e : κ → PyData} {l : List (κ × V)} {kvs : Kvs} (k : Keep H H') (r : KvR K H e l kvs) : KvR K H' e l kvs := by
  induction r with
  | nil => exact .nil
  | cons h _ ih => exact .cons (h.keep k) ih
/-- the same, the keys tuples of ints that stand in the heap -/
inductive TxR (K : PySem.W.Frag) (H : Hp) : Xs → Kvs → Prop
  | nil : TxR K H [] []
  | cons {k : List Int} {b : Addr} {u : Value} {v : V} {d : PyData} {xs : Xs} {kvs : Kvs} : TupF H b (k.map V.int) → RelV v u → Fz K H v d → TxR K H xs kvs → TxR K H ((k, b, u) :: xs) ((keysI k, d) :: kvs)
theorem TupF.keep {H H' : Hp} {a : Addr} {xs : List V} (k : Keep H H') (h : TupF H a xs) : TupF H' a xs := let ⟨o, h1, h2⟩ := h; ⟨o, k _ _ h1 fun z => z, h2⟩
theorem TxR.keep {K : PySem.W.Frag} {H H' : Hp} {xs : Xs} {kvs : Kvs} (k : Keep H H') (r : TxR K H xs kvs) : TxR K H' xs kvs := by
  induction r with
  | nil => exact .nil
  | cons h1 h2 h3 _ ih => exact .cons (h1.keep k) h2 (h3.keep k) ih
theorem KvR.fz {K : PySem.W.Frag} {H : Hp} {l : List (Key × V)} {kvs : Kvs} (r : KvR K H keyD l kvs) : FzAll K H (l.map (·.2)) (kvs.map (·.2)) ∧ kvs.map (·.1) = l.map (fun p => keyD p.1) := by
  induction r with
  | nil => exact ⟨.nil, rfl⟩
  | cons h _ ih => exact ⟨.cons h ih.1, by rw [List.map_cons, List.map_cons, ih.2]⟩
theorem KvR.of_fz {K : PySem.W.Frag} {H : Hp} : ∀ {l : List (Key × V)} {kvs : Kvs}, FzAll K H (l.map (·.2)) (kvs.map (·.2)) → kvs.map (·.1) = l.map (fun p => keyD p.1) → KvR K H keyD l kvs
  | [], [], _, _ => .nil
  | [], _ :: _, _, e => by cases e
  | _ :: _, [], _, e => by cases e
  | (k, v) :: l, (k', d) :: kvs, g, e => by
    simp only [List.map_cons, List.cons.injEq] at e
    obtain ⟨e1, e2⟩ := e
    subst e1
    cases g with
    | cons h g => exact .cons h (KvR.of_fz g e2)
theorem TxR.fz {K : PySem.W.Frag} {H : Hp} {xs : Xs} {kvs : Kvs} (r : TxR K H xs kvs) : ∃ vs, (∀ x ∈ xs, TupF H x.2.1 (x.1.map V.int)) ∧ Vals vs (xs.map (·.2.2)) ∧ FzAll K H vs (kvs.map (·.2)) ∧ kvs.map (·.1) = xs.map (fun x => keysI x.1) := by
  induction r with
  | nil => exact ⟨[], by simp, .nil, .nil, rfl⟩
  | @cons k b u v d xs kvs h1 h2 h3 _ ih =>
    obtain ⟨vs, q1, q2, q3, q4⟩ := ih
    refine ⟨v :: vs, fun x hx => ?_, .cons h2 q2, .cons h3 q3, by rw [List.map_cons, List.map_cons, q4]⟩
    rcases List.mem_cons.mp hx with rfl | hx
    · exact h1
    · exact q1 x hx
theorem TxR.of_fz {K : PySem.W.Frag} {H : Hp} : ∀ {xs : Xs} {vs : List V} {kvs : Kvs}, (∀ x ∈ xs, TupF H x.2.1 (x.1.map V.int)) → Vals vs (xs.map (·.2.2)) → FzAll K H vs (kvs.map (·.2)) → kvs.map (·.1) = xs.map (fun x => keysI x.1) → TxR K H xs kvs
  | [], _, [], _, _, _, _ => .nil
  | [], _, _ :: _, _, _, _, e => by cases e
  | _ :: _, _, [], _, _, _, e => by cases e
  | (k, b, u) :: xs, vs, (k', d) :: kvs, t, v, g, e => by
    simp only [List.map_cons, List.cons.injEq] at e
    obtain ⟨e1, e2⟩ := e
    subst e1
    simp only [List.map_cons] at v g
    cases v with
    | cons h v =>
      cases g with
      | cons z g => exact .cons (t _ (List.mem_cons_self ..)) h z (TxR.of_fz (fun x hx => t x (List.mem_cons_of_mem _ hx)) v g e2)
/-- a dict that may be read: it stands, or it is frozen -/
inductive DictRd (K : PySem.W.Frag) (H : Hp) (a : Addr) : Kvs → Prop
  | nil : (Rd H a (.dK []) ∨ H a = some (DXo [] a)) → DictRd K H a []
  | k {l : List (Key × V)} {kvs : Kvs} : Rd H a (.dK l) → KvR K H keyD l kvs → kvs ≠ [] → DictRd K H a kvs
  | t {xs : Xs} {kvs : Kvs} : Rd H a (DXo xs a) → TxR K H xs kvs → kvs ≠ [] → DictRd K H a kvs
theorem Fz.dict {K : PySem.W.Frag} {H : Hp} {v : V} {kvs : Kvs} (h : Fz K H v (.dict kvs)) : ∃ a, v = .ref a ∧ DictRd K H a kvs := by
  cases h with
  | @dik a o l kvs h g e =>
    refine ⟨a, rfl, ?_⟩
    cases kvs with
    | nil =>
      cases l with
      | nil => exact .nil (.inl (.inr ⟨o, h⟩))
      | cons => cases e
    | cons p kvs => exact .k (.inr ⟨o, h⟩) (KvR.of_fz g e) (by simp)
  | @dit a o xs vs kvs h t v g e n => exact ⟨a, rfl, .t (.inr ⟨o, h⟩) (TxR.of_fz t v g e) n⟩
/-- the dict at a holds these pairs: keys ints and texts, or tuples of ints -/
inductive DictAt (K : PySem.W.Frag) (H : Hp) (a : Addr) : Kvs → Prop
  | nil : (H a = some (.dK []) ∨ H a = some (DXo [] a)) → DictAt K H a []
  | k {l : List (Key × V)} {kvs : Kvs} : H a = some (.dK l) → KvR K H keyD l kvs → kvs ≠ [] → DictAt K H a kvs
  | t {xs : Xs} {kvs : Kvs} : H a = some (DXo xs a) → TxR K H xs kvs → kvs ≠ [] → DictAt K H a kvs
theorem DictAt.rd {K : PySem.W.Frag} {H : Hp} {a : Addr} {kvs : Kvs} (h : DictAt K H a kvs) : DictRd K H a kvs := by
  cases h with
  | nil h => exact .nil (h.imp .of id)
  | k h r n => exact .k (.of h) r n
  | t h r n => exact .t (.of h) r n
theorem DictAt.mut {K : PySem.W.Frag} {H : Hp} {a : Addr} {kvs : Kvs} (h : DictAt K H a kvs) : Mut (H a) := by
  cases h with
  | nil h => rcases h with h | h <;> (rw [h]; exact trivial)
  | k h => rw [h]; exact trivial
  | t h => rw [h]; exact trivial
theorem DictAt.keep {K : PySem.W.Frag} {H H' : Hp} {a : Addr} {kvs : Kvs} (h : DictAt K H a kvs) (k : Keep H H') (e : H' a = H a) : DictAt K H' a kvs := by
  cases h with
  | nil h => exact .nil (by rw [e]; exact h)
  | k h r n => exact .k (by rw [e]; exact h) (r.keep k) n
  | t h r n => exact .t (by rw [e]; exact h) (r.keep k) n

/-! ### sources of draws: how each kind lies -/
/-- kind 0: [cells, a, b], cells a list; kind 1: a dict of three text keys; more kinds by further rules -/
inductive RsAt (H : Hp) : Nat → List Int → Int → Int → V → List Addr → Prop
  | k0 {p c : Addr} {cells : List Int} {a b : Int} : p ≠ c → H p = some (.lst [.ref c, .int a, .int b]) → H c = some (.lst (cells.map V.int)) → RsAt H 0 cells a b (.ref p) [p, c]
  | k1 {p c : Addr} {cells : List Int} {a b : Int} : p ≠ c → H p = some (.dK [(.inr "great", .ref c), (.inr "stirred", .int a), (.inr "turn", .int b)]) → H c = some (.lst (cells.map V.int)) → RsAt H 1 cells a b (.ref p) [p, c]
  | k2 {p c : Addr} {cells : List Int} {a b : Int} : p ≠ c → H p = some (.dK [(.inr "great", .ref c), (.inr "seal", .int a), (.inr "turn", .int b)]) → H c = some (.lst (cells.map V.int)) → RsAt H 2 cells a b (.ref p) [p, c]
  | k3 {p c : Addr} {cells : List Int} {a b : Int} : p ≠ c → H p = some (.dK [(.inr "great", .ref c), (.inr "mixed", .int a), (.inr "turns", .int b)]) → H c = some (.lst (cells.map V.int)) → RsAt H 3 cells a b (.ref p) [p, c]
  | k4 {p c : Addr} {cells : List Int} {a b : Int} : p ≠ c → H p = some (.lst [.ref c, .int a, .int b]) → H c = some (.lst (cells.map V.int)) → RsAt H 4 cells a b (.ref p) [p, c]

theorem RsAt.mut {H : Hp} {k : Nat} {c : List Int} {a b : Int} {v : V} {fp : List Addr} (h : RsAt H k c a b v fp) : ∀ b ∈ fp, Mut (H b) := by
  intro b hb
  cases h <;> (rename_i h1 h2; simp only [List.mem_cons, List.not_mem_nil, or_false] at hb; rcases hb with rfl | rfl <;> first | (rw [h1]; exact trivial) | (rw [h2]; exact trivial))
theorem RsAt.at {H H' : Hp} {k : Nat} {c : List Int} {a b : Int} {v : V} {fp : List Addr} (h : RsAt H k c a b v fp) (e : ∀ b ∈ fp, H' b = H b) : RsAt H' k c a b v fp := by
  cases h with
  | k0 n h1 h2 => exact .k0 n ((e _ (by simp)).trans h1) ((e _ (by simp)).trans h2)
  | k1 n h1 h2 => exact .k1 n ((e _ (by simp)).trans h1) ((e _ (by simp)).trans h2)
  | k2 n h1 h2 => exact .k2 n ((e _ (by simp)).trans h1) ((e _ (by simp)).trans h2)
  | k3 n h1 h2 => exact .k3 n ((e _ (by simp)).trans h1) ((e _ (by simp)).trans h2)
  | k4 n h1 h2 => exact .k4 n ((e _ (by simp)).trans h1) ((e _ (by simp)).trans h2)

/-! ### what a slot holds, by its heap -/
inductive RelM (K : PySem.W.Frag) (H : Hp) : Mv → V → List Addr → Prop
  | fz {d : PyData} {v : V} : Fz K H v d → RelM K H (.fz d) v []
  | ol {xs : List PyData} {a : Addr} {ys : List V} : H a = some (.lst ys) → FzAll K H ys xs → RelM K H (.ol xs) (.ref a) [a]
  | od {kvs : Kvs} {a : Addr} : DictAt K H a kvs → RelM K H (.od kvs) (.ref a) [a]
  | rs {k : Nat} {c : List Int} {a b : Int} {v : V} {fp : List Addr} : RsAt H k c a b v fp → RelM K H (.rs k c a b) v fp
theorem RelM.mut {K : PySem.W.Frag} {H : Hp} {mv : Mv} {v : V} {fp : List Addr} (h : RelM K H mv v fp) : ∀ b ∈ fp, Mut (H b) := by
  cases h with
  | fz h => intro b hb; cases hb
  | ol h g => intro b hb; simp only [List.mem_singleton] at hb; subst hb; rw [h]; exact trivial
  | od h => intro b hb; simp only [List.mem_singleton] at hb; subst hb; exact h.mut
  | rs h => exact h.mut
theorem RelM.keep {K : PySem.W.Frag} {H H' : Hp} {mv : Mv} {v : V} {fp : List Addr} (h : RelM K H mv v fp) (k : Keep H H') (e : ∀ b ∈ fp, H' b = H b) : RelM K H' mv v fp := by
  cases h with
  | fz h => exact .fz (h.keep k)
  | ol h g => exact .ol (by rw [e _ (by simp)]; exact h) (g.keep k)
  | od h => exact .od (h.keep k (e _ (by simp)))
  | rs h => exact .rs (h.at e)

/-! ### the slots -/
abbrev Fp := Nat → List Addr
structure RelS (K : PySem.W.Frag) (H : Hp) (m : Sm) (σ : St) (fp : Fp) : Prop where
  at_ : ∀ i mv, m[i]? = some (some mv) → ∃ v, σ[i]? = some (some v) ∧ RelM K H mv v (fp i)
  emp : ∀ i, (∀ mv, m[i]? ≠ some (some mv)) → fp i = []
  dis : ∀ i j b, b ∈ fp i → b ∈ fp j → i = j
  len : m.length = σ.length
/-- what an evaluation does to the heap: what was not owned stays; what is owned now was owned, or is new; what is tracked stays so -/
structure Step (fp fp' : Fp) (H H' : Hp) : Prop where
  own : ∀ i b, b ∈ fp' i → (∃ j, b ∈ fp j) ∨ H b = none
  keep : ∀ b o, H b = some o → (∀ i, b ∉ fp i) → H' b = some o
  trk : ∀ b, H' b = none → H b = none
theorem Step.refl (fp : Fp) (H : Hp) : Step fp fp H H := ⟨fun i b h => .inl ⟨i, h⟩, fun _ _ h _ => h, fun _ h => h⟩
theorem Step.trans {f0 f1 f2 : Fp} {H0 H1 H2 : Hp} (a : Step f0 f1 H0 H1) (b : Step f1 f2 H1 H2) : Step f0 f2 H0 H2 := by
  refine ⟨fun i c h => ?_, fun c o h n => ?_, fun c h => a.trk c (b.trk c h)⟩
  · rcases b.own i c h with ⟨j, h1⟩ | h1
    · exact a.own j c h1
    · exact .inr (a.trk c h1)
  · refine b.keep c o (a.keep c o h n) fun i hi => ?_
    rcases a.own i c hi with ⟨j, h1⟩ | h1
    · exact n j h1
    · rw [h] at h1; cases h1
theorem Step.same {fp : Fp} {H H' : Hp} (s : Same H H') : Step fp fp H H' :=
  ⟨fun i b h => .inl ⟨i, h⟩, fun b o h _ => s b o h, fun _ h => s.free h⟩
section
variable {K : PySem.W.Frag} {H H' : Hp} {m m' : Sm} {σ : St} {fp fp' : Fp}
theorem RelS.mut (r : RelS K H m σ fp) {i : Nat} {b : Addr} (h : b ∈ fp i) : Mut (H b) := by
  by_cases e : ∃ mv, m[i]? = some (some mv)
  · obtain ⟨mv, e⟩ := e
    obtain ⟨v, _, q⟩ := r.at_ i mv e
    exact q.mut b h
  · rw [r.emp i fun mv q => e ⟨mv, q⟩] at h; cases h
theorem RelS.some_ (r : RelS K H m σ fp) {i : Nat} {b : Addr} (h : b ∈ fp i) : H b ≠ none := fun e => by
  have := r.mut h; rw [e] at this; exact this
theorem RelS.keepOf (r : RelS K H m σ fp) (s : Step fp fp' H H') : Keep H H' := fun b u h n =>
  s.keep b u h fun i hi => n (by have := r.mut hi; rw [h] at this; exact this)
theorem RelS.same (r : RelS K H m σ fp) (s : Same H H') : RelS K H' m σ fp := by
  refine ⟨fun i mv e => ?_, r.emp, r.dis, r.len⟩
  obtain ⟨v, e1, q⟩ := r.at_ i mv e
  refine ⟨v, e1, q.keep (PyE.Same.toKeep s) fun b hb => ?_⟩
  cases q2 : H b with
  | none => exact absurd q2 (r.some_ hb)
  | some o => exact s b o q2
end
end PyE

/-! PyE: what an expression's evaluation says of it -/
namespace PyE
open PySem PySem.Spec PyProof.Rows
open L2

/-- how an exception lies: its class, its own dict -/
abbrev XR := PySem.W.Frag → Hp → Ex → Value → Option Addr → Prop

/-- what an expression gave, by its heap; H0: the heap ahead of it -/
def RelR (K : PySem.W.Frag) (H0 H : Hp) (σ : St) (fp : Fp) : Rv → V → Prop
  | .d x, v => Fz K H v x
  | .s i, v => σ[i]? = some (some v)
  | .nl xs, v => ∃ a ys, v = .ref a ∧ H a = some (.lst ys) ∧ FzAll K H ys xs ∧ H0 a = none ∧ ∀ i, a ∉ fp i
  | .nd kvs, v => ∃ a, v = .ref a ∧ DictAt K H a kvs ∧ H0 a = none ∧ ∀ i, a ∉ fp i
  | .nr k c a b, v => ∃ f, RsAt H k c a b v f ∧ ∀ b ∈ f, H0 b = none ∧ ∀ i, b ∉ fp i

abbrev RelT (α β : Type) := Hp → Hp → St → Fp → α → β → Prop
/-- what is wanted of a result -/
def Post {α β : Type} (xr : XR) (K : PySem.W.Frag) (W : WX) (R : RelT α β) (σ : St) (H : Hp) (fp : Fp) (Q : β → Hp → Prop) : Res α → Prop
  | .ok r m' => ∀ v H' fp', RelS K H' m' σ fp' → Step fp fp' H H' → R H H' σ fp' r v → Q v H'
  | .ex e m' => ∀ c d H' fp', RelS K H' m' σ fp' → Step fp fp' H H' → xr K H' e c d → W c d σ H'
  | .no => False
def tG {α β : Type} (xr : XR) (K : PySem.W.Frag) (W : WX) (R : RelT α β) (f : Ev α) (σ : St) (H : Hp) (Q : β → Hp → Prop) : Prop :=
  ∃ m fp, RelS K H m σ fp ∧ Post xr K W R σ H fp Q (f m)
/-- several values: each is related as the state behind all of them has it -/
def RelRs (K : PySem.W.Frag) (H0 H : Hp) (σ : St) (fp : Fp) : List Rv → List V → Prop
  | [], [] => True
  | r :: rs, v :: vs => RelR K H0 H σ fp r v ∧ RelRs K H0 H σ fp rs vs
  | _, _ => False
abbrev RelD (K : PySem.W.Frag) : RelT PyData V := fun _ H _ _ x v => Fz K H v x
abbrev RelB : RelT Bool Bool := fun _ _ _ _ x b => x = b
abbrev RelU {β : Type} : RelT Unit β := fun _ _ _ _ _ _ => True
/-- readings of expressions, tests, argument lists -/
abbrev tE (xr : XR) (K : PySem.W.Frag) (W : WX) (f : Ev Rv) : TE := fun σ H Q => tG xr K W (RelR K) f σ H Q
abbrev tT (xr : XR) (K : PySem.W.Frag) (W : WX) (f : Ev Bool) : TT := fun σ H Q => tG xr K W RelB f σ H Q
abbrev tA (xr : XR) (K : PySem.W.Frag) (W : WX) (f : Ev (List Rv)) : TA := fun σ H Q => tG xr K W (RelRs K) f σ H Q

def bnd {α γ : Type} (f : Ev α) (g : α → Ev γ) : Ev γ := fun m => (f m).bind g

section
variable {xr : XR} {K : PySem.W.Frag} {W : WX} {α β γ δ : Type}
/-- one evaluation behind another -/
theorem tG_bind {Ra : RelT α β} {Rc : RelT γ δ} {f : Ev α} {g : α → Ev γ} {σ : St} {H : Hp} {Q : δ → Hp → Prop} {Q1 : β → Hp → Prop}
    (h : tG xr K W Rc (bnd f g) σ H Q)
    (h1 : ∀ m fp a m1 v H1 fp1, RelS K H m σ fp → RelS K H1 m1 σ fp1 → Step fp fp1 H H1 → Ra H H1 σ fp1 a v → Post xr K W Rc σ H fp Q (g a m1) → Q1 v H1) : tG xr K W Ra f σ H Q1 := by
  obtain ⟨m, fp, r, p⟩ := h
  refine ⟨m, fp, r, ?_⟩
  unfold bnd at p
  generalize f m = q at p
  cases q with
  | no => exact p
  | ex x m' => exact p
  | ok a m1 => exact fun v H1 fp1 r1 s1 ra => h1 m fp a m1 v H1 fp1 r r1 s1 ra p
/-- the wish of what is behind, from the state that has come -/
theorem Post.from {Rc : RelT γ δ} {σ : St} {H H1 : Hp} {fp fp1 : Fp} {Q : δ → Hp → Prop} {r : Res γ} (p : Post xr K W Rc σ H fp Q r) (s : Step fp fp1 H H1)
    (hR : ∀ H' fp' x v, Rc H1 H' σ fp' x v → Rc H H' σ fp' x v) : Post xr K W Rc σ H1 fp1 Q r := by
  cases r with
  | no => exact p
  | ex e m' => exact fun c d H' fp' rs st x => p c d H' fp' rs (s.trans st) x
  | ok a m' => exact fun v H' fp' rs st x => p v H' fp' rs (s.trans st) (hR _ _ _ _ x)
/-- two evaluations in a row -/
theorem tG_bind2 {α2 β2 : Type} {Ra : RelT α β} {Rb : RelT α2 β2} {Rc : RelT γ δ} {fa : Ev α} {fb : Ev α2} {g : α → α2 → Ev γ} {σ : St} {H : Hp} {Q : δ → Hp → Prop} {Q1 : β → β2 → Hp → Prop}
    (h : tG xr K W Rc (bnd fa fun a => bnd fb (g a)) σ H Q)
    (h2 : ∀ fp fp1 m1 a b m2 v u H1 H2 fp2, Step fp fp1 H H1 → RelS K H1 m1 σ fp1 → Ra H H1 σ fp1 a v → RelS K H2 m2 σ fp2 → Step fp1 fp2 H1 H2 → Rb H1 H2 σ fp2 b u → Post xr K W Rc σ H fp Q (g a b m2) → Q1 v u H2) :
    tG xr K W Ra fa σ H (fun v H1 => tG xr K W Rb fb σ H1 fun u H2 => Q1 v u H2) := by
  refine tG_bind h fun m fp a m1 v H1 fp1 r r1 s1 ra p => ?_
  refine ⟨m1, fp1, r1, ?_⟩
  unfold bnd at p
  generalize fb m1 = q at p
  cases q with
  | no => exact p
  | ex x m' => exact fun c d H' fp' rs st x => p c d H' fp' rs (s1.trans st) x
  | ok b m2 => exact fun u H2 fp2 r2 s2 rb => h2 fp fp1 m1 a b m2 v u H1 H2 fp2 s1 r1 ra r2 s2 rb p
/-- what is behind one evaluation, from there -/
theorem tG_tail {Ra : RelT α β} {Rc : RelT γ δ} {f : Ev α} {g : α → Ev γ} {σ : St} {H : Hp} {Q : δ → Hp → Prop} {Q1 : β → Hp → Prop} (h : tG xr K W Rc (bnd f g) σ H Q)
    (hR : ∀ H H1 H' fp' x v, (∀ b, H1 b = none → H b = none) → Rc H1 H' σ fp' x v → Rc H H' σ fp' x v)
    (h1 : ∀ fp a m1 v H1 fp1, RelS K H1 m1 σ fp1 → Step fp fp1 H H1 → Ra H H1 σ fp1 a v → Post xr K W Rc σ H1 fp1 Q (g a m1) → Q1 v H1) : tG xr K W Ra f σ H Q1 :=
  tG_bind h fun m fp a m1 v H1 fp1 r r1 s1 ra p => h1 fp a m1 v H1 fp1 r1 s1 ra (p.from s1 fun H' fp' x w q => hR _ _ _ _ _ _ s1.trk q)

variable {H H0 H1 H2 H' : Hp} {σ : St} {fp fp1 fp2 : Fp} {x : Rv} {v : V} {m1 m2 : Sm}
theorem RelR.from (r : RelR K H1 H' σ fp x v) (t : ∀ b, H1 b = none → H b = none) : RelR K H H' σ fp x v := by
  cases x with
  | d x => exact r
  | s i => exact r
  | nl xs => obtain ⟨a, ys, e, h, g, n, q⟩ := r; exact ⟨a, ys, e, h, g, t a n, q⟩
  | nd kvs => obtain ⟨a, e, h, n, q⟩ := r; exact ⟨a, e, h, t a n, q⟩
  | nr k c a b => obtain ⟨f, h, q⟩ := r; exact ⟨f, h, fun b hb => ⟨t b (q b hb).1, (q b hb).2⟩⟩
theorem RelRs.from (t : ∀ b, H1 b = none → H b = none) : ∀ {xs : List Rv} {vs : List V}, RelRs K H1 H' σ fp xs vs → RelRs K H H' σ fp xs vs
  | [], [], _ => trivial
  | _ :: _, _ :: _, ⟨h, g⟩ => ⟨RelR.from h t, RelRs.from t g⟩
theorem Step.out (s : Step fp1 fp2 H1 H2) {a : Addr} (h : H1 a ≠ none) (n : ∀ i, a ∉ fp1 i) : ∀ i, a ∉ fp2 i := fun i hi => by
  rcases s.own i a hi with ⟨j, hj⟩ | hn
  · exact n j hj
  · exact h hn
/-- a value that was got stays related behind another evaluation -/
theorem RelR.step (r : RelR K H0 H1 σ fp1 x v) (r0 : RelS K H1 m1 σ fp1) (s : Step fp1 fp2 H1 H2) : RelR K H0 H2 σ fp2 x v := by
  have k := r0.keepOf s
  cases x with
  | d x => exact Fz.keep k r
  | s i => exact r
  | nl xs =>
    obtain ⟨a, ys, rfl, h, g, n, q⟩ := r
    exact ⟨a, ys, rfl, s.keep a _ h q, g.keep k, n, s.out (by rw [h]; exact fun z => nomatch z) q⟩
  | nd kvs =>
    obtain ⟨a, rfl, h, n, q⟩ := r
    have hm := h.mut
    cases e : H1 a with
    | none => rw [e] at hm; exact hm.elim
    | some o => exact ⟨a, rfl, h.keep k ((s.keep a o e q).trans e.symm), n, s.out (by rw [e]; exact fun z => nomatch z) q⟩
  | nr k c a b =>
    obtain ⟨f, h, q⟩ := r
    have hs : ∀ b ∈ f, H1 b ≠ none := fun b hb e => by have := h.mut b hb; rw [e] at this; exact this
    refine ⟨f, h.at fun b hb => ?_, fun b hb => ⟨(q b hb).1, s.out (hs b hb) (q b hb).2⟩⟩
    cases e : H1 b with
    | none => exact absurd e (hs b hb)
    | some o => exact s.keep b o e (q b hb).2
theorem RelRs.step (r0 : RelS K H1 m1 σ fp1) (s : Step fp1 fp2 H1 H2) : ∀ {xs : List Rv} {vs : List V}, RelRs K H0 H1 σ fp1 xs vs → RelRs K H0 H2 σ fp2 xs vs
  | [], [], _ => trivial
  | _ :: _, _ :: _, ⟨h, g⟩ => ⟨h.step r0 s, RelRs.step r0 s g⟩
theorem RelRs.length : ∀ {xs : List Rv} {vs : List V}, RelRs K H0 H1 σ fp1 xs vs → xs.length = vs.length
  | [], [], _ => rfl
  | _ :: _, _ :: _, ⟨_, g⟩ => congrArg (· + 1) (RelRs.length g)
end

/-! ### reading what was got -/
/-- the data that a value is just now -/
def deref (m : Sm) : Rv → Option PyData
  | .d x => some x
  | .nl xs => some (.list xs)
  | .nd kvs => some (.dict kvs)
  | .nr _ _ _ _ => none
  | .s i => match m[i]? with
    | some (some (.fz d)) => some d
    | some (some (.ol xs)) => some (.list xs)
    | some (some (.od kvs)) => some (.dict kvs)
    | _ => none
/-- data as it may be read now: frozen, or a list, a dict that stands so just now -/
inductive Rb (K : PySem.W.Frag) (H : Hp) : V → PyData → Prop
  | fz {v : V} {d : PyData} : Fz K H v d → Rb K H v d
  | lst {a : Addr} {xs : List V} {ds : List PyData} : H a = some (.lst xs) → FzAll K H xs ds → Rb K H (.ref a) (.list ds)
  | dic {a : Addr} {kvs : Kvs} : DictAt K H a kvs → Rb K H (.ref a) (.dict kvs)
inductive RbAll (K : PySem.W.Frag) (H : Hp) : List V → List PyData → Prop
  | nil : RbAll K H [] []
  | cons {v : V} {vs : List V} {d : PyData} {ds : List PyData} : Rb K H v d → RbAll K H vs ds → RbAll K H (v :: vs) (d :: ds)
section
variable {K : PySem.W.Frag} {H0 H : Hp} {m : Sm} {σ : St} {fp : Fp}
theorem RelR.rb (s : RelS K H m σ fp) {x : Rv} {v : V} {d : PyData} (r : RelR K H0 H σ fp x v) (e : deref m x = some d) : Rb K H v d := by
  cases x with
  | d x => cases e; exact .fz r
  | nl xs => cases e; obtain ⟨a, ys, rfl, h, g, _⟩ := r; exact .lst h g
  | nd kvs => cases e; obtain ⟨a, rfl, h, _⟩ := r; exact .dic h
  | nr k c a b => cases e
  | s i =>
    unfold deref at e
    cases q : m[i]? with
    | none => simp only [q] at e; cases e
    | some o =>
      cases o with
      | none => simp only [q] at e; cases e
      | some mv =>
        obtain ⟨w, e1, rm⟩ := s.at_ i mv q
        have r' : σ[i]? = some (some v) := r
        rw [r'] at e1; cases e1
        simp only [q] at e
        generalize fp i = f0 at rm
        cases rm with
        | fz h => cases e; exact .fz h
        | ol h g => cases e; exact .lst h g
        | od h => cases e; exact .dic h
        | rs h => cases e
def derefs (m : Sm) : List Rv → Option (List PyData)
  | [] => some []
  | r :: rs => match deref m r, derefs m rs with
    | some d, some ds => some (d :: ds)
    | _, _ => none
theorem RelRs.rb (s : RelS K H m σ fp) : ∀ {xs : List Rv} {vs : List V} {ds : List PyData}, RelRs K H0 H σ fp xs vs → derefs m xs = some ds → RbAll K H vs ds
  | [], [], _, _, e => by cases e; exact .nil
  | x :: xs, v :: vs, ds, ⟨h, g⟩, e => by
    unfold derefs at e
    cases q1 : deref m x with
    | none => simp only [q1] at e; cases e
    | some d =>
      cases q2 : derefs m xs with
      | none => simp only [q1, q2] at e; cases e
      | some es =>
        simp only [q1, q2] at e
        cases e
        exact .cons (h.rb s q1) (RelRs.rb s g q2)
end
end PyE

/-! PyE: freezing; operators; argument lists -/
namespace PyE
open PySem PySem.Spec PyProof.Rows
open L2

abbrev tD (xr : XR) (K : PySem.W.Frag) (W : WX) (f : Ev PyData) : TE := fun σ H Q => tG xr K W (RelD K) f σ H Q
/-- a value is frozen -/
def frz (r : Rv) : Ev PyData := fun m => match r with
  | .d x => .ok x m
  | .nl xs => .ok (.list xs) m
  | .nd kvs => .ok (.dict kvs) m
  | .nr _ _ _ _ => .no
  | .s i => match m[i]? with
    | some (some (.fz d)) => .ok d m
    | some (some (.ol xs)) => .ok (.list xs) (m.set i (some (.fz (.list xs))))
    | some (some (.od kvs)) => .ok (.dict kvs) (m.set i (some (.fz (.dict kvs))))
    | _ => .no
def frzE (f : Ev Rv) : Ev PyData := bnd f frz
def dE (f : Ev PyData) : Ev Rv := bnd f fun x m => .ok (.d x) m

section
variable {X : Cx} {pins : List (Addr × Obj)} {σ : St} {H : Hp} {s : Shared}
theorem freeze {a : Addr} {xs : List V} (I : Inv X pins σ H s) (h : H a = some (.lst xs)) : ∃ o, Inv X pins σ (upd H a (.frz o (.lst xs))) s := by
  have q := I.hok a _ h
  obtain ⟨z, its, n, r, e⟩ := id q
  refine ⟨{ cls := .type "list", data := .seq its.toArray n }, I.un (h' := s.heap) (t' := s.toks) ⟨fun b o e _ _ _ => e, fun b o e _ _ _ => ⟨o.slots, e⟩, fun b o e hn _ => ?_, fun b o e _ => ⟨o, e⟩, fun b ys hb => ?_, fun b o u hb => ?_, fun b ps hb => ⟨#[], ?_⟩⟩ fun b u hb => ?_⟩
  · rw [upd_ne (fun z => by subst z; rw [h] at hn; cases hn)]; exact hn
  · rw [upd_ne (ne_of hb h (by intro z; cases z))]; exact hb
  · rw [upd_ne (ne_of hb h (by intro z; cases z))]; exact hb
  · rw [upd_ne (ne_of hb h (by intro z; cases z)), hb]; simp
  · by_cases hba : b = a
    · subst hba
      rw [upd_same] at hb; cases hb
      refine ⟨e, ?_⟩
      exact (show ObjOk X.prog X.w H s.heap b (.lst xs) from q).stay (fun c u _ g => g) (fun c g => by rw [upd_ne (ne_of g h (by intro z; cases z))]; exact g) fun c ys g => by rw [upd_ne (ne_of g h (by intro z; cases z))]; exact g
    · rw [upd_ne hba] at hb
      exact (I.hok b u hb).stay (fun c u _ g => g) (fun c g => by rw [upd_ne (ne_of g h (by intro z; cases z))]; exact g) fun c ys g => by rw [upd_ne (ne_of g h (by intro z; cases z))]; exact g
theorem keysOf0 {P : Program} {w : World} {es : Array DictEntry} (h : es.toList = []) : KeysOf (mixKind P w) es := fun e he => by
  have h2 : e ∈ es.toList := Array.mem_toList_iff.mpr he
  rw [h] at h2; cases h2
theorem flipK (I : Inv X pins σ H s) (e : H a = some (DXo [] a)) : Inv X pins σ (upd H a (.dK [])) s := by
  obtain ⟨⟨hd, _, o, es, ep, h1, h2, h3, h4, _⟩, _, _⟩ := (show ObjOk X.prog X.w H s.heap a (DXo [] a) from I.hok a _ e)
  have h4 : es.toList = [] := h4
  exact d_write (h' := s.heap) (t' := s.toks) I (by rw [e]; exact trivial) (.refl _ _) ⟨o, h1⟩ (show ObjOk X.prog X.w _ _ _ (.dK []) from ⟨Nat.zero_le _, hd, [], .nil, o, es, ep, h1, h2, h3, keysOf0 h4, by rw [h4]; exact .nil, List.nodup_nil⟩)
end
theorem keep_upd {H : Hp} {a : Addr} {o : HO} (m : Mut (H a)) : Keep H (upd H a o) := fun b u h n => by
  rw [upd_ne (fun z => by subst z; rw [h] at m; exact n m)]; exact h
section
variable {X : Cx} {pins : List (Addr × Obj)} {σ : St} {H : Hp} {s : Shared}
theorem freezeD {a : Addr} {kvs : Kvs} (I : Inv X pins σ H s) (h : DictAt X.K H a kvs) : ∃ o u, Inv X pins σ (upd H a (.frz o u)) s ∧ Fz X.K (upd H a (.frz o u)) (.ref a) (.dict kvs) := by
  have k : ∀ o, Keep H (upd H a o) := fun o => keep_upd h.mut
  cases h with
  | nil h =>
    rcases h with h | h
    · obtain ⟨o, I2⟩ := I.lock h trivial
      exact ⟨o, _, I2, .dik (l := []) upd_same .nil rfl⟩
    · obtain ⟨o, I2⟩ := (flipK I h).lock upd_same trivial
      rw [upd_upd] at I2
      exact ⟨o, _, I2, .dik (l := []) upd_same .nil rfl⟩
  | @k l _ h r n =>
    obtain ⟨o, I2⟩ := I.lock h trivial
    obtain ⟨g, e⟩ := r.fz
    exact ⟨o, _, I2, .dik upd_same (g.keep (k _)) e⟩
  | @t xs _ h r n =>
    obtain ⟨o, I2⟩ := I.lock h trivial
    obtain ⟨vs, g1, g2, g3, g4⟩ := r.fz
    exact ⟨o, _, I2, .dit upd_same (fun x hx => (g1 x hx).keep (k _)) g2 (g3.keep (k _)) g4 n⟩
end
theorem upd_trk {H : Hp} {a b : Addr} {o : HO} (h : upd H a o b = none) : H b = none := by
  by_cases e : b = a
  · subst e; rw [upd_same] at h; cases h
  · rw [upd_ne e] at h; exact h
theorem nth_lt {α : Type} {m : List α} {i : Nat} {x : α} (e : m[i]? = some x) : i < m.length := (List.getElem?_eq_some_iff.mp e).1
section
variable {K : PySem.W.Frag} {H : Hp} {m : Sm} {σ : St} {fp : Fp}
/-- one slot holds another thing now -/
theorem RelS.put {H' : Hp} {i : Nat} {mv : Mv} {v : V} {f : List Addr} (r : RelS K H m σ fp) (hi : i < m.length) (k : Keep H H') (e : ∀ j, j ≠ i → ∀ b ∈ fp j, H' b = H b) (hv : σ[i]? = some (some v)) (rm : RelM K H' mv v f)
    (df : ∀ b ∈ f, ∀ j, j ≠ i → b ∉ fp j) : RelS K H' (m.set i (some mv)) σ (fun j => if j = i then f else fp j) := by
  refine ⟨fun j mv' q => ?_, fun j hj => ?_, fun j l b hb hc => ?_, by rw [List.length_set]; exact r.len⟩
  · by_cases hji : j = i
    · subst hji
      rw [List.getElem?_set_self hi] at q; cases q
      exact ⟨v, hv, by rw [if_pos rfl]; exact rm⟩
    · rw [List.getElem?_set_ne (Ne.symm hji)] at q
      obtain ⟨w, e1, q1⟩ := r.at_ j mv' q
      exact ⟨w, e1, by rw [if_neg hji]; exact q1.keep k (e j hji)⟩
  · by_cases hji : j = i
    · subst hji
      exact absurd (List.getElem?_set_self hi) (hj mv)
    · show (if j = i then f else fp j) = []
      rw [if_neg hji]
      exact r.emp j fun mv' q => hj mv' (by rw [List.getElem?_set_ne (Ne.symm hji)]; exact q)
  · have hb : b ∈ (if j = i then f else fp j) := hb
    have hc : b ∈ (if l = i then f else fp l) := hc
    by_cases h1 : j = i
    · by_cases h2 : l = i
      · rw [h1, h2]
      · rw [if_pos h1] at hb; rw [if_neg h2] at hc
        exact absurd hc (df b hb l h2)
    · by_cases h2 : l = i
      · rw [if_neg h1] at hb; rw [if_pos h2] at hc
        exact absurd hb (df b hc j h1)
      · rw [if_neg h1] at hb; rw [if_neg h2] at hc
        exact r.dis j l b hb hc
end
section
variable {xr : XR} {W : WX} {X : Cx} {e : Expr} {f : Ev Rv}
theorem pe_imp {t t' : TE} (h : PE X e t) (i : ∀ σ H Q, t' σ H Q → t σ H Q) : PE X e t' := ⟨fun pins s σ H Q I q => h.run pins s σ H Q I (i σ H Q q)⟩
/-- a value is frozen -/
theorem sd_frz (h : PE X e (tE xr X.K W f)) : PE X e (tD xr X.K W (frzE f)) := by
  refine ⟨fun pins s σ H Q I q => ?_⟩
  have q1 : tE xr X.K W f σ H (fun v H1 => ∃ m fp r m1 fp1, RelS X.K H m σ fp ∧ RelS X.K H1 m1 σ fp1 ∧ Step fp fp1 H H1 ∧ RelR X.K H H1 σ fp1 r v ∧ Post xr X.K W (RelD X.K) σ H fp Q (frz r m1)) :=
    tG_bind q fun m fp a m1 v H1 fp1 r r1 s1 ra p => ⟨m, fp, a, m1, fp1, r, r1, s1, ra, p⟩
  refine thn (h.run pins s σ H _ I q1) fun u s' ⟨v, H1, I1, rv, m, fp, r, m1, fp1, r0, r1, s1, rr, p⟩ => ?_
  cases r with
  | d x => exact ⟨v, H1, I1, rv, p v H1 fp1 r1 s1 rr⟩
  | nd kvs =>
    obtain ⟨a, rfl, ha, n, nf⟩ := rr
    obtain ⟨o, u0, I2, z⟩ := freezeD I1 ha
    have k : Keep H1 (upd H1 a (.frz o u0)) := keep_upd ha.mut
    refine ⟨.ref a, _, I2, rv, p _ _ fp1 ?_ ?_ z⟩
    · refine ⟨fun i mv e => ?_, r1.emp, r1.dis, r1.len⟩
      obtain ⟨w, e1, q⟩ := r1.at_ i mv e
      exact ⟨w, e1, q.keep k fun b hb => upd_ne fun z => nf i (by rw [← z]; exact hb)⟩
    · refine ⟨s1.own, fun b u hb hn => ?_, fun b hb => s1.trk b (upd_trk hb)⟩
      rw [upd_ne (ne_of_none hb n)]; exact s1.keep b u hb hn
  | nr k c a b => exact p.elim
  | nl xs =>
    obtain ⟨a, ys, rfl, ha, g, n, nf⟩ := rr
    obtain ⟨o, I2⟩ := freeze I1 ha
    have k : Keep H1 (upd H1 a (.frz o (.lst ys))) := keep_upd (by rw [ha]; exact trivial)
    refine ⟨.ref a, _, I2, rv, p _ _ fp1 ?_ ?_ (.lst (.inl ⟨o, upd_same⟩) (g.keep k))⟩
    · refine ⟨fun i mv e => ?_, r1.emp, r1.dis, r1.len⟩
      obtain ⟨w, e1, q⟩ := r1.at_ i mv e
      exact ⟨w, e1, q.keep k fun b hb => upd_ne fun z => nf i (by rw [← z]; exact hb)⟩
    · refine ⟨s1.own, fun b u hb hn => ?_, fun b hb => s1.trk b (upd_trk hb)⟩
      rw [upd_ne (ne_of_none hb n)]; exact s1.keep b u hb hn
  | s i =>
    have rr : σ[i]? = some (some v) := rr
    unfold frz at p
    cases e1 : m1[i]? with
    | none => simp only [e1] at p; exact p.elim
    | some o =>
      cases o with
      | none => simp only [e1] at p; exact p.elim
      | some mv =>
        simp only [e1] at p
        obtain ⟨w, e2, rm⟩ := r1.at_ i mv e1
        rw [rr] at e2; cases e2
        generalize ef : fp1 i = f0 at rm
        cases rm with
        | fz hz => exact ⟨v, H1, I1, rv, p v H1 fp1 r1 s1 hz⟩
        | @od kvs a ha =>
          obtain ⟨o, u0, I2, z⟩ := freezeD I1 ha
          have k : Keep H1 (upd H1 a (.frz o u0)) := keep_upd ha.mut
          have ha1 : a ∈ fp1 i := by rw [ef]; simp
          refine ⟨.ref a, _, I2, rv, p _ _ _ (r1.put (nth_lt e1) k (fun j hj b hb => upd_ne fun q => hj (r1.dis j i a (by rw [← q]; exact hb) ha1)) rr (.fz z) fun b hb => by cases hb) ?_ z⟩
          refine s1.trans ⟨fun j b hb => ?_, fun b u hb hn => ?_, fun b hb => upd_trk hb⟩
          · by_cases hj : j = i
            · simp only [if_pos hj] at hb; cases hb
            · simp only [if_neg hj] at hb; exact .inl ⟨j, hb⟩
          · rw [upd_ne (fun q => hn i (by rw [q]; exact ha1))]; exact hb
        | rs hz => exact p.elim
        | @ol xs a ys ha g =>
          obtain ⟨o, I2⟩ := freeze I1 ha
          have k : Keep H1 (upd H1 a (.frz o (.lst ys))) := keep_upd (by rw [ha]; exact trivial)
          have z : Fz X.K (upd H1 a (.frz o (.lst ys))) (.ref a) (.list xs) := .lst (.inl ⟨o, upd_same⟩) (g.keep k)
          have ha1 : a ∈ fp1 i := by rw [ef]; simp
          refine ⟨.ref a, _, I2, rv, p _ _ _ (r1.put (nth_lt e1) k (fun j hj b hb => upd_ne fun q => hj (r1.dis j i a (by rw [← q]; exact hb) ha1)) rr (.fz z) fun b hb => by cases hb) ?_ z⟩
          refine s1.trans ⟨fun j b hb => ?_, fun b u hb hn => ?_, fun b hb => upd_trk hb⟩
          · by_cases hj : j = i
            · simp only [if_pos hj] at hb; cases hb
            · simp only [if_neg hj] at hb; exact .inl ⟨j, hb⟩
          · rw [upd_ne (fun q => hn i (by rw [q]; exact ha1))]; exact hb
/-- frozen data, as a value -/
theorem sd_d {f : Ev PyData} (h : PE X e (tD xr X.K W f)) : PE X e (tE xr X.K W (dE f)) := by
  refine pe_imp h fun σ H Q q => tG_bind q fun m fp a m1 v H1 fp1 r r1 s1 ra p => ?_
  exact p v H1 fp1 r1 s1 ra
end

/-! ### operators -/
/-- what an operation gives: the heap ahead, behind -/
def NewR (K : PySem.W.Frag) (H H' : Hp) : Rv → V → Prop
  | .d x, v => Fz K H' v x
  | .s _, _ => False
  | .nl xs, v => ∃ a ys, v = .ref a ∧ H' a = some (.lst ys) ∧ FzAll K H' ys xs ∧ H a = none
  | .nd kvs, v => ∃ a, v = .ref a ∧ DictAt K H' a kvs ∧ H a = none
  | .nr _ _ _ _, _ => False
def Op2 (K : PySem.W.Frag) (r : R2) (g : PyData → PyData → Option Rv) : Prop :=
  ∀ (H : Hp) (x y : V) (a b : PyData) (z : Rv) (Q : VK), Rb K H x a → Rb K H y b → g a b = some z → (∀ v H', Same H H' → NewR K H H' z v → Q v H') → r x y H Q
def Op1 (K : PySem.W.Frag) (r : V → Hp → VK → Prop) (g : PyData → Option Rv) : Prop :=
  ∀ (H : Hp) (x : V) (a : PyData) (z : Rv) (Q : VK), Rb K H x a → g a = some z → (∀ v H', Same H H' → NewR K H H' z v → Q v H') → r x H Q
def OpN (K : PySem.W.Frag) (r : List V → Hp → VK → Prop) (g : List PyData → Option Rv) : Prop :=
  ∀ (H : Hp) (xs : List V) (as : List PyData) (z : Rv) (Q : VK), RbAll K H xs as → g as = some z → (∀ v H', Same H H' → NewR K H H' z v → Q v H') → r xs H Q
def fin1 (o : Option Rv) : Ev Rv := fun m => match o with
  | some r => .ok r m
  | none => .no
def op2E (g : PyData → PyData → Option Rv) (fa fb : Ev Rv) : Ev Rv := bnd fa fun x => bnd fb fun y m => match deref m x, deref m y with
  | some a, some b => fin1 (g a b) m
  | _, _ => .no
def op1E (g : PyData → Option Rv) (fa : Ev Rv) : Ev Rv := bnd fa fun x m => match deref m x with
  | some a => fin1 (g a) m
  | _ => .no
section
variable {xr : XR} {K : PySem.W.Frag} {W : WX} {σ : St} {H H1 : Hp} {fp fp1 : Fp} {m1 : Sm} {Q : VK}
/-- an operation's end -/
theorem fin_ok {o : Option Rv} (s1 : Step fp fp1 H H1) (r1 : RelS K H1 m1 σ fp1) (p : Post xr K W (RelR K) σ H fp Q (fin1 o m1)) : ∃ z, o = some z ∧ ∀ v H', Same H1 H' → NewR K H1 H' z v → Q v H' := by
  cases o with
  | none => exact p.elim
  | some z =>
    refine ⟨z, rfl, fun v H' sm n => p v H' fp1 (r1.same sm) (s1.trans (.same sm)) ?_⟩
    have out : ∀ a, H1 a = none → ∀ i, a ∉ fp1 i := fun a e i hi => r1.some_ hi e
    cases z with
    | d x => exact n
    | s i => exact n.elim
    | nl xs => obtain ⟨a, ys, e, h, g, hn⟩ := n; exact ⟨a, ys, e, h, g, s1.trk a hn, out a hn⟩
    | nd kvs => obtain ⟨a, e, h, hn⟩ := n; exact ⟨a, e, h, s1.trk a hn, out a hn⟩
    | nr k c a b => exact n.elim
theorem op2_ok {r : R2} {g : PyData → PyData → Option Rv} {fa fb : Ev Rv} (o : Op2 K r g) (h : tE xr K W (op2E g fa fb) σ H Q) : tOp r (tE xr K W fa) (tE xr K W fb) σ H Q := by
  refine tG_bind2 (Rc := RelR K) h fun fp fp1 m1 a b m2 v u H1 H2 fp2 s1 r1 ra r2 s2 rb p => ?_
  have ra2 := ra.step r1 s2
  cases e1 : deref m2 a with
  | none => simp only [e1] at p; exact p.elim
  | some x =>
    cases e2 : deref m2 b with
    | none => simp only [e1, e2] at p; exact p.elim
    | some y =>
      simp only [e1, e2] at p
      obtain ⟨z, hz, q⟩ := fin_ok (s1.trans s2) r2 p
      exact o H2 v u x y z Q (ra2.rb r2 e1) (rb.rb r2 e2) hz q
theorem op1_ok {r : V → Hp → VK → Prop} {g : PyData → Option Rv} {fa : Ev Rv} (o : Op1 K r g) (h : tE xr K W (op1E g fa) σ H Q) : tUn r (tE xr K W fa) σ H Q := by
  refine tG_bind (Rc := RelR K) h fun m fp a m1 v H1 fp1 r r1 s1 ra p => ?_
  cases e1 : deref m1 a with
  | none => simp only [e1] at p; exact p.elim
  | some x =>
    simp only [e1] at p
    obtain ⟨z, hz, q⟩ := fin_ok s1 r1 p
    exact o H1 v x z Q (ra.rb r1 e1) hz q
end
section
variable {xr : XR} {W : WX} {X : Cx} {a b : Expr} {fa fb : Ev Rv} {pos : Pos}
theorem sd_bin {op : Operator} {r : R2} {g : PyData → PyData → Option Rv} (o : OpR X (binaryOp op) r) (og : Op2 X.K r g) (ha : PE X a (tE xr X.K W fa)) (hb : PE X b (tE xr X.K W fb)) : PE X (.BinOp a op b pos) (tE xr X.K W (op2E g fa fb)) :=
  pe_imp (pe_op o ha hb) fun σ H Q h => op2_ok og h
theorem sd_cmp {op : CmpOp} {r : R2} {g : PyData → PyData → Option Rv} (o : OpR X (compareOp op) r) (og : Op2 X.K r g) (ha : PE X a (tE xr X.K W fa)) (hb : PE X b (tE xr X.K W fb)) (hm : behindInMarks op b = false) :
    PE X (.Compare a [op] [b] pos) (tE xr X.K W (op2E g fa fb)) := pe_imp (pe_cmpR o ha hb hm) fun σ H Q h => op2_ok og h
theorem sd_un {op : UnaryOp} {r : V → Hp → VK → Prop} {g : PyData → Option Rv} (o : UnR X (unaryOp op) r) (og : Op1 X.K r g) (ha : PE X a (tE xr X.K W fa)) : PE X (.UnaryOp op a pos) (tE xr X.K W (op1E g fa)) :=
  pe_imp (pe_un o ha) fun σ H Q h => op1_ok og h
end
end PyE

/-! PyE: names, constants, tests, displays, calls of what is built in, subscripts -/
namespace PyE
open PySem PySem.Spec PyProof.Rows
open L2

def slotE (i : Nat) : Ev Rv := fun m => match m[i]? with
  | some (some (.fz d)) => .ok (.d d) m
  | some (some _) => .ok (.s i) m
  | _ => .no
def dataE (d : PyData) : Ev Rv := fun m => .ok (.d d) m
def truth : PyData → Option Bool
  | .none => some false
  | .bool b => some b
  | .int i => some (i != 0)
  | .str x => if x.length ≤ sizeLine then some ((x.length : Int) != 0) else none
  | .list xs => some !xs.isEmpty
  | .tuple xs => some !xs.isEmpty
  | .dict _ => none
def testE (f : Ev Rv) : Ev Bool := bnd f fun x m => match deref m x with
  | some d => match truth d with
    | some b => .ok b m
    | none => .no
  | none => .no
/-- a value that is a bool, as a test -/
def boolE (f : Ev Rv) : Ev Bool := bnd f fun x m => match x with
  | .d (.bool b) => .ok b m
  | _ => .no
def andT (f g : Ev Bool) : Ev Bool := bnd f fun b => if b = true then g else fun m => .ok false m
def orT (f g : Ev Bool) : Ev Bool := bnd f fun b => if b = true then fun m => .ok true m else g
def notT (f : Ev Bool) : Ev Bool := bnd f fun b m => .ok (!b) m
def andE (f g : Ev Rv) : Ev Rv := bnd f fun x => match x with
  | .d (.bool b) => if b = true then g else fun m => .ok (.d (.bool false)) m
  | _ => fun _ => .no
def orE (f g : Ev Rv) : Ev Rv := bnd f fun x => match x with
  | .d (.bool b) => if b = true then fun m => .ok (.d (.bool true)) m else g
  | _ => fun _ => .no
def notE (f : Ev Rv) : Ev Rv := bnd f fun x m => match x with
  | .d (.bool b) => .ok (.d (.bool !b)) m
  | _ => .no
def ifE (c : Ev Bool) (f g : Ev Rv) : Ev Rv := bnd c fun b => if b = true then f else g
def argsE : List (Ev Rv) → Ev (List Rv)
  | [] => fun m => .ok [] m
  | f :: fs => bnd f fun r => bnd (argsE fs) fun rs m => .ok (r :: rs) m
def argsD : List (Ev Rv) → Ev (List PyData)
  | [] => fun m => .ok [] m
  | f :: fs => bnd (frzE f) fun r => bnd (argsD fs) fun rs m => .ok (r :: rs) m
def tupE (fs : List (Ev Rv)) : Ev Rv := bnd (argsD fs) fun ds m => .ok (.d (.tuple ds)) m
def lstE (fs : List (Ev Rv)) : Ev Rv := bnd (argsD fs) fun ds m => .ok (.nl ds) m
def opNE (g : List PyData → Option Rv) (fs : List (Ev Rv)) : Ev Rv := bnd (argsE fs) fun rs m => match derefs m rs with
  | some ds => fin1 (g ds) m
  | none => .no

section
variable {xr : XR} {W : WX} {X : Cx} {a b c e : Expr} {es : List Expr} {f g fa fb : Ev Rv} {fc ft : Ev Bool} {fs : List (Ev Rv)} {pos p : Pos} {x : Str}
/-- the name that stands in slot i -/
theorem sd_name (i : Nat) {pos : Pos} (hN : X.N[i]? = some x) (hv : Vis X.env.scope x) (hd : (x == ("__debug__" : Str)) = false := by decide) (hcd : (x == ("__classdict__" : Str)) = false := by decide) : PE X (.Name x pos) (tE xr X.K W (slotE i)) := by
  refine pe_imp (pe_var hN hv hd hcd) fun σ H Q h => ?_
  obtain ⟨m, fp, r, p⟩ := h
  unfold slotE at p
  cases e1 : m[i]? with
  | none => simp only [e1] at p; exact p.elim
  | some o =>
    cases o with
    | none => simp only [e1] at p; exact p.elim
    | some mv =>
      obtain ⟨v, e2, rm⟩ := r.at_ i mv e1
      refine ⟨v, e2, ?_⟩
      simp only [e1] at p
      cases mv with
      | fz d =>
        generalize fp i = f0 at rm
        cases rm with
        | fz z => exact p v H fp r (.refl _ _) z
      | ol xs => exact p v H fp r (.refl _ _) e2
      | od kvs => exact p v H fp r (.refl _ _) e2
      | rs k c a b => exact p v H fp r (.refl _ _) e2
theorem of_const {v : V} {d : PyData} (hz : ∀ K H, Fz K H v d) (h : PE X e (tC v)) : PE X e (tE xr X.K W (dataE d)) :=
  pe_imp h fun σ H Q ⟨m, fp, r, p⟩ => p v H fp r (.refl _ _) (hz _ _)
theorem sd_int {i : Int} {j : Nat} : PE X (.Constant (.int i) j pos) (tE xr X.K W (dataE (.int i))) := of_const (fun _ _ => .int i) pe_int
theorem sd_bl {i : Bool} {j : Nat} : PE X (.Constant (.bool i) j pos) (tE xr X.K W (dataE (.bool i))) := of_const (fun _ _ => .bl i) pe_bl
theorem sd_non {j : Nat} : PE X (.Constant .none j pos) (tE xr X.K W (dataE .none)) := of_const (fun _ _ => .non) pe_non
theorem sd_str {z : Str} {j : Nat} : PE X (.Constant (.str z) j pos) (tE xr X.K W (dataE (.str z))) := of_const (fun _ _ => .str z) pe_str
/-- a module's int -/
theorem sd_gint {i : Int} (hg : Gl X x) (hm : ∃ t, X.mg x = some (.int i t)) (hd : (x == ("__debug__" : Str)) = false := by decide) : PE X (.Name x pos) (tE xr X.K W (dataE (.int i))) := by
  obtain ⟨t, hm⟩ := hm
  exact of_const (fun _ _ => .int i) (pe_glob hg hm ⟨t, rfl⟩ hd)
theorem sd_gstr {z : Str} (hg : Gl X x) (hm : ∃ t, X.mg x = some (.str z t)) (hd : (x == ("__debug__" : Str)) = false := by decide) : PE X (.Name x pos) (tE xr X.K W (dataE (.str z))) := by
  obtain ⟨t, hm⟩ := hm
  exact of_const (fun _ _ => .str z) (pe_glob hg hm ⟨t, rfl⟩ hd)

/-! ### tests -/
theorem truth_ok {K : PySem.W.Frag} {H : Hp} {v : V} {d : PyData} {k : Bool} (h : Rb K H v d) (e : truth d = some k) : TruV K v H k := by
  cases h with
  | fz h =>
    cases h with
    | non => cases e; rfl
    | bl b => cases e; rfl
    | int i => cases e; rfl
    | str y =>
      unfold truth at e
      simp only at e
      split at e
      · rename_i hy; cases e; exact ⟨hy, rfl⟩
      · cases e
    | lst h g =>
      cases e
      exact .inl ⟨_, h.seq, by cases g <;> rfl⟩
    | tup h g =>
      cases e
      exact .inr (.inl ⟨_, h.sq, by cases g <;> rfl⟩)
    | dik h g z => cases e
    | dit h t v g z n => cases e
  | lst h g => cases e; exact .inl ⟨_, .of h, by cases g <;> rfl⟩
  | dic h => cases e
theorem pt_imp {t t' : TT} (h : PT X e t) (i : ∀ σ H Q, t' σ H Q → t σ H Q) : PT X e t' := ⟨fun pins s σ H Q I q => h.run pins s σ H Q I (i σ H Q q)⟩
theorem sd_test (ha : PE X a (tE xr X.K W fa)) (he : ∀ whole, isTrue a X.env whole = (do let v ← whole; standAt a.pos; holding [v] (truthy v)) := by intro _; rfl) : PT X a (tT xr X.K W (testE fa)) := by
  refine pt_imp (pt_truth ha he) fun σ H Q h => tG_bind (Rc := RelB) h fun m fp a m1 v H1 fp1 r r1 s1 ra p => ?_
  cases e1 : deref m1 a with
  | none => simp only [e1] at p; exact p.elim
  | some d =>
    cases e2 : truth d with
    | none => simp only [e1, e2] at p; exact p.elim
    | some k =>
      simp only [e1, e2] at p
      exact ⟨k, truth_ok (ra.rb r1 e1) e2, p k H1 fp1 r1 s1 rfl⟩
theorem fz_bool {K : PySem.W.Frag} {H : Hp} {v : V} {b : Bool} (h : Fz K H v (.bool b)) : v = .bl b := by cases h; rfl
theorem boolE_ok {σ : St} {H : Hp} {Q : Bool → Hp → Prop} (h : tT xr X.K W (boolE fa) σ H Q) : tE xr X.K W fa σ H (fun x H' => ∃ k, x = .bl k ∧ Q k H') := by
  refine tG_bind (Rc := RelB) h fun m fp a m1 v H1 fp1 r r1 s1 ra p => ?_
  cases a with
  | d d =>
    cases d with
    | bool k => exact ⟨k, fz_bool ra, p k H1 fp1 r1 s1 rfl⟩
    | _ => exact p.elim
  | _ => exact p.elim
theorem sd_cmpT {op : CmpOp} {r : R2} {g : PyData → PyData → Option Rv} (o : OpR X (compareOp op) r) (og : Op2 X.K r g) (ha : PE X a (tE xr X.K W fa)) (hb : PE X b (tE xr X.K W fb)) (hm : behindInMarks op b = false) :
    PT X (.Compare a [op] [b] pos) (tT xr X.K W (boolE (op2E g fa fb))) := pt_imp (pt_cmpR o ha hb hm) fun σ H Q h => op2_ok og (boolE_ok h)
theorem andT_ok {t : TT} {σ : St} {H : Hp} {Q : Bool → Hp → Prop} {fd : Ev Bool} (ht : ∀ σ H Q, tT xr X.K W fd σ H Q → t σ H Q) (h : tT xr X.K W (andT fc fd) σ H Q) : tAnd (tT xr X.K W fc) t σ H Q := by
  refine tG_tail (Rc := RelB) h (fun _ _ _ _ _ _ _ q => q) fun fp a m1 v H1 fp1 r1 s1 ra p => ?_
  cases (show a = v from ra)
  cases a with
  | true => exact iteT (ht _ _ _ ⟨m1, fp1, r1, by simpa using p⟩)
  | false => exact iteF (p false H1 fp1 r1 (.refl _ _) rfl)
theorem orT_ok {t : TT} {σ : St} {H : Hp} {Q : Bool → Hp → Prop} {fd : Ev Bool} (ht : ∀ σ H Q, tT xr X.K W fd σ H Q → t σ H Q) (h : tT xr X.K W (orT fc fd) σ H Q) : tOr (tT xr X.K W fc) t σ H Q := by
  refine tG_tail (Rc := RelB) h (fun _ _ _ _ _ _ _ q => q) fun fp a m1 v H1 fp1 r1 s1 ra p => ?_
  cases (show a = v from ra)
  cases a with
  | true => exact iteT (p true H1 fp1 r1 (.refl _ _) rfl)
  | false => exact iteF (ht _ _ _ ⟨m1, fp1, r1, by simpa using p⟩)
theorem pw_imp {t t' : TT} (h : PW X e t) (i : ∀ σ H Q, t' σ H Q → t σ H Q) : PW X e t' := ⟨fun wh pins s σ H Q I q => h.run wh pins s σ H Q I (i σ H Q q)⟩
variable {rest : List Expr}
theorem sw_and1 (ha : PT X a (tT xr X.K W fc)) : PW X (.BoolOp .And [a] pos) (tT xr X.K W fc) := pw_and1 ha
theorem sw_or1 (ha : PT X a (tT xr X.K W fc)) : PW X (.BoolOp .Or [a] pos) (tT xr X.K W fc) := pw_or1 ha
theorem sw_and (ha : PT X a (tT xr X.K W fc)) (hb : PW X (.BoolOp .And (b :: rest) pos) (tT xr X.K W ft)) : PW X (.BoolOp .And (a :: b :: rest) pos) (tT xr X.K W (andT fc ft)) :=
  pw_imp (pw_and ha hb) fun _ _ _ h => andT_ok (fun _ _ _ q => q) h
theorem sw_or (ha : PT X a (tT xr X.K W fc)) (hb : PW X (.BoolOp .Or (b :: rest) pos) (tT xr X.K W ft)) : PW X (.BoolOp .Or (a :: b :: rest) pos) (tT xr X.K W (orT fc ft)) :=
  pw_imp (pw_or ha hb) fun _ _ _ h => orT_ok (fun _ _ _ q => q) h
theorem sd_notT (ha : PT X a (tT xr X.K W fc)) : PT X (.UnaryOp .Not a pos) (tT xr X.K W (notT fc)) := by
  refine pt_imp (pt_not ha) fun σ H Q h => tG_bind (Rc := RelB) h fun m fp a m1 v H1 fp1 r r1 s1 ra p => ?_
  cases (show a = v from ra)
  exact p _ H1 fp1 r1 s1 rfl
/-! ### and, or, not as values of bools -/
theorem sd_one {op : BoolOp} (ha : PE X a (tE xr X.K W fa)) : PE X (.BoolOp op [a] pos) (tE xr X.K W fa) := pe_one ha
theorem sd_and (ha : PE X a (tE xr X.K W fa)) (hb : PE X (.BoolOp .And (b :: rest) pos) (tE xr X.K W fb)) : PE X (.BoolOp .And (a :: b :: rest) pos) (tE xr X.K W (andE fa fb)) := by
  refine pe_imp (pe_and ha hb) fun σ H Q h => tG_tail (Rc := RelR X.K) h (fun _ _ _ _ _ _ t q => q.from t) fun fp a m1 v H1 fp1 r1 s1 ra p => ?_
  cases a with
  | d d =>
    cases d with
    | bool k =>
      refine ⟨k, fz_bool ra, ?_⟩
      cases k with
      | true => exact iteT ⟨m1, fp1, r1, by simpa using p⟩
      | false => exact iteF (p _ H1 fp1 r1 (.refl _ _) (.bl false))
    | _ => exact p.elim
  | _ => exact p.elim
theorem sd_or (ha : PE X a (tE xr X.K W fa)) (hb : PE X (.BoolOp .Or (b :: rest) pos) (tE xr X.K W fb)) : PE X (.BoolOp .Or (a :: b :: rest) pos) (tE xr X.K W (orE fa fb)) := by
  refine pe_imp (pe_or ha hb) fun σ H Q h => tG_tail (Rc := RelR X.K) h (fun _ _ _ _ _ _ t q => q.from t) fun fp a m1 v H1 fp1 r1 s1 ra p => ?_
  cases a with
  | d d =>
    cases d with
    | bool k =>
      refine ⟨k, fz_bool ra, ?_⟩
      cases k with
      | true => exact iteT (p _ H1 fp1 r1 (.refl _ _) (.bl true))
      | false => exact iteF ⟨m1, fp1, r1, by simpa using p⟩
    | _ => exact p.elim
  | _ => exact p.elim
theorem sd_not (ha : PE X a (tE xr X.K W fa)) : PE X (.UnaryOp .Not a pos) (tE xr X.K W (notE fa)) := by
  refine pe_imp (pe_not ha) fun σ H Q h => tG_bind (Rc := RelR X.K) h fun m fp a m1 v H1 fp1 r r1 s1 ra p => ?_
  cases a with
  | d d =>
    cases d with
    | bool k => exact ⟨k, fz_bool ra, p _ H1 fp1 r1 s1 (.bl _)⟩
    | _ => exact p.elim
  | _ => exact p.elim
theorem sd_if (hc : PT X c (tT xr X.K W fc)) (ha : PE X a (tE xr X.K W fa)) (hb : PE X b (tE xr X.K W fb)) : PE X (.IfExp c a b pos) (tE xr X.K W (ifE fc fa fb)) := by
  refine pe_imp (pe_ifExp hc ha hb) fun σ H Q h => tG_tail (Rc := RelR X.K) h (fun _ _ _ _ _ _ t q => q.from t) fun fp a m1 v H1 fp1 r1 s1 ra p => ?_
  cases (show a = v from ra)
  cases a with
  | true => exact iteT ⟨m1, fp1, r1, by simpa using p⟩
  | false => exact iteF ⟨m1, fp1, r1, by simpa using p⟩

/-! ### several values -/
theorem pa_imp {t t' : TA} (h : PA X es t) (i : ∀ σ H Q, t' σ H Q → t σ H Q) : PA X es t' := ⟨fun pos pins s σ H Q I q => h.run pos pins s σ H Q I (i σ H Q q)⟩
theorem sa_nil : PA X [] (tA xr X.K W (argsE [])) := pa_imp pa_nil fun σ H Q ⟨m, fp, r, p⟩ => p [] H fp r (.refl _ _) trivial
theorem sa_cons (ha : PE X e (tE xr X.K W f)) (hr : PA X es (tA xr X.K W (argsE fs))) (hs : starEach (e :: es) X.env = (false, eval e X.env) :: starEach es X.env := by rfl) : PA X (e :: es) (tA xr X.K W (argsE (f :: fs))) := by
  refine pa_imp (pa_cons ha hr hs) fun σ H Q h => tG_bind2 (Rb := RelRs X.K) (Rc := RelRs X.K) h fun fp fp1 m1 a bs m2 v us H1 H2 fp2 s1 r1 ra r2 s2 rb p => ?_
  exact p _ H2 fp2 r2 (s1.trans s2) ⟨ra.step r1 s2, rb.from s1.trk⟩
abbrev RelDs (K : PySem.W.Frag) : RelT (List PyData) (List V) := fun _ H _ _ ds vs => FzAll K H vs ds
abbrev tAD (xr : XR) (K : PySem.W.Frag) (W : WX) (f : Ev (List PyData)) : TA := fun σ H Q => tG xr K W (RelDs K) f σ H Q
theorem sad_nil : PA X [] (tAD xr X.K W (argsD [])) := pa_imp pa_nil fun σ H Q ⟨m, fp, r, p⟩ => p [] H fp r (.refl _ _) .nil
theorem sad_cons (ha : PE X e (tE xr X.K W f)) (hr : PA X es (tAD xr X.K W (argsD fs))) (hs : starEach (e :: es) X.env = (false, eval e X.env) :: starEach es X.env := by rfl) : PA X (e :: es) (tAD xr X.K W (argsD (f :: fs))) := by
  refine pa_imp (pa_cons (sd_frz ha) hr hs) fun σ H Q h => tG_bind2 (Rb := RelDs X.K) (Rc := RelDs X.K) h fun fp fp1 m1 a bs m2 v us H1 H2 fp2 s1 r1 ra r2 s2 rb p => ?_
  exact p _ H2 fp2 r2 (s1.trans s2) (.cons (Fz.keep (r1.keepOf s2) ra) rb)
/-- a tuple is made -/
theorem pe_tupF {t : TA} {k : Nat} (h : PA X es t) : PE X (.Tuple es k pos) (fun σ H Q => t σ H fun xs H1 => xs.length ≤ sizeLine ∧ ∀ p o, H1 p = none → o.dict = none → Q (.ref p) (upd H1 p (.frz o (.tup xs)))) := by
  refine ⟨fun pins s σ H Q I hq => wpAny_Tuple_spliced (thn (h.run pos pins s σ H _ I hq) fun us s1 ⟨xs, H1, I1, r, z, q⟩ => ⟨by rw [← r.length]; exact z, ?_⟩)⟩
  have e := Heap.get?_push_size s1.heap (o := { cls := .type "tuple", data := .seq us.toArray }) rfl
  exact ⟨.ref s1.heap.objs.size, upd H1 s1.heap.objs.size (.frz { cls := .type "tuple", data := .seq us.toArray } (.tup xs)), I1.laid (t' := s1.toks) (fun b u e => Heap.get?_push_of_some _ e) (Nat.le_refl _) ⟨e, z, us, r, ⟨_, e, rfl, _, rfl⟩⟩, rfl, q _ _ (I1.hok.fresh (Nat.le_refl _)) rfl⟩
theorem sd_tup {k : Nat} (h : PA X es (tAD xr X.K W (argsD fs))) (hl : es.length ≤ 100 := by decide) (hn : ∀ m ds m', argsD fs m = .ok ds m' → ds.length ≤ 100) : PE X (.Tuple es k pos) (tE xr X.K W (tupE fs)) := by
  refine pe_imp (pe_tupF h) fun σ H Q ⟨m, fp, r, p⟩ => ?_
  refine ⟨m, fp, r, ?_⟩
  unfold tupE bnd at p
  cases q : argsD fs m with
  | no => rw [q] at p; exact p
  | ex x m' => rw [q] at p; exact p
  | ok ds m1 =>
    have hd := hn m ds m1 q
    rw [q] at p
    intro vs H1 fp1 r1 s1 rd
    have rd : FzAll X.K H1 vs ds := rd
    refine ⟨by rw [rd.length]; exact Nat.le_trans hd (by decide), fun a ob ha hob => ?_⟩
    have sm : Same H1 (upd H1 a (.frz ob (.tup vs))) := fun b o e => by rw [upd_ne (ne_of_none e ha)]; exact e
    exact p _ _ fp1 (r1.same sm) (s1.trans (.same sm)) (.tup ⟨ob, upd_same, hob⟩ (FzAll.keep (PyE.Same.toKeep sm) rd))
theorem sd_lst (h : PA X es (tAD xr X.K W (argsD fs))) (hn : ∀ m ds m', argsD fs m = .ok ds m' → ds.length ≤ 100) : PE X (.List es pos) (tE xr X.K W (lstE fs)) := by
  refine pe_imp (pe_lst h) fun σ H Q ⟨m, fp, r, p⟩ => ?_
  refine ⟨m, fp, r, ?_⟩
  unfold lstE bnd at p
  cases q : argsD fs m with
  | no => rw [q] at p; exact p
  | ex x m' => rw [q] at p; exact p
  | ok ds m1 =>
    have hd := hn m ds m1 q
    rw [q] at p
    intro vs H1 fp1 r1 s1 rd
    have rd : FzAll X.K H1 vs ds := rd
    refine ⟨by rw [rd.length]; exact Nat.le_trans hd (by decide), fun a ha => ?_⟩
    have sm : Same H1 (upd H1 a (.lst vs)) := fun b o e => by rw [upd_ne (ne_of_none e ha)]; exact e
    exact p _ _ fp1 (r1.same sm) (s1.trans (.same sm)) ⟨a, vs, rfl, upd_same, FzAll.keep (PyE.Same.toKeep sm) rd, s1.trk a ha, fun i hi => r1.some_ hi ha⟩
theorem argsD_len : ∀ {fs : List (Ev Rv)} {n : Nat}, fs.length ≤ n → ∀ m ds m', argsD fs m = .ok ds m' → ds.length ≤ n
  | [], n, h, m, ds, m', e => by cases e; exact h
  | f :: fs, n, h, m, ds, m', e => by
    unfold argsD bnd at e
    cases q : frzE f m with
    | no => rw [q] at e; cases e
    | ex x m' => rw [q] at e; cases e
    | ok a m1 =>
      rw [q] at e
      simp only [Res.bind] at e
      cases q2 : argsD fs m1 with
      | no => rw [q2] at e; cases e
      | ex x m' => rw [q2] at e; cases e
      | ok as m2 =>
        rw [q2] at e
        cases e
        cases n with
        | zero => cases h
        | succ n => exact Nat.succ_le_succ (argsD_len (Nat.le_of_succ_le_succ h) _ _ _ q2)

/-! ### calls of what is built in -/
theorem opN_ok {r : List V → Hp → VK → Prop} {g : List PyData → Option Rv} (o : OpN X.K r g) {σ : St} {H : Hp} {Q : VK} (h : tE xr X.K W (opNE g fs) σ H Q) : tCB r (tA xr X.K W (argsE fs)) σ H Q := by
  refine tG_bind (Rc := RelR X.K) h fun m fp as m1 vs H1 fp1 r r1 s1 ra p => ?_
  cases e1 : derefs m1 as with
  | none => simp only [e1] at p; exact p.elim
  | some ds =>
    simp only [e1] at p
    obtain ⟨z, hz, q⟩ := fin_ok s1 r1 p
    exact o H1 vs ds z Q (RelRs.rb r1 ra e1) hz q
theorem sd_callB {id : String} {r : List V → Hp → VK → Prop} {g : List PyData → Option Rv} (hc : CallR X (.builtin id) r) (o : OpN X.K r g) (hg : Gl X x) (hm : X.mg x = none) (hv : bootBuiltins x = some (.builtin id)) (ha : PA X (e :: es) (tA xr X.K W (argsE fs)))
    (hn : x ≠ "__name__" := by decide) (hdb : (x == ("__debug__" : Str)) = false := by decide) (he : starEach (e :: es) X.env = (false, eval e X.env) :: starEach es X.env := by rfl) (hpl : (backTo pos (starEach es X.env)).any (·.1) = false := by rfl) :
    PE X (.Call (.Name x p) (e :: es) [] pos) (tE xr X.K W (opNE g fs)) := pe_imp (pe_callB hc hg hm hv ha hn hdb he hpl) fun _ _ _ h => opN_ok o h
theorem sd_callTy {T : String} {r : List V → Hp → VK → Prop} {g : List PyData → Option Rv} (hc : CallR X (.type T) r) (o : OpN X.K r g) (hg : Gl X x) (hm : X.mg x = none) (hv : bootBuiltins x = some (.type T)) (ha : PA X (e :: es) (tA xr X.K W (argsE fs)))
    (hn : x ≠ "__name__" := by decide) (hdb : (x == ("__debug__" : Str)) = false := by decide) (he : starEach (e :: es) X.env = (false, eval e X.env) :: starEach es X.env := by rfl) (hpl : (backTo pos (starEach es X.env)).any (·.1) = false := by rfl) :
    PE X (.Call (.Name x p) (e :: es) [] pos) (tE xr X.K W (opNE g fs)) := pe_imp (pe_callTy hc hg hm hv ha hn hdb he hpl) fun _ _ _ h => opN_ok o h
/-! ### subscripts -/
theorem sd_ix {r : R2} {g : PyData → PyData → Option Rv} (hr : IxR X r) (og : Op2 X.K r g) (ha : PE X a (tE xr X.K W fa)) (hb : PE X b (tE xr X.K W fb)) (hs : PlainIx b) : PE X (.Subscript a b pos) (tE xr X.K W (op2E g fa fb)) :=
  pe_imp (pe_ix hr ha hb hs) fun σ H Q h => op2_ok og h
end
end PyE

/-! PyE: targets, what is walked, comprehensions -/
namespace PyE
open PySem PySem.Spec PyProof.Rows
open L2

/-! ### targets -/
abbrev Tg := PyData → Sm → Option Sm
def tgName (i : Nat) : Tg := fun d m => some (m.set i (some (.fz d)))
def tgAll : List Tg → List PyData → Sm → Option Sm
  | [], [], m => some m
  | t :: ts, d :: ds, m => (t d m).bind (tgAll ts ds)
  | _, _, _ => none
def tgTup (ts : List Tg) : Tg := fun d m => match d with
  | .tuple ds => if ds.length = ts.length then tgAll ts ds m else none
  | _ => none
/-- slots that are not touched hold what they held -/
def Out (touch : List Nat) (σ σ' : St) : Prop := σ'.length = σ.length ∧ ∀ i, i ∉ touch → σ'[i]? = σ[i]?
theorem Out.refl (touch : List Nat) (σ : St) : Out touch σ σ := ⟨rfl, fun _ _ => rfl⟩
theorem Out.trans {t : List Nat} {a b c : St} (x : Out t a b) (y : Out t b c) : Out t a c := ⟨y.1.trans x.1, fun i h => (y.2 i h).trans (x.2 i h)⟩
theorem Out.mono {t t' : List Nat} {a b : St} (x : Out t a b) (h : ∀ i ∈ t, i ∈ t') : Out t' a b := ⟨x.1, fun i hi => x.2 i fun z => hi (h i z)⟩
def Sub (fp' fp : Fp) : Prop := ∀ i b, b ∈ fp' i → b ∈ fp i
theorem Sub.step {fp fp' : Fp} {H : Hp} (s : Sub fp' fp) : Step fp fp' H H := ⟨fun i b h => .inl ⟨i, s i b h⟩, fun _ _ h _ => h, fun _ h => h⟩
/-- data, or (lo) a tuple that is unpacked at once -/
inductive FzL (K : PySem.W.Frag) (H : Hp) : Bool → V → PyData → Prop
  | fz {lo : Bool} {v : V} {d : PyData} : Fz K H v d → FzL K H lo v d
  | lt {a : Addr} {xs : List V} {ds : List PyData} : SqT K H a xs → FzAll K H xs ds → FzL K H true (.ref a) (.tuple ds)
/-- a target's reading -/
def gT (lo : Bool) (K : PySem.W.Frag) (touch : List Nat) (t : Tg) : TG := fun v σ H Q => ∃ m fp d m', RelS K H m σ fp ∧ FzL K H lo v d ∧ t d m = some m' ∧ ∀ σ' fp', RelS K H m' σ' fp' → Sub fp' fp → Out touch σ σ' → Q σ' H
def gTs (K : PySem.W.Frag) (touch : List Nat) (ts : List Tg) : TGs := fun vs σ H Q => ∃ m fp ds m', RelS K H m σ fp ∧ FzAll K H vs ds ∧ tgAll ts ds m = some m' ∧ ∀ σ' fp', RelS K H m' σ' fp' → Sub fp' fp → Out touch σ σ' → Q σ' H
section
variable {K : PySem.W.Frag} {H : Hp} {m : Sm} {σ : St} {fp : Fp}
theorem RelS.bind {i : Nat} {v : V} {d : PyData} (r : RelS K H m σ fp) (z : Fz K H v d) : ∃ fp', RelS K H (m.set i (some (.fz d))) (σ.set i (some v)) fp' ∧ Sub fp' fp ∧ Out [i] σ (σ.set i (some v)) := by
  refine ⟨fun j => if j = i then [] else fp j, ⟨fun j mv q => ?_, fun j hj => ?_, fun j l b hb hc => ?_, by simpa using r.len⟩, fun j b hb => ?_, ⟨by simp, fun j hj => ?_⟩⟩
  · by_cases hji : j = i
    · subst hji
      have hl : j < m.length := by
        have h := nth_lt q
        simpa using h
      rw [List.getElem?_set_self hl] at q; cases q
      exact ⟨v, by rw [List.getElem?_set_self (by rw [← r.len]; exact hl)], by rw [if_pos rfl]; exact .fz z⟩
    · rw [List.getElem?_set_ne (Ne.symm hji)] at q
      obtain ⟨w, e1, q1⟩ := r.at_ j mv q
      exact ⟨w, by rw [List.getElem?_set_ne (Ne.symm hji)]; exact e1, by rw [if_neg hji]; exact q1⟩
  · by_cases hji : j = i
    · exact if_pos hji
    · show (if j = i then [] else fp j) = []
      rw [if_neg hji]
      exact r.emp j fun mv q => hj mv (by rw [List.getElem?_set_ne (Ne.symm hji)]; exact q)
  · have hb : b ∈ (if j = i then [] else fp j) := hb
    have hc : b ∈ (if l = i then [] else fp l) := hc
    by_cases h1 : j = i
    · rw [if_pos h1] at hb; cases hb
    · by_cases h2 : l = i
      · rw [if_pos h2] at hc; cases hc
      · rw [if_neg h1] at hb; rw [if_neg h2] at hc; exact r.dis j l b hb hc
  · have hb : b ∈ (if j = i then [] else fp j) := hb
    by_cases h1 : j = i
    · rw [if_pos h1] at hb; cases hb
    · rw [if_neg h1] at hb; exact hb
  · rw [List.getElem?_set_ne (by intro e; subst e; exact hj (by simp))]
end
section
variable {X : Cx} {pos : Pos}
theorem pg_imp {e : Expr} {t t' : TG} (h : PG X e t) (i : ∀ v σ H Q, t' v σ H Q → t v σ H Q) : PG X e t' := ⟨fun pins s σ H v u Q I r q => h.run pins s σ H v u Q I r (i v σ H Q q)⟩
theorem sg_name {i : Nat} {x : Str} (hN : X.N.Nodup) (hi : X.N[i]? = some x) (hx : Loc X.env.scope x) (hf : X.fn x = true ∨ X.env.scope.names.lookup x = some .local) : PG X (.Name x pos) (gT false X.K [i] (tgName i)) := by
  refine pg_imp (pg_name hN hi hx hf) fun v σ H Q ⟨m, fp, d, m', r, z, e, q⟩ => ?_
  cases e
  cases z with | fz z => ?_
  obtain ⟨fp', r', sb, o⟩ := r.bind (i := i) z
  exact q _ fp' r' sb o
theorem sgs_nil : PGs X [] (gTs X.K [] []) := by
  refine ⟨fun pins s σ H vs us Q I r h => ?_⟩
  obtain ⟨m, fp, ds, m', rs, z, e, q⟩ := h
  cases z with
  | nil =>
    cases e
    exact pgs_nil.run pins s σ H [] us Q I r ⟨rfl, q σ fp rs (fun _ _ h => h) (.refl _ _)⟩
  | cons _ _ => cases e
theorem sgs_cons {e : Expr} {es : List Expr} {t : Tg} {ts : List Tg} {t1 t2 : List Nat} (h1 : PG X e (gT false X.K t1 t)) (h2 : PGs X es (gTs X.K t2 ts))
    (hs : (assignEach (e :: es) X.env).map (·.2) = assign e X.env :: (assignEach es X.env).map (·.2) := by rfl) : PGs X (e :: es) (gTs X.K (t1 ++ t2) (t :: ts)) := by
  refine ⟨fun pins s σ H vs us Q I r h => (pgs_cons h1 h2 hs).run pins s σ H vs us Q I r ?_⟩
  obtain ⟨m, fp, ds, m', rs, z, e, q⟩ := h
  cases z with
  | nil => cases e
  | @cons v vs d ds hz hr =>
    unfold tgAll at e
    cases e1 : t d m with
    | none => rw [e1] at e; cases e
    | some m1 =>
      rw [e1] at e
      refine ⟨v, vs, rfl, m, fp, d, m1, rs, .fz hz, e1, fun σ1 fp1 r1 sb1 o1 => ?_⟩
      refine ⟨m1, fp1, ds, m', r1, hr, e, fun σ2 fp2 r2 sb2 o2 => ?_⟩
      exact q σ2 fp2 r2 (fun i b hb => sb1 i b (sb2 i b hb)) ((o1.mono fun i hi => List.mem_append_left _ hi).trans (o2.mono fun i hi => List.mem_append_right _ hi))
theorem sg_tup {lo : Bool} {es : List Expr} {k : Nat} {ts : List Tg} {touch : List Nat} (hc : X.calm = true) (h : PGs X es (gTs X.K touch ts))
    (hn : (assignEach es X.env).length = ts.length := by rfl) (hst : (assignEach es X.env).findIdx? (·.1) = none := by rfl) : PG X (.Tuple es k pos) (gT lo X.K touch (tgTup ts)) := by
  refine pg_imp (pg_tup hc h hn hst) fun v σ H Q ⟨m, fp, d, m', r, z, e, q⟩ => ?_
  cases d with
  | tuple ds =>
    unfold tgTup at e
    simp only at e
    split at e
    · rename_i hl
      cases z with
      | fz z => cases z with
        | @tup a xs _ hq g => exact ⟨a, xs, rfl, hq.sq, by rw [g.length]; exact hl, m, fp, ds, m', r, g, e, q⟩
      | @lt a xs _ hq g => exact ⟨a, xs, rfl, hq, by rw [g.length]; exact hl, m, fp, ds, m', r, g, e, q⟩
    · cases e
  | _ => cases e
end

/-! ### what is walked -/
/-- J gives these data, one a turn, as long as what is frozen stays -/
structure WalkD (lo : Bool) (K : PySem.W.Frag) (J : It) (ds : List PyData) (H : Hp) : Prop where
  goes : ∀ i H', Keep H H' → i < ds.length → J.go i H'
  stops : ∀ H', Keep H H' → J.stop ds.length H'
  yields : ∀ i H' x H'', Keep H H' → i < ds.length → J.yld i H' x H'' → Same H' H'' ∧ ∃ d, ds[i]? = some d ∧ FzL K H'' lo x d
  few : ds.length ≤ sizeLine
abbrev RelI (lo : Bool) (K : PySem.W.Frag) : RelT (List PyData) It := fun _ H _ _ ds J => WalkD lo K J ds H
abbrev tI (lo : Bool) (xr : XR) (K : PySem.W.Frag) (W : WX) (f : Ev (List PyData)) : TI := fun σ H R => tG xr K W (RelI lo K) f σ H R
theorem pi_imp {X : Cx} {tg e : Expr} {t t' : TI} (h : PI X tg e t) (i : ∀ σ H Q, t' σ H Q → t σ H Q) : PI X tg e t' := ⟨fun pins s σ H Q I q => h.run pins s σ H Q I (i σ H Q q)⟩
/-- frozen data whose length the heap bounds -/
def fewD : PyData → Prop
  | .list xs => xs.length ≤ sizeLine
  | .tuple xs => xs.length ≤ sizeLine
  | _ => True
abbrev RelDF (K : PySem.W.Frag) : RelT PyData V := fun _ H _ _ x v => Fz K H v x ∧ fewD x
section
variable {xr : XR} {W : WX} {X : Cx} {tg e : Expr} {f : Ev Rv}
theorem fz_few {X : Cx} {pins : List (Addr × Obj)} {σ : St} {H : Hp} {s : Shared} {v : V} {d : PyData} (I : Inv X pins σ H s) (z : Fz X.K H v d) : fewD d := by
  cases z with
  | lst h g =>
    obtain ⟨_, _, _, hz⟩ := I.list h.seq
    show _ ≤ sizeLine
    rw [← g.length]; exact hz
  | tup h g =>
    obtain ⟨_, _, _, hz⟩ := I.tuple h.sq
    show _ ≤ sizeLine
    rw [← g.length]; exact hz
  | _ => trivial
theorem sd_few {g : Ev PyData} (h : PE X e (tD xr X.K W g)) : PE X e (fun σ H Q => tG xr X.K W (RelDF X.K) g σ H Q) := by
  refine ⟨fun pins s σ H Q I q => ?_⟩
  obtain ⟨m, fp, r, p⟩ := q
  have q1 : tD xr X.K W g σ H (fun v H1 => ∃ d, Fz X.K H1 v d ∧ (fewD d → Q v H1)) := by
    refine ⟨m, fp, r, ?_⟩
    cases e1 : g m with
    | no => rw [e1] at p; exact p
    | ex x m' => rw [e1] at p; exact p
    | ok d m' => rw [e1] at p; exact fun v H' fp' rs st z => ⟨d, z, fun hf => p v H' fp' rs st ⟨z, hf⟩⟩
  exact thn (h.run pins s σ H _ I q1) fun u s' ⟨v, H1, I1, rv, d, z, hq⟩ => ⟨v, H1, I1, rv, hq (fz_few I1 z)⟩
def itSeq (f : Ev Rv) : Ev (List PyData) := bnd (frzE f) fun d m => match d with
  | .list xs => .ok xs m
  | .tuple xs => .ok xs m
  | _ => .no
theorem walk_fl {K : PySem.W.Frag} {H : Hp} {a : Addr} {xs : List V} {ds : List PyData} (h : FL K H a xs) (g : FzAll K H xs ds) (few : ds.length ≤ sizeLine) : WalkD false K (Itl K a) ds H where
  goes := fun i H' k hi => ⟨xs, xs[i]'(by rw [g.length]; exact hi), (k.fl h).seq, by simp⟩
  stops := fun H' k => ⟨xs, (k.fl h).seq, by rw [g.length]; exact Nat.le_refl _⟩
  yields := fun i H' x H'' k hi y => by
    obtain ⟨rfl, y⟩ := y
    obtain ⟨d, e1, z⟩ := FzAll.getV g (y _ (k.fl h).seq)
    exact ⟨fun _ _ q => q, d, e1, .fz (Fz.keep k z)⟩
  few := few
theorem walk_tp {K : PySem.W.Frag} {H : Hp} {a : Addr} {xs : List V} {ds : List PyData} (h : SqT K H a xs) (g : FzAll K H xs ds) (few : ds.length ≤ sizeLine) : WalkD false K (Itt K a) ds H where
  goes := fun i H' k hi => ⟨xs, xs[i]'(by rw [g.length]; exact hi), k.sqT h, by simp⟩
  stops := fun H' k => ⟨xs, k.sqT h, by rw [g.length]; exact Nat.le_refl _⟩
  yields := fun i H' x H'' k hi y => by
    obtain ⟨rfl, y⟩ := y
    obtain ⟨d, e1, z⟩ := FzAll.getV g (y _ (k.sqT h))
    exact ⟨fun _ _ q => q, d, e1, .fz (Fz.keep k z)⟩
  few := few
/-- a list or a tuple is walked -/
theorem si_seq (h : PE X e (tE xr X.K W f)) : PI X tg e (tI false xr X.K W (itSeq f)) := by
  refine ⟨fun pins s σ H R I q => ?_⟩
  have hf := sd_few (sd_frz h)
  obtain ⟨m, fp, r, p⟩ := q
  cases e1 : frzE f m with
  | no => unfold itSeq bnd at p; rw [e1] at p; exact p.elim
  | ex x m' =>
    unfold itSeq bnd at p; rw [e1] at p
    refine (pi_list hf).run pins s σ H R I ⟨m, fp, r, ?_⟩
    rw [e1]; exact p
  | ok d m1 =>
    unfold itSeq bnd at p; rw [e1] at p
    cases d with
    | list xs =>
      refine (pi_list hf).run pins s σ H R I ⟨m, fp, r, ?_⟩
      rw [e1]
      rintro v H1 fp1 r1 s1 ⟨z, few⟩
      cases z with
      | lst h g => exact ⟨_, rfl, ⟨_, h.seq⟩, p _ H1 fp1 r1 s1 (walk_fl h g few)⟩
    | tuple xs =>
      refine (pi_tup hf).run pins s σ H R I ⟨m, fp, r, ?_⟩
      rw [e1]
      rintro v H1 fp1 r1 s1 ⟨z, few⟩
      cases z with
      | tup h g => exact ⟨_, rfl, ⟨_, h.sq⟩, p _ H1 fp1 r1 s1 (walk_tp h.sq g few)⟩
    | _ => exact p.elim
/-- range(n), range(a, b) -/
def rangeD (a b : Int) : List PyData := (List.range (b - a).toNat).map fun (i : Nat) => PyData.int (a + (i : Int))
def okRg (a b : Int) : Bool := decide (-1000000 ≤ a ∧ a ≤ 1000000 ∧ -1000000 ≤ b ∧ b ≤ 1000000)
def itRange1 (fs : List (Ev Rv)) : Ev (List PyData) := bnd (argsE fs) fun rs m => match rs with
  | [.d (.int n)] => if okRg 0 n = true then .ok (rangeD 0 n) m else .no
  | _ => .no
def itRange2 (fs : List (Ev Rv)) : Ev (List PyData) := bnd (argsE fs) fun rs m => match rs with
  | [.d (.int a), .d (.int b)] => if okRg a b = true then .ok (rangeD a b) m else .no
  | _ => .no
theorem okRg_at {a b : Int} (h : okRg a b = true) : -1000000 ≤ a ∧ a ≤ 1000000 ∧ -1000000 ≤ b ∧ b ≤ 1000000 := of_decide_eq_true h
theorem walk_rg {K : PySem.W.Frag} {H : Hp} {a b : Int} (h : okRg a b = true) : WalkD false K (Itr a (b - a).toNat) (rangeD a b) H := by
  have hl : (rangeD a b).length = (b - a).toNat := by simp [rangeD]
  have h := okRg_at h
  refine ⟨fun i H' k hi => by rw [hl] at hi; exact hi, fun H' k => by rw [hl]; exact Nat.le_refl _, fun i H' x H'' k hi y => ?_, ?_⟩
  · obtain ⟨rfl, rfl⟩ := y
    rw [hl] at hi
    refine ⟨fun _ _ q => q, _, ?_, .fz (.int _)⟩
    simp [rangeD, hi]
  · rw [hl, sizeLine_eq]; omega
theorem fz_int {K : PySem.W.Frag} {H : Hp} {v : V} {i : Int} (h : Fz K H v (.int i)) : v = .int i := by cases h; rfl
variable {p pos : Pos} {a b : Expr} {fs : List (Ev Rv)}
theorem si_range1 (hg : Gl X "range") (hm : X.mg "range" = none) (ha : PA X [a] (tA xr X.K W (argsE fs))) (hs : starEach [a] X.env = [(false, eval a X.env)] := by rfl) : PI X tg (.Call (.Name "range" p) [a] [] pos) (tI false xr X.K W (itRange1 fs)) := by
  refine pi_imp (pi_range1 hg hm ha hs) fun σ H R q => tG_bind (Rc := RelI false X.K) q fun m fp rs m1 vs H1 fp1 r r1 s1 ra p => ?_
  match rs, vs, ra, p with
  | [.d (.int n)], [v], ⟨z, _⟩, p =>
    cases fz_int z
    simp only at p
    split at p
    · rename_i hn
      have h := okRg_at hn
      refine ⟨n, rfl, by omega, by omega, ?_⟩
      have w := walk_rg (K := X.K) (H := H1) hn
      rw [Int.sub_zero] at w
      exact p _ H1 fp1 r1 s1 w
    · exact p.elim
theorem si_range2 (hg : Gl X "range") (hm : X.mg "range" = none) (ha : PA X [a, b] (tA xr X.K W (argsE fs))) (hs : starEach [a, b] X.env = [(false, eval a X.env), (false, eval b X.env)] := by rfl) (hs2 : starEach [b] X.env = [(false, eval b X.env)] := by rfl) :
    PI X tg (.Call (.Name "range" p) [a, b] [] pos) (tI false xr X.K W (itRange2 fs)) := by
  refine pi_imp (pi_range2 hg hm ha hs hs2) fun σ H R q => tG_bind (Rc := RelI false X.K) q fun m fp rs m1 vs H1 fp1 r r1 s1 ra p => ?_
  match rs, vs, ra, p with
  | [.d (.int i), .d (.int j)], [v, w], ⟨z, z2, _⟩, p =>
    cases fz_int z
    cases fz_int z2
    simp only at p
    split at p
    · rename_i hn
      have h := okRg_at hn
      exact ⟨i, j, rfl, ⟨by omega, by omega, by omega, by omega⟩, p _ H1 fp1 r1 s1 (walk_rg hn)⟩
    · exact p.elim
end
end PyE

/-! PyE: comprehensions -/
namespace PyE
open PySem PySem.Spec PyProof.Rows
open L2

def wipeM (m : Sm) : List Nat → Sm
  | [] => m
  | v :: vs => (wipeM m vs).set v none
def restM (m m' : Sm) : List Nat → Sm
  | [] => m'
  | v :: vs => (restM m m' vs).set v (m.getD v none)
def compL (own : List Nat) (bt : Tg) (tst : Ev Bool) (elt : Ev PyData) : List PyData → List PyData → Ev (List PyData)
  | [], acc => fun m => .ok acc m
  | d :: ds, acc => fun m => match bt d m with
    | none => .no
    | some m1 => (tst m1).bind fun b m2 => if b = true then (elt m2).bind fun y m3 => compL own bt tst elt ds (acc ++ [y]) (wipeM m3 own) else compL own bt tst elt ds acc (wipeM m2 own)
def compE (own : List Nat) (it : Ev (List PyData)) (bt : Tg) (tst : Ev Bool) (elt : Ev Rv) : Ev Rv := bnd it fun ds m1 =>
  match compL own bt tst (frzE elt) ds [] (wipeM m1 own) with
  | .ok acc m2 => .ok (.nl acc) (restM m1 m2 own)
  | _ => .no
def yesT : Ev Bool := fun m => .ok true m
abbrev wF : WX := fun _ _ _ _ => False

theorem wipeM_length (m : Sm) : ∀ vs, (wipeM m vs).length = m.length
  | [] => rfl
  | v :: vs => by unfold wipeM; rw [List.length_set, wipeM_length m vs]
theorem restM_length (m m' : Sm) : ∀ vs, (restM m m' vs).length = m'.length
  | [] => rfl
  | v :: vs => by unfold restM; rw [List.length_set, restM_length m m' vs]
theorem wipeM_at {m : Sm} {i : Nat} : ∀ {vs : List Nat}, i ∉ vs → (wipeM m vs)[i]? = m[i]?
  | [], _ => rfl
  | v :: vs, h => by
    unfold wipeM
    rw [List.getElem?_set_ne (fun e => h (by rw [e]; simp)), wipeM_at fun q => h (List.mem_cons_of_mem _ q)]
theorem wipe_at {σ : St} {i : Nat} : ∀ {vs : List Nat}, i ∉ vs → (wipe σ vs)[i]? = σ[i]?
  | [], _ => rfl
  | v :: vs, h => by
    unfold wipe
    rw [List.getElem?_set_ne (fun e => h (by rw [e]; simp)), wipe_at fun q => h (List.mem_cons_of_mem _ q)]
theorem wipeM_in {m : Sm} {i : Nat} {mv : Mv} : ∀ {vs : List Nat}, i ∈ vs → (wipeM m vs)[i]? ≠ some (some mv)
  | v :: vs, h, e => by
    unfold wipeM at e
    by_cases hi : v = i
    · subst hi
      by_cases hv : v < (wipeM m vs).length
      · rw [List.getElem?_set_self hv] at e; cases e
      · rw [List.getElem?_eq_none (by simpa using hv)] at e; cases e
    · rw [List.getElem?_set_ne hi] at e
      exact wipeM_in ((List.mem_cons.mp h).resolve_left fun z => hi z.symm) e
theorem restM_at {m m' : Sm} {i : Nat} : ∀ {vs : List Nat}, i ∉ vs → (restM m m' vs)[i]? = m'[i]?
  | [], _ => rfl
  | v :: vs, h => by
    unfold restM
    rw [List.getElem?_set_ne (fun e => h (by rw [e]; simp)), restM_at fun q => h (List.mem_cons_of_mem _ q)]
theorem restM_in {m m' : Sm} (hl : m.length = m'.length) {i : Nat} : ∀ {vs : List Nat}, i ∈ vs → (restM m m' vs)[i]? = m[i]?
  | v :: vs, h => by
    unfold restM
    by_cases hi : v = i
    · subst hi
      by_cases hv : v < m.length
      · rw [List.getElem?_set_self (by rw [restM_length]; omega), List.getD_eq_getElem?_getD, List.getElem?_eq_getElem hv]; rfl
      · rw [List.getElem?_eq_none (by rw [List.length_set, restM_length]; omega), List.getElem?_eq_none (by omega)]
    · rw [List.getElem?_set_ne hi]
      exact restM_in hl ((List.mem_cons.mp h).resolve_left fun z => hi z.symm)
theorem wipe_eq {σ σ' : St} : ∀ {vs : List Nat}, Out vs σ σ' → wipe σ' vs = wipe σ vs := by
  intro vs o
  apply List.ext_getElem?
  intro i
  by_cases h : i ∈ vs
  · have : ∀ (τ : St) {us : List Nat}, i ∈ us → (wipe τ us)[i]? = if i < τ.length then some none else none := by
      intro τ us
      induction us with
      | nil => intro h; cases h
      | cons v us ih =>
        intro h
        unfold wipe
        by_cases hi : v = i
        · subst hi
          by_cases hv : v < τ.length
          · rw [List.getElem?_set_self (by rw [wipe_length]; exact hv), if_pos hv]
          · rw [List.getElem?_eq_none (by rw [List.length_set, wipe_length]; omega), if_neg hv]
        · rw [List.getElem?_set_ne hi]
          exact ih ((List.mem_cons.mp h).resolve_left fun z => hi z.symm)
    rw [this σ' h, this σ h, o.1]
  · rw [wipe_at h, wipe_at h, o.2 i h]
theorem wipe_out (σ : St) (vs : List Nat) : Out vs σ (wipe σ vs) := ⟨wipe_length σ vs, fun i h => wipe_at h⟩
section
variable {K : PySem.W.Frag} {H : Hp} {m : Sm} {σ : St} {fp : Fp}
theorem RelS.wipe (r : RelS K H m σ fp) (vs : List Nat) : RelS K H (wipeM m vs) (L2.wipe σ vs) (fun i => if i ∈ vs then [] else fp i) := by
  refine ⟨fun i mv e => ?_, fun i h => ?_, fun i j b hb hc => ?_, by rw [wipeM_length, L2.wipe_length]; exact r.len⟩
  · by_cases hi : i ∈ vs
    · exact absurd e (wipeM_in hi)
    · rw [wipeM_at hi] at e
      obtain ⟨v, e1, q⟩ := r.at_ i mv e
      exact ⟨v, by rw [wipe_at hi]; exact e1, by rw [if_neg hi]; exact q⟩
  · by_cases hi : i ∈ vs
    · exact if_pos hi
    · show (if i ∈ vs then [] else fp i) = []
      rw [if_neg hi]
      exact r.emp i fun mv q => h mv (by rw [wipeM_at hi]; exact q)
  · have hb : b ∈ (if i ∈ vs then [] else fp i) := hb
    have hc : b ∈ (if j ∈ vs then [] else fp j) := hc
    by_cases h1 : i ∈ vs
    · rw [if_pos h1] at hb; cases hb
    · by_cases h2 : j ∈ vs
      · rw [if_pos h2] at hc; cases hc
      · rw [if_neg h1] at hb; rw [if_neg h2] at hc; exact r.dis i j b hb hc
/-- wiping again, in a heap where more may be owned -/
theorem RelS.wipe2 {σ0 : St} {vs : List Nat} (r : RelS K H m σ fp) (o : L2.wipe σ vs = L2.wipe σ0 vs) : RelS K H (wipeM m vs) (L2.wipe σ0 vs) (fun i => if i ∈ vs then [] else fp i) := by
  rw [← o]; exact r.wipe vs
theorem RelS.restore {m0 m' : Sm} {σ : St} {fp0 fp' : Fp} {H0 H' : Hp} {vs : List Nat} (r0 : RelS K H0 m0 σ fp0) (r : RelS K H' m' (L2.wipe σ vs) fp') (s : Step (fun i => if i ∈ vs then [] else fp0 i) fp' H0 H') (hn : ∀ i ∈ vs, fp' i = []) :
    RelS K H' (restM m0 m' vs) σ (fun i => if i ∈ vs then fp0 i else fp' i) ∧ Step fp0 (fun i => if i ∈ vs then fp0 i else fp' i) H0 H' := by
  have hl : m0.length = m'.length := by rw [r0.len, r.len, L2.wipe_length]
  have nin : ∀ i b, i ∈ vs → b ∈ fp0 i → ∀ j, b ∉ (if j ∈ vs then [] else fp0 j) := fun i b hi hb j hj => by
    by_cases h : j ∈ vs
    · rw [if_pos h] at hj; cases hj
    · rw [if_neg h] at hj; exact h (by rw [← r0.dis i j b hb hj]; exact hi)
  have k0 : Keep H0 H' := fun b u e n => s.keep b u e fun i hi => by
    by_cases h : i ∈ vs
    · simp only [if_pos h] at hi; cases hi
    · simp only [if_neg h] at hi; exact n (by have := r0.mut hi; rw [e] at this; exact this)
  have out : ∀ i b, i ∈ vs → b ∈ fp0 i → ∀ j, b ∉ fp' j := fun i b hi hb j hj => by
    rcases s.own j b hj with ⟨l, q⟩ | q
    · exact nin i b hi hb l q
    · exact r0.some_ hb q
  refine ⟨⟨fun i mv e => ?_, fun i h => ?_, fun i j b hb hc => ?_, by rw [restM_length, r.len, L2.wipe_length]⟩, ⟨fun i b hb => ?_, fun b o e n => ?_, s.trk⟩⟩
  · by_cases hi : i ∈ vs
    · rw [restM_in hl hi] at e
      obtain ⟨v, e1, q⟩ := r0.at_ i mv e
      refine ⟨v, e1, ?_⟩
      rw [if_pos hi]
      refine q.keep k0 fun b hb => ?_
      cases e2 : H0 b with
      | none => exact absurd e2 (r0.some_ hb)
      | some o => exact s.keep b o e2 (nin i b hi hb)
    · rw [restM_at hi] at e
      obtain ⟨v, e1, q⟩ := r.at_ i mv e
      exact ⟨v, by rw [wipe_at hi] at e1; exact e1, by rw [if_neg hi]; exact q⟩
  · by_cases hi : i ∈ vs
    · show (if i ∈ vs then fp0 i else fp' i) = []
      rw [if_pos hi]
      exact r0.emp i fun mv q => h mv (by rw [restM_in hl hi]; exact q)
    · show (if i ∈ vs then fp0 i else fp' i) = []
      rw [if_neg hi]
      exact r.emp i fun mv q => h mv (by rw [restM_at hi]; exact q)
  · have hb : b ∈ (if i ∈ vs then fp0 i else fp' i) := hb
    have hc : b ∈ (if j ∈ vs then fp0 j else fp' j) := hc
    by_cases h1 : i ∈ vs
    · rw [if_pos h1] at hb
      by_cases h2 : j ∈ vs
      · rw [if_pos h2] at hc; exact r0.dis i j b hb hc
      · rw [if_neg h2] at hc; exact absurd hc (out i b h1 hb j)
    · rw [if_neg h1] at hb
      by_cases h2 : j ∈ vs
      · rw [if_pos h2] at hc; exact absurd hb (out j b h2 hc i)
      · rw [if_neg h2] at hc; exact r.dis i j b hb hc
  · have hb : b ∈ (if i ∈ vs then fp0 i else fp' i) := hb
    by_cases h1 : i ∈ vs
    · rw [if_pos h1] at hb; exact .inl ⟨i, hb⟩
    · rw [if_neg h1] at hb
      rcases s.own i b hb with ⟨l, q⟩ | q
      · by_cases h2 : l ∈ vs
        · simp only [if_pos h2] at q; cases q
        · simp only [if_neg h2] at q; exact .inl ⟨l, q⟩
      · exact .inr q
  · exact s.keep b o e fun i hi => by
      by_cases h : i ∈ vs
      · simp only [if_pos h] at hi; cases hi
      · simp only [if_neg h] at hi; exact n i hi
end
section
variable {lo : Bool} {xr : XR} {W : WX} {X : Cx} {elt tg iter : Expr} {ifs : List Expr} {scope : Scope} {own : List (Str × Nat)} {pos : Pos} {it : Ev (List PyData)} {bt : Tg} {touch : List Nat} {tst : Ev Bool} {f : Ev Rv} {tt : TT}
/-- the loop of a comprehension, by its reading -/
theorem lc_ok {K : PySem.W.Frag} {vs : List Nat} {σ : St} {H : Hp} {Q : VK} (ht : ∀ i ∈ touch, i ∈ vs) (htt : ∀ σ H Q, tT xr K wF tst σ H Q → tt σ H Q) (h : tE xr K W (compE vs it bt tst f) σ H Q) :
    tLc (tI lo xr K W it) (gT lo K touch bt) tt (tD xr K wF (frzE f)) vs σ H Q := by
  refine tG_bind (Rc := RelR K) h fun m fp ds m1 J H1 fp1 r r1 s1 w p => ?_
  intro D hD
  have w : WalkD lo K J ds H1 := w
  cases eL : compL vs bt tst (frzE f) ds [] (wipeM m1 vs) with
  | no => rw [eL] at p; exact p.elim
  | ex x m' => rw [eL] at p; exact p.elim
  | ok acc mE =>
    rw [eL] at p
    -- what holds at turn i
    refine ⟨fun i n H2 => ∃ m2 fp2 a ys, i + n = ds.length ∧ RelS K H2 m2 (wipe σ vs) fp2 ∧ Step (fun i => if i ∈ vs then [] else fp1 i) fp2 H1 H2 ∧ (∀ i ∈ vs, fp2 i = []) ∧ H2 D = some (.lst ys) ∧ FzAll K H2 ys a ∧ ys.length ≤ i ∧ (∀ i, D ∉ fp2 i) ∧
      compL vs bt tst (frzE f) (ds.drop i) a m2 = .ok acc mE, ⟨ds.length, wipeM m1 vs, (fun i => if i ∈ vs then [] else fp1 i), [], [], by omega, ?_, ?_, fun i hi => if_pos hi, upd_same, .nil, Nat.le_refl _, ?_, by simpa using eL⟩, ?_⟩
    · have sm : Same H1 (upd H1 D (.lst [])) := fun b o e => by rw [upd_ne (ne_of_none e hD)]; exact e
      exact (r1.wipe vs).same sm
    · have sm : Same H1 (upd H1 D (.lst [])) := fun b o e => by rw [upd_ne (ne_of_none e hD)]; exact e
      exact .same sm
    · intro i hi
      by_cases hv : i ∈ vs
      · simp only [if_pos hv] at hi; cases hi
      · simp only [if_neg hv] at hi; exact r1.some_ hi hD
    · rintro i n H2 ⟨m2, fp2, a, ys, hn, r2, s2, n2, hD2, ga, hi, nD, eC⟩
      have k12 : Keep H1 H2 := (r1.wipe vs).keepOf s2
      by_cases hlt : i < ds.length
      · -- a turn
        refine .inr ⟨w.goes i H2 k12 hlt, fun H3 => ∃ m3 fp3 a ys, RelS K H3 m3 (wipe σ vs) fp3 ∧ Step (fun i => if i ∈ vs then [] else fp1 i) fp3 H1 H3 ∧ (∀ i ∈ vs, fp3 i = []) ∧ H3 D = some (.lst ys) ∧ FzAll K H3 ys a ∧ ys.length ≤ i + 1 ∧ (∀ i, D ∉ fp3 i) ∧
          compL vs bt tst (frzE f) (ds.drop (i + 1)) a m3 = .ok acc mE, ?_, ?_⟩
        · rintro H3 ⟨m3, fp3, a, ys, h1, h2, h3, h4, h5, h6, h7, h8⟩
          exact ⟨n - 1, by omega, m3, fp3, a, ys, by omega, h1, h2, h3, h4, h5, h6, h7, h8⟩
        · intro x H3 hy
          obtain ⟨sm, d, ed, z⟩ := w.yields i H2 x H3 k12 hlt hy
          have ed2 : ds.drop i = d :: ds.drop (i + 1) := by
            obtain ⟨h1, h2⟩ := List.getElem?_eq_some_iff.mp ed
            rw [← h2]; exact List.drop_eq_getElem_cons h1
          rw [ed2] at eC
          unfold compL at eC
          cases eb : bt d m2 with
          | none => rw [eb] at eC; cases eC
          | some m3 =>
            rw [eb] at eC
            have r3 := r2.same sm
            refine ⟨m2, fp2, d, m3, r3, z, eb, fun σ3 fp3 r3 sb3 o3 => ⟨wipe_eq ((wipe_out σ vs).trans (o3.mono ht)), htt _ _ _ ⟨m3, fp3, r3, ?_⟩⟩⟩
            have s3 : Step (fun i => if i ∈ vs then [] else fp1 i) fp3 H1 H3 := (s2.trans (.same sm)).trans sb3.step
            have hD3 : H3 D = some (.lst ys) := sm D _ hD2
            have nD3 : ∀ i, D ∉ fp3 i := fun i hi => nD i (sb3 i D hi)
            have ga3 := ga.keep (PyE.Same.toKeep sm)
            cases et : tst m3 with
            | no => simp only [et, Res.bind] at eC; cases eC
            | ex x m' => simp only [et, Res.bind] at eC; cases eC
            | ok b m4 =>
              simp only [et, Res.bind] at eC
              intro b' H4 fp4 r4 s4 hb
              cases (show b = b' from hb)
              have hD4 : H4 D = some (.lst ys) := s4.keep D _ hD3 nD3
              have nD4 : ∀ i, D ∉ fp4 i := s4.out (by rw [hD3]; exact fun z => nomatch z) nD3
              have ga4 := ga3.keep (r3.keepOf s4)
              have wp : ∀ {H' : Hp} {m' : Sm} {fp' : Fp}, RelS K H' m' σ3 fp' → RelS K H' (wipeM m' vs) (wipe σ vs) (fun i => if i ∈ vs then [] else fp' i) := fun rr => rr.wipe2 (by
                rw [wipe_eq (o3.mono ht), wipe_eq (wipe_out σ vs)])
              have sw : ∀ {H' : Hp} {fp' : Fp}, Step (fun i => if i ∈ vs then [] else fp1 i) fp' H1 H' → Step (fun i => if i ∈ vs then [] else fp1 i) (fun i => if i ∈ vs then [] else fp' i) H1 H' := fun st =>
                ⟨fun i b hb => by
                  by_cases hv : i ∈ vs
                  · simp only [if_pos hv] at hb; cases hb
                  · simp only [if_neg hv] at hb; exact st.own i b hb, st.keep, st.trk⟩
              cases b with
              | false =>
                simp only [Bool.false_eq_true, if_false] at eC ⊢
                refine ⟨wipeM m4 vs, _, a, ys, wp r4, sw (s3.trans s4), fun i hi => if_pos hi, hD4, ga4, by omega, fun i hi => ?_, eC⟩
                by_cases hv : i ∈ vs
                · simp only [if_pos hv] at hi; cases hi
                · simp only [if_neg hv] at hi; exact nD4 i hi
              | true =>
                simp only [if_true] at eC ⊢
                cases ee : frzE f m4 with
                | no => rw [ee] at eC; cases eC
                | ex x m' => rw [ee] at eC; cases eC
                | ok y m5 =>
                  rw [ee] at eC
                  refine ⟨m4, fp4, r4, ?_⟩
                  rw [ee]
                  intro v H5 fp5 r5 s5 zy
                  have hD5 : H5 D = some (.lst ys) := s5.keep D _ hD4 nD4
                  have nD5 : ∀ i, D ∉ fp5 i := s5.out (by rw [hD4]; exact fun z => nomatch z) nD4
                  have ga5 := ga4.keep (r4.keepOf s5)
                  have k6 : Keep H5 (upd H5 D (.lst (ys ++ [v]))) := keep_upd (by rw [hD5]; exact trivial)
                  have few := w.few
                  refine ⟨ys, hD5, by omega, wipeM m5 vs, fun i => if i ∈ vs then [] else fp5 i, a ++ [y], ys ++ [v], ?_, ?_, fun i hi => if_pos hi, upd_same, (ga5.append (.cons zy .nil)).keep k6, by simp; omega, fun i hi => ?_, eC⟩
                  · have q := wp r5
                    refine ⟨fun i mv e => ?_, q.emp, q.dis, q.len⟩
                    obtain ⟨u, e1, rm⟩ := q.at_ i mv e
                    refine ⟨u, e1, rm.keep k6 fun b hb => upd_ne fun z => ?_⟩
                    by_cases hv : i ∈ vs
                    · simp only [if_pos hv] at hb; cases hb
                    · simp only [if_neg hv] at hb; exact nD5 i (by rw [← z]; exact hb)
                  · have q := sw ((s3.trans s4).trans s5)
                    refine ⟨q.own, fun b o e nb => ?_, fun b hb => q.trk b (upd_trk hb)⟩
                    rw [upd_ne (ne_of_none e hD)]
                    exact q.keep b o e nb
                  · by_cases hv : i ∈ vs
                    · simp only [if_pos hv] at hi; cases hi
                    · simp only [if_neg hv] at hi; exact nD5 i hi
      · -- the end
        have ei : i = ds.length := by omega
        subst ei
        refine .inl ⟨w.stops H2 k12, ?_⟩
        rw [List.drop_length] at eC
        unfold compL at eC
        cases eC
        obtain ⟨rE, sE⟩ := r1.restore r2 s2 n2
        refine p (.ref D) H2 _ rE (s1.trans sE) ⟨D, ys, rfl, hD2, ga, s1.trk D hD, fun i hi => ?_⟩
        by_cases hv : i ∈ vs
        · simp only [if_pos hv] at hi; exact r1.some_ hi hD
        · simp only [if_neg hv] at hi; exact nD i hi
/-- a comprehension of one for, no test -/
theorem sd_lc0 (hc : X.calm = true) (hN : X.N.Nodup) (hi : PI X tg iter (tI lo xr X.K W it)) (ok : BlkOk X.N X.env.scope scope own) (ht : ∀ i ∈ touch, i ∈ own.map (·.2))
    (hg : ∀ (s : Shared) (H : Hp) (C : Addr) (cl : List (Str × Addr)) (fp : List Addr), PG (X.blk s H scope (compEnvC scope cl C X.env) fp) tg (gT lo X.K touch bt))
    (he : ∀ (s : Shared) (H : Hp) (C : Addr) (cl : List (Str × Addr)) (fp : List Addr), PE (X.blk s H scope (compEnvC scope cl C X.env) fp) elt (tE xr X.K wF f)) (hs : ∀ x, foldedSetIterable iter X.env x = pure x := by intro _; rfl) :
    PE X (.ListComp elt [⟨tg, iter, [], 0⟩] scope pos) (tE xr X.K W (compE (own.map (·.2)) it bt yesT f)) := by
  refine pe_imp (pe_lc (te := tD xr X.K wF (frzE f)) hc hN hi ok hg (fun _ _ _ _ _ => pts_nil) (fun s H C cl fp => sd_frz (X := X.blk s H scope (compEnvC scope cl C X.env) fp) (he s H C cl fp)) hs) fun σ H Q h => ?_
  exact lc_ok ht (fun σ H Q ⟨m, fp, r, p⟩ => p true H fp r (.refl _ _) rfl) h
/-- .. of one for with a test -/
theorem sd_lc1 {c : Expr} (hc : X.calm = true) (hN : X.N.Nodup) (hi : PI X tg iter (tI lo xr X.K W it)) (ok : BlkOk X.N X.env.scope scope own) (ht : ∀ i ∈ touch, i ∈ own.map (·.2))
    (hg : ∀ (s : Shared) (H : Hp) (C : Addr) (cl : List (Str × Addr)) (fp : List Addr), PG (X.blk s H scope (compEnvC scope cl C X.env) fp) tg (gT lo X.K touch bt))
    (hq : ∀ (s : Shared) (H : Hp) (C : Addr) (cl : List (Str × Addr)) (fp : List Addr), PT (X.blk s H scope (compEnvC scope cl C X.env) fp) c (tT xr X.K wF tst))
    (he : ∀ (s : Shared) (H : Hp) (C : Addr) (cl : List (Str × Addr)) (fp : List Addr), PE (X.blk s H scope (compEnvC scope cl C X.env) fp) elt (tE xr X.K wF f)) (hs : ∀ x, foldedSetIterable iter X.env x = pure x := by intro _; rfl) :
    PE X (.ListComp elt [⟨tg, iter, [c], 0⟩] scope pos) (tE xr X.K W (compE (own.map (·.2)) it bt tst f)) := by
  refine pe_imp (pe_lc (te := tD xr X.K wF (frzE f)) hc hN hi ok hg (fun s H C cl fp => pts_one (hq s H C cl fp)) (fun s H C cl fp => sd_frz (X := X.blk s H scope (compEnvC scope cl C X.env) fp) (he s H C cl fp)) hs) fun σ H Q h => ?_
  exact lc_ok ht (fun _ _ _ q => q) h
end
end PyE

/-! PyE: statements -/
namespace PyE
open PySem PySem.Spec PyProof.Rows
open L2

inductive Fo where
  | nx | bk | ct | rt (mv : Mv)
abbrev Sf := Ev Fo
/-- the slots at ro hold what they held at the entry -/
def Kept (ro : List Nat) (σ0 σ : St) : Prop := ∀ i ∈ ro, σ[i]? = σ0[i]?
theorem Kept.out {ro touch : List Nat} {σ0 σ σ' : St} (k : Kept ro σ0 σ) (o : Out touch σ σ') (h : ∀ i ∈ touch, i ∉ ro) : Kept ro σ0 σ' := fun i hi => (o.2 i fun z => h i z hi).trans (k i hi)
def PostS (xr : XR) (K : PySem.W.Frag) (W : WX) (ro : List Nat) (σ0 : St) (D : Ends) (H : Hp) (fp : Fp) : Res Fo → Prop
  | .ok .nx m' => ∀ σ' H' fp', RelS K H' m' σ' fp' → Step fp fp' H H' → Kept ro σ0 σ' → D.nx σ' H'
  | .ok .bk m' => ∀ σ' H' fp', RelS K H' m' σ' fp' → Step fp fp' H H' → Kept ro σ0 σ' → D.bk σ' H'
  | .ok .ct m' => ∀ σ' H' fp', RelS K H' m' σ' fp' → Step fp fp' H H' → Kept ro σ0 σ' → D.ct σ' H'
  | .ok (.rt mv) m' => ∀ v σ' H' fp' fr, RelS K H' m' σ' fp' → Step fp fp' H H' → Kept ro σ0 σ' → RelM K H' mv v fr → (∀ b ∈ fr, ∀ i, b ∉ fp' i) → (∀ b ∈ fr, H b = none ∨ (99 ∈ ro ∧ ∃ j, b ∈ fp j)) → D.rt v H'
  | .ex e m' => ∀ c d σ' H' fp', RelS K H' m' σ' fp' → Step fp fp' H H' → Kept ro σ0 σ' → xr K H' e c d → W c d σ' H'
  | .no => False
def tS (xr : XR) (K : PySem.W.Frag) (W : WX) (ro : List Nat) (σ0 : St) (g : Sf) : TS := fun D σ H => ∃ m fp, RelS K H m σ fp ∧ Kept ro σ0 σ ∧ PostS xr K W ro σ0 D H fp (g m)

section
variable {xr : XR} {K : PySem.W.Frag} {W : WX} {ro : List Nat} {σ0 σ : St} {H H1 : Hp} {fp fp1 : Fp} {D : Ends} {α β : Type}
theorem PostS.from {r : Res Fo} (p : PostS xr K W ro σ0 D H fp r) (s : Step fp fp1 H H1) : PostS xr K W ro σ0 D H1 fp1 r := by
  cases r with
  | no => exact p
  | ex e m' => exact fun c d σ' H' fp' rs st k x => p c d σ' H' fp' rs (s.trans st) k x
  | ok o m' =>
    cases o with
    | nx => exact fun σ' H' fp' rs st k => p σ' H' fp' rs (s.trans st) k
    | bk => exact fun σ' H' fp' rs st k => p σ' H' fp' rs (s.trans st) k
    | ct => exact fun σ' H' fp' rs st k => p σ' H' fp' rs (s.trans st) k
    | rt mv =>
      exact fun v σ' H' fp' fr rs st k rm n1 n2 => p v σ' H' fp' fr rs (s.trans st) k rm n1 fun b hb => by
        rcases n2 b hb with z | ⟨z, j, hj⟩
        · exact .inl (s.trk b z)
        · rcases s.own j b hj with ⟨l, hl⟩ | z2
          · exact .inr ⟨z, l, hl⟩
          · exact .inl z2
/-- a statement that begins with an evaluation -/
theorem tS_bind {Ra : RelT α β} {f : Ev α} {g : α → Sf} {Q1 : β → Hp → Prop} (h : tS xr K W ro σ0 (bnd f g) D σ H)
    (h1 : ∀ fp a m1 v H1 fp1, RelS K H1 m1 σ fp1 → Step fp fp1 H H1 → Kept ro σ0 σ → Ra H H1 σ fp1 a v → PostS xr K W ro σ0 D H1 fp1 (g a m1) → Q1 v H1) : tG xr K W Ra f σ H Q1 := by
  obtain ⟨m, fp, r, k, p⟩ := h
  refine ⟨m, fp, r, ?_⟩
  unfold bnd at p
  generalize f m = q at p
  cases q with
  | no => exact p
  | ex x m' => exact fun c d H' fp' rs st x => p c d σ H' fp' rs st k x
  | ok a m1 => exact fun v H1 fp1 r1 s1 ra => h1 fp a m1 v H1 fp1 r1 s1 k ra (p.from s1)

/-- .. with the wish as it was at the beginning -/
theorem tS_bind0 {Ra : RelT α β} {f : Ev α} {g : α → Sf} {Q1 : β → Hp → Prop} (h : tS xr K W ro σ0 (bnd f g) D σ H)
    (h1 : ∀ fp a m1 v H1 fp1, RelS K H1 m1 σ fp1 → Step fp fp1 H H1 → Kept ro σ0 σ → Ra H H1 σ fp1 a v → PostS xr K W ro σ0 D H fp (g a m1) → Q1 v H1) : tG xr K W Ra f σ H Q1 := by
  obtain ⟨m, fp, r, k, p⟩ := h
  refine ⟨m, fp, r, ?_⟩
  unfold bnd at p
  generalize f m = q at p
  cases q with
  | no => exact p
  | ex x m' => exact fun c d H' fp' rs st x => p c d σ H' fp' rs st k x
  | ok a m1 => exact fun v H1 fp1 r1 s1 ra => h1 fp a m1 v H1 fp1 r1 s1 k ra p

def seqS (g h : Sf) : Sf := fun m => (g m).bind fun o m1 => match o with
  | .nx => h m1
  | o => .ok o m1
def skipS : Sf := fun m => .ok .nx m
def dropS (f : Ev Rv) : Sf := bnd f fun _ m => .ok .nx m
def ifS (c : Ev Bool) (g h : Sf) : Sf := bnd c fun b => if b = true then g else h
/-- what stands behind x = e, by the value that has come, frozen if it must be -/
def ownF (f : Ev Rv) : Ev Rv := bnd f fun r m => match r with
  | .s i => (frz (.s i) m).bind fun d m1 => .ok (.d d) m1
  | r => .ok r m
/-- x = e: a new list, a new dict is owned from now on -/
def putM (i : Nat) (r : Rv) : Sf := fun m => match r with
  | .nl xs => .ok .nx (m.set i (some (.ol xs)))
  | .nd kvs => .ok .nx (m.set i (some (.od kvs)))
  | .d x => .ok .nx (m.set i (some (.fz x)))
  | .nr k c a b => .ok .nx (m.set i (some (.rs k c a b)))
  | .s _ => .no
def setS (i : Nat) (f : Ev Rv) : Sf := bnd (ownF f) (putM i)
def setT (t : Tg) (f : Ev Rv) : Sf := bnd (frzE f) fun d m => match t d m with
  | some m' => .ok .nx m'
  | none => .no
/-- what is handed back: a new thing, or data -/
def giveM (r : Rv) : Sf := fun m => match r with
  | .nl xs => .ok (.rt (.ol xs)) m
  | .nd kvs => .ok (.rt (.od kvs)) m
  | .d x => .ok (.rt (.fz x)) m
  | .nr k c a b => .ok (.rt (.rs k c a b)) m
  | .s _ => .no
def retS (f : Ev Rv) : Sf := bnd (ownF f) giveM
def forL (bt : Tg) (body : Sf) : List PyData → Sf
  | [] => fun m => .ok .nx m
  | d :: ds => fun m => match bt d m with
    | none => .no
    | some m1 => (body m1).bind fun o m2 => match o with
      | .nx => forL bt body ds m2
      | .ct => forL bt body ds m2
      | .bk => .ok .nx m2
      | .rt v => .ok (.rt v) m2
def forS (it : Ev (List PyData)) (bt : Tg) (body : Sf) : Sf := bnd it (forL bt body)
def whileS (c : Ev Bool) (body : Sf) : Nat → Sf
  | 0 => fun _ => .no
  | n + 1 => bnd c fun b => if b = true then fun m => (body m).bind fun o m2 => match o with
      | .nx => whileS c body n m2
      | .ct => whileS c body n m2
      | .bk => .ok .nx m2
      | .rt v => .ok (.rt v) m2
    else fun m => .ok .nx m
end

section
variable {xr : XR} {W : WX} {ro : List Nat} {σ0 : St} {X : Cx} {st : Stmt} {rest a b : List Stmt} {g h : Sf} {f : Ev Rv} {fc : Ev Bool} {e c : Expr} {pos : Pos}
theorem ps_imp {t t' : TS} (h : PS X st t) (i : ∀ D σ H, t' D σ H → t D σ H) : PS X st t' := ⟨fun pins s σ H D I q => h.run pins s σ H D I (i D σ H q)⟩
theorem pss_imp {t t' : TS} (h : PSs X rest t) (i : ∀ D σ H, t' D σ H → t D σ H) : PSs X rest t' := ⟨fun pins s σ H D I q => h.run pins s σ H D I (i D σ H q)⟩
theorem seq_ok {K : PySem.W.Frag} {D : Ends} {σ : St} {H : Hp} (q : tS xr K W ro σ0 (seqS g h) D σ H) : tSeq (tS xr K W ro σ0 g) (tS xr K W ro σ0 h) D σ H := by
  obtain ⟨m, fp, r, k, p⟩ := q
  refine ⟨m, fp, r, k, ?_⟩
  unfold seqS at p
  generalize g m = z at p
  cases z with
  | no => exact p
  | ex x m' => exact p
  | ok o m1 =>
    cases o with
    | nx => exact fun σ' H' fp' rs st k => ⟨m1, fp', rs, k, PostS.from p st⟩
    | _ => exact p
theorem ss_nil : PSs X [] (tS xr X.K W ro σ0 skipS) := pss_imp pss_nil fun D σ H ⟨m, fp, r, k, p⟩ => p σ H fp r (.refl _ _) k
theorem ss_one (h1 : PS X st (tS xr X.K W ro σ0 g)) : PSs X [st] (tS xr X.K W ro σ0 g) := pss_one h1
theorem ss_cons (h1 : PS X st (tS xr X.K W ro σ0 g)) (h2 : PSs X rest (tS xr X.K W ro σ0 h)) : PSs X (st :: rest) (tS xr X.K W ro σ0 (seqS g h)) := pss_imp (pss_cons h1 h2) fun D σ H q => seq_ok q
theorem ss_pass : PS X (.Pass pos) (tS xr X.K W ro σ0 skipS) := ps_imp ps_pass fun D σ H ⟨m, fp, r, k, p⟩ => p σ H fp r (.refl _ _) k
theorem ss_break : PS X (.Break pos) (tS xr X.K W ro σ0 (fun m => .ok .bk m)) := ps_imp ps_break fun D σ H ⟨m, fp, r, k, p⟩ => p σ H fp r (.refl _ _) k
theorem ss_cont : PS X (.Continue pos) (tS xr X.K W ro σ0 (fun m => .ok .ct m)) := ps_imp ps_continue fun D σ H ⟨m, fp, r, k, p⟩ => p σ H fp r (.refl _ _) k
theorem ss_expr (he : PE X e (tE xr X.K W f)) (hs : swapsWith e none pos.line X.env = pure false := by rfl) : PS X (.Expr e pos) (tS xr X.K W ro σ0 (dropS f)) :=
  ps_imp (ps_expr he hs) fun D σ H q => tS_bind q fun fp a m1 v H1 fp1 r1 s1 k ra p => p σ H1 fp1 r1 (.refl _ _) k
theorem ss_if (hc : PT X c (tT xr X.K W fc)) (ha : PSs X a (tS xr X.K W ro σ0 g)) (hb : PSs X b (tS xr X.K W ro σ0 h)) : PS X (.If c a b pos) (tS xr X.K W ro σ0 (ifS fc g h)) := by
  refine ps_imp (ps_if hc ha hb) fun D σ H q => tS_bind q fun fp x m1 v H1 fp1 r1 s1 k ra p => ?_
  cases (show x = v from ra)
  cases x with
  | true => exact iteT ⟨m1, fp1, r1, k, by simpa using p⟩
  | false => exact iteF ⟨m1, fp1, r1, k, by simpa using p⟩
/-! ### x = e -/
theorem RelS.own {K : PySem.W.Frag} {H : Hp} {m : Sm} {σ : St} {fp : Fp} {i : Nat} {mv : Mv} {v : V} {f : List Addr} (r : RelS K H m σ fp) (rm : RelM K H mv v f) (nf : ∀ b ∈ f, ∀ j, b ∉ fp j) :
    RelS K H (m.set i (some mv)) (σ.set i (some v)) (fun j => if j = i then (if i < m.length then f else []) else fp j) := by
  refine ⟨fun j mv' q => ?_, fun j hj => ?_, fun j l b hb hc => ?_, by simpa using r.len⟩
  · by_cases hji : j = i
    · subst hji
      have hl : j < m.length := by simpa using nth_lt q
      rw [List.getElem?_set_self hl] at q; cases q
      exact ⟨v, by rw [List.getElem?_set_self (by rw [← r.len]; exact hl)], by rw [if_pos rfl, if_pos hl]; exact rm⟩
    · rw [List.getElem?_set_ne (Ne.symm hji)] at q
      obtain ⟨w, e1, q1⟩ := r.at_ j mv' q
      exact ⟨w, by rw [List.getElem?_set_ne (Ne.symm hji)]; exact e1, by rw [if_neg hji]; exact q1⟩
  · show (if j = i then (if i < m.length then f else []) else fp j) = []
    by_cases hji : j = i
    · subst hji
      rw [if_pos rfl]
      by_cases hl : j < m.length
      · exact absurd (List.getElem?_set_self hl) (hj mv)
      · exact if_neg hl
    · rw [if_neg hji]
      exact r.emp j fun mv' q => hj mv' (by rw [List.getElem?_set_ne (Ne.symm hji)]; exact q)
  · have hb : b ∈ (if j = i then (if i < m.length then f else []) else fp j) := hb
    have hc : b ∈ (if l = i then (if i < m.length then f else []) else fp l) := hc
    have sub : ∀ {b : Addr}, b ∈ (if i < m.length then f else []) → b ∈ f := fun {b} h => by
      split at h
      · exact h
      · cases h
    by_cases h1 : j = i
    · by_cases h2 : l = i
      · rw [h1, h2]
      · rw [if_pos h1] at hb; rw [if_neg h2] at hc
        exact absurd hc (nf b (sub hb) l)
    · by_cases h2 : l = i
      · rw [if_neg h1] at hb; rw [if_pos h2] at hc
        exact absurd hb (nf b (sub hc) j)
      · rw [if_neg h1] at hb; rw [if_neg h2] at hc
        exact r.dis j l b hb hc
theorem own_step {i : Nat} {f : List Addr} {fp fp1 : Fp} {H H1 : Hp} (s : Step fp fp1 H H1) (n : ∀ b ∈ f, H b = none) (l : Nat) : Step fp (fun j => if j = i then (if i < l then f else []) else fp1 j) H H1 := by
  refine ⟨fun j b hb => ?_, s.keep, s.trk⟩
  have hb : b ∈ (if j = i then (if i < l then f else []) else fp1 j) := hb
  by_cases h1 : j = i
  · rw [if_pos h1] at hb
    split at hb
    · exact .inr (n b hb)
    · cases hb
  · rw [if_neg h1] at hb; exact s.own j b hb
theorem sd_cond {p : Nat → Bool} (he : PE X e (tE xr X.K W f)) : PE X e (tE xr X.K W (bnd f fun r m => match r with
  | .s i => if p i = true then (frz (.s i) m).bind fun d m1 => .ok (.d d) m1 else .ok (.s i) m
  | r => .ok r m)) := by
  refine ⟨fun pins s σ H Q I q => ?_⟩
  obtain ⟨m, fp, r, q⟩ := q
  unfold bnd at q
  cases e1 : f m with
  | no => rw [e1] at q; exact q.elim
  | ex x m' => rw [e1] at q; exact he.run pins s σ H Q I ⟨m, fp, r, by rw [e1]; exact q⟩
  | ok a m1 =>
    rw [e1] at q
    cases a with
    | s i =>
      cases hp : p i with
      | false => exact he.run pins s σ H Q I ⟨m, fp, r, by rw [e1]; simp only [Res.bind, hp, Bool.false_eq_true, if_false] at q; exact q⟩
      | true =>
        simp only [Res.bind, hp, if_true] at q
        refine (sd_frz he).run pins s σ H Q I ⟨m, fp, r, ?_⟩
        unfold frzE bnd
        rw [e1]
        simp only [Res.bind]
        cases e2 : frz (.s i) m1 with
        | no => rw [e2] at q; exact q
        | ex x m' => rw [e2] at q; exact q
        | ok d m2 => rw [e2] at q; exact q
    | d x => exact he.run pins s σ H Q I ⟨m, fp, r, by rw [e1]; exact q⟩
    | nl x => exact he.run pins s σ H Q I ⟨m, fp, r, by rw [e1]; exact q⟩
    | nd x => exact he.run pins s σ H Q I ⟨m, fp, r, by rw [e1]; exact q⟩
    | nr k c a b => exact he.run pins s σ H Q I ⟨m, fp, r, by rw [e1]; exact q⟩
theorem sd_own (he : PE X e (tE xr X.K W f)) : PE X e (tE xr X.K W (ownF f)) := by
  have h := sd_cond (p := fun _ => true) he
  simp only [if_true] at h
  exact h
theorem put_ok {K : PySem.W.Frag} {i : Nat} {D : Ends} {σ : St} {H : Hp} (hi : i ∉ ro) (q : tS xr K W ro σ0 (setS i f) D σ H) : tAsg (tE xr K W (ownF f)) (gName i) D σ H := by
  refine tS_bind0 (Ra := RelR K) q fun fp a m1 v H1 fp1 r1 s1 k ra p => ?_
  have hk : Kept ro σ0 (σ.set i (some v)) := fun j hj => by rw [List.getElem?_set_ne (fun e => hi (by rw [e]; exact hj))]; exact k j hj
  cases a with
  | d x =>
    obtain ⟨fp', r', sb, o⟩ := r1.bind (i := i) (show Fz K H1 v x from ra)
    exact p _ H1 fp' r' (s1.trans sb.step) hk
  | s j => exact p.elim
  | nl xs =>
    obtain ⟨a, ys, rfl, ha, g, n, nf⟩ := ra
    exact p _ H1 _ (r1.own (i := i) (RelM.ol ha g) fun b hb j => by simp only [List.mem_singleton] at hb; subst hb; exact nf j) (own_step s1 (fun b hb => by simp only [List.mem_singleton] at hb; subst hb; exact n) _) hk
  | nd kvs =>
    obtain ⟨a, rfl, ha, n, nf⟩ := ra
    exact p _ H1 _ (r1.own (i := i) (RelM.od ha) fun b hb j => by simp only [List.mem_singleton] at hb; subst hb; exact nf j) (own_step s1 (fun b hb => by simp only [List.mem_singleton] at hb; subst hb; exact n) _) hk
  | nr k c a b =>
    obtain ⟨f, h, nf⟩ := ra
    exact p _ H1 _ (r1.own (i := i) (RelM.rs h) fun b hb => (nf b hb).2) (own_step s1 (fun b hb => (nf b hb).1) _) hk
theorem ss_set {i : Nat} {x : Str} {pos' : Pos} (hN : X.N.Nodup) (hi : X.N[i]? = some x) (hx : Loc X.env.scope x) (he : PE X e (tE xr X.K W f)) (hr : i ∉ ro) (hf : X.fn x = true ∨ X.env.scope.names.lookup x = some .local)
    (hs : swapsWith e (some (.Name x pos')) pos.line X.env = pure false := by rfl) : PS X (.Assign [.Name x pos'] e pos) (tS xr X.K W ro σ0 (setS i f)) :=
  ps_imp (ps_set hN hi hx (sd_own he) hs hf) fun D σ H q => put_ok hr q
theorem own_nl {own : List Nat} {it : Ev (List PyData)} {bt : Tg} {tst : Ev Bool} : ownF (compE own it bt tst f) = compE own it bt tst f := by
  funext m
  unfold ownF compE bnd
  cases it m with
  | no => rfl
  | ex x m' => rfl
  | ok ds m1 =>
    simp only [Res.bind]
    cases compL own bt tst (frzE f) ds [] (wipeM m1 own) <;> rfl
/-- y = [..], on one line, y a local -/
theorem ss_setLc0 {lo : Bool} {i : Nat} {y : Str} {py spos : Pos} {elt tg iter : Expr} {scope : Scope} {own : List (Str × Nat)} {it : Ev (List PyData)} {bt : Tg} {touch : List Nat} (hc : X.calm = true) (hN : X.N.Nodup) (hy : X.N[i]? = some y) (hyl : X.env.scope.names.lookup y = some .local) (hr : i ∉ ro)
    (hsw : swapsWith (.ListComp elt [⟨tg, iter, [], 0⟩] scope pos) (some (.Name y py)) spos.line X.env = pure true) (hi : PI X tg iter (tI lo xr X.K W it)) (ok : BlkOk X.N X.env.scope scope own) (ht : ∀ i ∈ touch, i ∈ own.map (·.2))
    (hg : ∀ (s : Shared) (H : Hp) (C : Addr) (cl : List (Str × Addr)) (fp : List Addr), PG (X.blk s H scope (compEnvC scope cl C X.env) fp) tg (gT lo X.K touch bt))
    (he : ∀ (s : Shared) (H : Hp) (C : Addr) (cl : List (Str × Addr)) (fp : List Addr), PE (X.blk s H scope (compEnvC scope cl C X.env) fp) elt (tE xr X.K wF f)) (hs : ∀ x, foldedSetIterable iter X.env x = pure x := by intro _; rfl) :
    PS X (.Assign [.Name y py] (.ListComp elt [⟨tg, iter, [], 0⟩] scope pos) spos) (tS xr X.K W ro σ0 (setS i (compE (own.map (·.2)) it bt yesT f))) := by
  refine ps_imp (ps_setLc (te := tD xr X.K wF (frzE f)) hc hN hy hyl hsw hi ok hg (fun _ _ _ _ _ => pts_nil) (fun s H C cl fp => sd_frz (X := X.blk s H scope (compEnvC scope cl C X.env) fp) (he s H C cl fp)) hs) fun D σ H q => ?_
  have z := put_ok hr q
  rw [own_nl] at z
  exact lc_ok ht (fun σ H Q ⟨m, fp, r, p⟩ => p true H fp r (.refl _ _) rfl) z
theorem ss_setLc1 {lo : Bool} {i : Nat} {y : Str} {py spos : Pos} {elt tg iter : Expr} {scope : Scope} {own : List (Str × Nat)} {it : Ev (List PyData)} {bt : Tg} {touch : List Nat} (hc : X.calm = true) (hN : X.N.Nodup) (hy : X.N[i]? = some y) (hyl : X.env.scope.names.lookup y = some .local) (hr : i ∉ ro)
    (hsw : swapsWith (.ListComp elt [⟨tg, iter, [c], 0⟩] scope pos) (some (.Name y py)) spos.line X.env = pure true) (hi : PI X tg iter (tI lo xr X.K W it)) (ok : BlkOk X.N X.env.scope scope own) (ht : ∀ i ∈ touch, i ∈ own.map (·.2))
    (hg : ∀ (s : Shared) (H : Hp) (C : Addr) (cl : List (Str × Addr)) (fp : List Addr), PG (X.blk s H scope (compEnvC scope cl C X.env) fp) tg (gT lo X.K touch bt))
    (hq : ∀ (s : Shared) (H : Hp) (C : Addr) (cl : List (Str × Addr)) (fp : List Addr), PT (X.blk s H scope (compEnvC scope cl C X.env) fp) c (tT xr X.K wF fc))
    (he : ∀ (s : Shared) (H : Hp) (C : Addr) (cl : List (Str × Addr)) (fp : List Addr), PE (X.blk s H scope (compEnvC scope cl C X.env) fp) elt (tE xr X.K wF f)) (hs : ∀ x, foldedSetIterable iter X.env x = pure x := by intro _; rfl) :
    PS X (.Assign [.Name y py] (.ListComp elt [⟨tg, iter, [c], 0⟩] scope pos) spos) (tS xr X.K W ro σ0 (setS i (compE (own.map (·.2)) it bt fc f))) := by
  refine ps_imp (ps_setLc (te := tD xr X.K wF (frzE f)) hc hN hy hyl hsw hi ok hg (fun s H C cl fp => pts_one (hq s H C cl fp)) (fun s H C cl fp => sd_frz (X := X.blk s H scope (compEnvC scope cl C X.env) fp) (he s H C cl fp)) hs) fun D σ H q => ?_
  have z := put_ok hr q
  rw [own_nl] at z
  exact lc_ok ht (fun _ _ _ q => q) z
/-- (a, b) = e, and the like -/
theorem ss_setT {tg : Expr} {t : Tg} {touch : List Nat} (he : PE X e (tE xr X.K W f)) (hg : PG X tg (gT false X.K touch t)) (hr : ∀ i ∈ touch, i ∉ ro) (hs : swapsWithSole [tg] e pos.line X.env = pure false := by rfl) (hw : swappedStores [tg] e X.env = pure none := by rfl)
    (h1 : (assignEach [tg] X.env).map (·.2) = [assign tg X.env] := by rfl) : PS X (.Assign [tg] e pos) (tS xr X.K W ro σ0 (setT t f)) := by
  refine ps_imp (ps_asg (sd_frz he) hg hs hw h1) fun D σ H q => tS_bind q fun fp d m1 v H1 fp1 r1 s1 k z p => ?_
  cases e1 : t d m1 with
  | none => simp only [e1] at p; exact p.elim
  | some m' =>
    simp only [e1] at p
    exact ⟨m1, fp1, d, m', r1, .fz z, e1, fun σ' fp' r' sb o => p σ' H1 fp' r' sb.step (k.out o hr)⟩
/-- return e -/
theorem ss_ret (he : PE X e (tE xr X.K W f)) : PS X (.Return (some e) pos) (tS xr X.K W ro σ0 (retS f)) := by
  refine ps_imp (ps_ret (sd_own he)) fun D σ H q => tS_bind0 (Ra := RelR X.K) q fun fp a m1 v H1 fp1 r1 s1 k ra p => ?_
  cases a with
  | d x => exact p v σ H1 fp1 [] r1 s1 k (.fz ra) (fun b hb => by cases hb) fun b hb => by cases hb
  | nl xs =>
    obtain ⟨a, ys, rfl, ha, g, n, nf⟩ := ra
    exact p _ σ H1 fp1 _ r1 s1 k (.ol ha g) (fun b hb j => by simp only [List.mem_singleton] at hb; subst hb; exact nf j) fun b hb => .inl (by simp only [List.mem_singleton] at hb; subst hb; exact n)
  | nd kvs =>
    obtain ⟨a, rfl, ha, n, nf⟩ := ra
    exact p _ σ H1 fp1 _ r1 s1 k (.od ha) (fun b hb j => by simp only [List.mem_singleton] at hb; subst hb; exact nf j) fun b hb => .inl (by simp only [List.mem_singleton] at hb; subst hb; exact n)
  | nr c cs a b =>
    obtain ⟨f, h, nf⟩ := ra
    exact p _ σ H1 fp1 _ r1 s1 k (.rs h) (fun b hb => (nf b hb).2) fun b hb => .inl (nf b hb).1
  | s i => exact p.elim
/-- a local's own dict is handed back: in a def that was handed data alone (99 stands in ro) -/
def retO (i : Nat) : Sf := fun m => match m[i]? with
  | some (some (.od kvs)) => .ok (.rt (.od kvs)) (m.set i none)
  | _ => .no
theorem ss_retO (i : Nat) (h99 : 99 ∈ ro) (he : PE X e (tE xr X.K W (slotE i))) : PS X (.Return (some e) pos) (tS xr X.K W ro σ0 (retO i)) := by
  refine ps_imp (ps_ret he) fun D σ H q => ?_
  obtain ⟨m, fp, r, k, p⟩ := q
  unfold retO at p
  split at p
  · rename_i kvs e
    refine ⟨m, fp, r, ?_⟩
    unfold slotE
    rw [e]
    intro v H1 fp1 r1 s1 rr
    have rr : σ[i]? = some (some v) := rr
    obtain ⟨w, e1, rm⟩ := r1.at_ i _ e
    rw [rr] at e1
    cases e1
    have hl : i < m.length := (List.getElem?_eq_some_iff.mp e).1
    refine p v σ H1 (fun j => if j = i then [] else fp1 j) (fp1 i) ?_ ?_ k rm ?_ ?_
    · refine ⟨fun j mv ej => ?_, fun j h => ?_, fun j l b hj hl => ?_, by rw [List.length_set]; exact r1.len⟩
      · rw [List.getElem?_set] at ej
        by_cases hji : i = j
        · rw [if_pos hji] at ej
          subst hji
          rw [if_pos hl] at ej
          cases ej
        · rw [if_neg hji] at ej
          obtain ⟨w, e2, q⟩ := r1.at_ j mv ej
          exact ⟨w, e2, by show RelM X.K H1 mv w (if j = i then [] else fp1 j); rw [if_neg fun z => hji z.symm]; exact q⟩
      · show (if j = i then [] else fp1 j) = []
        by_cases hji : j = i
        · rw [if_pos hji]
        · rw [if_neg hji]
          refine r1.emp j fun mv ej => h mv ?_
          rw [List.getElem?_set, if_neg fun z => hji z.symm]
          exact ej
      · have hj : b ∈ (if j = i then [] else fp1 j) := hj
        have hl : b ∈ (if l = i then [] else fp1 l) := hl
        split at hj
        · cases hj
        · split at hl
          · cases hl
          · exact r1.dis j l b hj hl
    · refine ⟨fun j b hb => ?_, s1.keep, s1.trk⟩
      have hb : b ∈ (if j = i then [] else fp1 j) := hb
      split at hb
      · cases hb
      · exact s1.own j b hb
    · intro b hb j hj
      have hj : b ∈ (if j = i then [] else fp1 j) := hj
      split at hj
      · cases hj
      · rename_i hji
        exact hji (r1.dis j i b hj hb)
    · intro b hb
      rcases s1.own i b hb with ⟨j, hj⟩ | z
      · exact .inr ⟨h99, j, hj⟩
      · exact .inl z
  · exact p.elim
theorem ss_retN : PS X (.Return none pos) (tS xr X.K W ro σ0 (fun m => .ok (.rt (.fz .none)) m)) :=
  ps_imp ps_retN fun D σ H ⟨m, fp, r, k, p⟩ => p .non σ H fp [] r (.refl _ _) k (.fz .non) (fun b hb => by cases hb) fun b hb => by cases hb
/-! ### loops -/
theorem ss_for {lo : Bool} {tg iter : Expr} {body : List Stmt} {it : Ev (List PyData)} {bt : Tg} {touch : List Nat} (hp : PassesOwn (model X.prog X.w) X.A X.env X.xe) (hc : X.calm = true) (hi : PI X tg iter (tI lo xr X.K W it)) (hg : PG X tg (gT lo X.K touch bt)) (hr : ∀ i ∈ touch, i ∉ ro) (hb : PSs X body (tS xr X.K W ro σ0 g))
    (hs : ∀ x, foldedSetIterable iter X.env x = pure x := by intro _; rfl) : PS X (.For tg iter body [] pos) (tS xr X.K W ro σ0 (forS it bt g)) := by
  refine ps_imp (ps_for hp hc hi hg hb hs) fun D σ H q => tS_bind (Ra := RelI lo X.K) q fun fp ds m1 J H1 fp1 r1 s1 k w p => ?_
  have w : WalkD lo X.K J ds H1 := w
  refine ⟨fun i n σ2 H2 => ∃ m2 fp2, i + n = ds.length ∧ RelS X.K H2 m2 σ2 fp2 ∧ Step fp1 fp2 H1 H2 ∧ Kept ro σ0 σ2 ∧ PostS xr X.K W ro σ0 D H1 fp1 (forL bt g (ds.drop i) m2), ⟨ds.length, m1, fp1, by omega, r1, .refl _ _, k, by simpa using p⟩, ?_⟩
  rintro i n σ2 H2 ⟨m2, fp2, hn, r2, s2, k2, p2⟩
  have k12 : Keep H1 H2 := r1.keepOf s2
  by_cases hlt : i < ds.length
  · refine .inr ⟨w.goes i H2 k12 hlt, fun σ3 H3 => ∃ m3 fp3, RelS X.K H3 m3 σ3 fp3 ∧ Step fp1 fp3 H1 H3 ∧ Kept ro σ0 σ3 ∧ PostS xr X.K W ro σ0 D H1 fp1 (forL bt g (ds.drop (i + 1)) m3), ?_, ?_⟩
    · rintro σ3 H3 ⟨m3, fp3, h1, h2, h3, h4⟩
      exact ⟨n - 1, by omega, m3, fp3, by omega, h1, h2, h3, h4⟩
    · intro x H3 hy
      obtain ⟨sm, d, ed, z⟩ := w.yields i H2 x H3 k12 hlt hy
      have ed2 : ds.drop i = d :: ds.drop (i + 1) := by
        obtain ⟨h1, h2⟩ := List.getElem?_eq_some_iff.mp ed
        rw [← h2]; exact List.drop_eq_getElem_cons h1
      rw [ed2] at p2
      unfold forL at p2
      cases eb : bt d m2 with
      | none => rw [eb] at p2; exact p2.elim
      | some m3 =>
        rw [eb] at p2
        refine ⟨m2, fp2, d, m3, r2.same sm, z, eb, fun σ3 fp3 r3 sb3 o3 => ⟨m3, fp3, r3, k2.out o3 hr, ?_⟩⟩
        have s3 : Step fp1 fp3 H1 H3 := (s2.trans (.same sm)).trans sb3.step
        have p3 : PostS xr X.K W ro σ0 D H3 fp3 ((g m3).bind fun o m2 => match o with
          | .nx => forL bt g (ds.drop (i + 1)) m2
          | .ct => forL bt g (ds.drop (i + 1)) m2
          | .bk => .ok .nx m2
          | .rt v => .ok (.rt v) m2) := PostS.from p2 s3
        cases eg : g m3 with
        | no => rw [eg] at p3; exact p3
        | ex x m' => rw [eg] at p3; exact p3
        | ok o m4 =>
          simp only [eg, Res.bind] at p3 p2
          cases o with
          | nx => exact fun σ' H' fp' rs st k => ⟨m4, fp', rs, s3.trans st, k, p2⟩
          | ct => exact fun σ' H' fp' rs st k => ⟨m4, fp', rs, s3.trans st, k, p2⟩
          | bk => exact p3
          | rt v => exact p3
  · have ei : i = ds.length := by omega
    subst ei
    refine .inl ⟨w.stops H2 k12, ?_⟩
    rw [List.drop_length] at p2
    exact p2 σ2 H2 fp2 r2 s2 k2
theorem ss_while {n : Nat} {body : List Stmt} (hp : PassesOwn (model X.prog X.w) X.A X.env X.xe) (hc : PT X c (tT xr X.K W fc)) (hb : PSs X body (tS xr X.K W ro σ0 g)) : PS X (.While c body [] pos) (tS xr X.K W ro σ0 (whileS fc g n)) := by
  refine ps_imp (ps_while hp hc hb) fun D σ H ⟨m, fp, r, k, p⟩ => ?_
  refine ⟨fun n σ2 H2 => ∃ m2 fp2, RelS X.K H2 m2 σ2 fp2 ∧ Kept ro σ0 σ2 ∧ PostS xr X.K W ro σ0 D H2 fp2 (whileS fc g n m2), ⟨n, m, fp, r, k, p⟩, ?_⟩
  rintro n σ2 H2 ⟨m2, fp2, r2, k2, p2⟩
  cases n with
  | zero => exact p2.elim
  | succ n =>
    refine tS_bind (Ra := RelB) (D := D) (ro := ro) (σ0 := σ0) ⟨m2, fp2, r2, k2, p2⟩ fun fp x m1 v H1 fp1 r1 s1 k ra p => ?_
    cases (show x = v from ra)
    cases x with
    | false => exact iteF (p σ2 H1 fp1 r1 (.refl _ _) k)
    | true =>
      refine iteT ⟨fun σ3 H3 => ∃ m3 fp3, RelS X.K H3 m3 σ3 fp3 ∧ Kept ro σ0 σ3 ∧ PostS xr X.K W ro σ0 D H3 fp3 (whileS fc g n m3), ?_, m1, fp1, r1, k, ?_⟩
      · rintro σ3 H3 ⟨m3, fp3, h1, h2, h3⟩
        exact ⟨n, Nat.lt_succ_self n, m3, fp3, h1, h2, h3⟩
      · simp only [if_true] at p
        cases eg : g m1 with
        | no => rw [eg] at p; exact p
        | ex x m' => rw [eg] at p; exact p
        | ok o m4 =>
          simp only [eg, Res.bind] at p
          cases o with
          | nx => exact fun σ' H' fp' rs st k => ⟨m4, fp', rs, k, PostS.from p st⟩
          | ct => exact fun σ' H' fp' rs st k => ⟨m4, fp', rs, k, PostS.from p st⟩
          | bk => exact p
          | rt v => exact p
end
end PyE

/-! PyE: defs and their calls -/
namespace PyE
open PySem PySem.Spec PyProof.Rows
open L2

/-- a def, over what its parameters hold: what it hands back, what they hold then -/
abbrev Fm := List Mv → Res Mv
/-- its promise -/
def spOf (xr : XR) (K : PySem.W.Frag) (np : Nat) (m : Fm) : Sp := fun vs H Q E => vs.length = np ∧ ∃ ms fp, RelS K H (ms.map some) (vs.map some) fp ∧ match m ms with
  | .ok r m' => ∀ v H' fp' fr, RelS K H' m' (vs.map some) fp' → RelM K H' r v fr → (∀ b ∈ fr, ∀ i, b ∉ fp' i) → (∀ b ∈ fr, H b = none) → Step fp fp' H H' → Q v H'
  | .ex e m' => ∀ c d H' fp', RelS K H' m' (vs.map some) fp' → Step fp fp' H H' → xr K H' e c d → E c d H'
  | .no => False
/-- a def keeps its promise, called where no repr is under way -/
structure FnG (P : Program) (w : World) (K : PySem.W.Frag) (mg : Str → Option Value) (base : Heap) (k : Nat) (f : Addr) (fd : FuncData) (ps : List Str) (sp : Sp) : Prop where
  len : ∀ {vs : List V} {H : Hp} {Q : VK} {E : XK}, sp vs H Q E → vs.length = ps.length
  run : ∀ {A : Around} {outer : List Env} {s : Shared} {H : Hp} {args : Args} {us : List Value} {vs : List V} {Q : VK} {E : XK}, Room k A → A.guards = some [] → Env0 P w K mg base A outer s H → BindsTo s fd args (ps.zip us) →
    Vals vs us → sp vs H Q E → codeAny (model P w) A (.call (.ref f) args) (CR (L2.CX P w) outer P w H s Q E) s
theorem FnG.mono {P : Program} {w : World} {K : PySem.W.Frag} {mg : Str → Option Value} {base : Heap} {j k : Nat} {f : Addr} {fd : FuncData} {ps : List Str} {sp : Sp} (F : FnG P w K mg base j f fd ps sp) (h : j ≤ k) : FnG P w K mg base k f fd ps sp :=
  ⟨F.len, fun hr => F.run (hr.mono h)⟩
theorem FnG.imp {P : Program} {w : World} {K : PySem.W.Frag} {mg : Str → Option Value} {base : Heap} {k : Nat} {f : Addr} {fd : FuncData} {ps : List Str} {sp sp' : Sp} (F : FnG P w K mg base k f fd ps sp) (h : ∀ vs H Q E, sp' vs H Q E → sp vs H Q E) : FnG P w K mg base k f fd ps sp' :=
  ⟨fun q => F.len (h _ _ _ _ q), fun hr hg he hb hv hs => F.run hr hg he hb hv (h _ _ _ _ hs)⟩

/-! ### handing over, taking back -/
def passM (m : Sm) : List Rv → Option (List Mv)
  | [] => some []
  | r :: rs => match r with
    | .d x => (passM m rs).map (.fz x :: ·)
    | .s i => match m[i]? with
      | some (some mv) => (passM m rs).map (mv :: ·)
      | _ => none
    | _ => none
def slotsOf : List Rv → List Nat
  | [] => []
  | .s i :: rs => i :: slotsOf rs
  | _ :: rs => slotsOf rs
def distinct : List Nat → Bool
  | [] => true
  | i :: is => !(is.contains i) && distinct is
def backM : List Rv → Sm → Sm → Sm
  | .s i :: rs, o :: os, m => backM rs os (m.set i o)
  | _ :: rs, _ :: os, m => backM rs os m
  | _, _, m => m
def mvR : Mv → Rv
  | .fz d => .d d
  | .ol xs => .nl xs
  | .od kvs => .nd kvs
  | .rs k c a b => .nr k c a b
def callM (f : Fm) (rs : List Rv) : Ev Rv := fun m => if distinct (slotsOf rs) = true then match passM m rs with
    | some ms => match f ms with
      | .ok r m' => .ok (mvR r) (backM rs m' m)
      | .ex e m' => .ex e (backM rs m' m)
      | .no => .no
    | none => .no
  else .no
/-- a new list that is handed over is frozen -/
def passF (f : Ev Rv) : Ev Rv := bnd f fun r m => match r with
  | .nl xs => .ok (.d (.list xs)) m
  | r => .ok r m
def argsP : List (Ev Rv) → Ev (List Rv)
  | [] => fun m => .ok [] m
  | f :: fs => bnd (passF f) fun r => bnd (argsP fs) fun rs m => .ok (r :: rs) m
def callE (f : Fm) (fs : List (Ev Rv)) : Ev Rv := bnd (argsP fs) (callM f)

section
variable {xr : XR} {K : PySem.W.Frag} {W : WX} {H H0 : Hp} {m : Sm} {σ : St} {fp : Fp}
theorem passM_len : ∀ {rs : List Rv} {ms : List Mv}, passM m rs = some ms → ms.length = rs.length
  | [], _, e => by cases e; rfl
  | r :: rs, ms, e => by
    unfold passM at e
    cases r with
    | d x =>
      cases q : passM m rs with
      | none => simp only [q] at e; cases e
      | some ns => simp only [q] at e; cases e; exact congrArg (· + 1) (passM_len q)
    | s i =>
      cases q1 : m[i]? with
      | none => simp only [q1] at e; cases e
      | some o =>
        cases o with
        | none => simp only [q1] at e; cases e
        | some mv =>
          cases q : passM m rs with
          | none => simp only [q1, q] at e; cases e
          | some ns => simp only [q1, q] at e; cases e; exact congrArg (· + 1) (passM_len q)
    | _ => cases e
/-- the footprint of what is handed over, by the argument's place -/
def fpOf (fp : Fp) (rs : List Rv) : Fp := fun j => match rs[j]? with
  | some (.s i) => fp i
  | _ => []
theorem passM_at (r : RelS K H m σ fp) : ∀ {rs : List Rv} {vs : List V} {ms : List Mv}, RelRs K H0 H σ fp rs vs → passM m rs = some ms → ∀ j mv, ms[j]? = some mv → ∃ v, vs[j]? = some v ∧ RelM K H mv v (fpOf fp rs j)
  | [], [], _, _, e, j, mv, h => by cases e; simp at h
  | x :: rs, v :: vs, ms, ⟨rx, rr⟩, e, j, mv, h => by
    unfold passM at e
    cases x with
    | d x =>
      cases q : passM m rs with
      | none => simp only [q] at e; cases e
      | some ns =>
        simp only [q] at e; cases e
        cases j with
        | zero => simp at h; subst h; exact ⟨v, rfl, .fz rx⟩
        | succ j =>
          obtain ⟨w, e1, q1⟩ := passM_at r rr q j mv (by simpa using h)
          exact ⟨w, by simpa using e1, by simpa [fpOf] using q1⟩
    | s i =>
      cases q1 : m[i]? with
      | none => simp only [q1] at e; cases e
      | some o =>
        cases o with
        | none => simp only [q1] at e; cases e
        | some mv' =>
          cases q : passM m rs with
          | none => simp only [q1, q] at e; cases e
          | some ns =>
            simp only [q1, q] at e; cases e
            cases j with
            | zero =>
              simp at h; subst h
              obtain ⟨w, e1, rm⟩ := r.at_ i mv' q1
              have rx : σ[i]? = some (some v) := rx
              rw [rx] at e1; cases e1
              exact ⟨v, rfl, rm⟩
            | succ j =>
              obtain ⟨w, e1, q1⟩ := passM_at r rr q j mv (by simpa using h)
              exact ⟨w, by simpa using e1, by simpa [fpOf] using q1⟩
    | _ => cases e
theorem slots_mem {i : Nat} : ∀ {rs : List Rv} {j : Nat}, rs[j]? = some (.s i) → i ∈ slotsOf rs
  | [], j, h => by simp at h
  | r :: rs, 0, h => by
    simp at h; subst h
    exact List.mem_cons_self
  | r :: rs, j + 1, h => by
    have q := slots_mem (i := i) (rs := rs) (j := j) (by simpa using h)
    cases r <;> first | exact q | exact List.mem_cons_of_mem _ q
theorem of_slots {i : Nat} : ∀ {rs : List Rv}, i ∈ slotsOf rs → ∃ j : Nat, rs[j]? = some (Rv.s i)
  | [], h => by cases h
  | r :: rs, h => by
    cases r with
    | s k =>
      rcases List.mem_cons.mp h with e | h
      · exact ⟨0, by rw [e]; rfl⟩
      · obtain ⟨j, q⟩ := of_slots h; exact ⟨j + 1, by simpa using q⟩
    | _ => (obtain ⟨j, q⟩ := of_slots (rs := rs) h; exact ⟨j + 1, by simpa using q⟩)
theorem distinct_inj {i : Nat} : ∀ {rs : List Rv} {j l : Nat}, distinct (slotsOf rs) = true → rs[j]? = some (.s i) → rs[l]? = some (.s i) → j = l
  | [], j, l, _, h, _ => by simp at h
  | r :: rs, j, l, d, h1, h2 => by
    have dt : distinct (slotsOf rs) = true := by
      cases r with
      | s k => exact (Bool.and_eq_true_iff.mp d).2
      | _ => exact d
    cases j with
    | zero =>
      simp at h1; subst h1
      cases l with
      | zero => rfl
      | succ l =>
        have q := slots_mem (i := i) (rs := rs) (j := l) (by simpa using h2)
        have z := (Bool.and_eq_true_iff.mp d).1
        simp only [Bool.not_eq_true', List.contains_eq_mem, decide_eq_false_iff_not] at z
        exact absurd q z
    | succ j =>
      cases l with
      | zero =>
        simp at h2; subst h2
        have q := slots_mem (i := i) (rs := rs) (j := j) (by simpa using h1)
        have z := (Bool.and_eq_true_iff.mp d).1
        simp only [Bool.not_eq_true', List.contains_eq_mem, decide_eq_false_iff_not] at z
        exact absurd q z
      | succ l => exact congrArg (· + 1) (distinct_inj dt (by simpa using h1) (by simpa using h2))
theorem pass_ok {rs : List Rv} {vs : List V} {ms : List Mv} (r : RelS K H m σ fp) (rr : RelRs K H0 H σ fp rs vs) (e : passM m rs = some ms) (d : distinct (slotsOf rs) = true) : RelS K H (ms.map some) (vs.map some) (fpOf fp rs) := by
  have hl := passM_len e
  have hr := rr.length
  refine ⟨fun j mv h => ?_, fun j h => ?_, fun i j b hb hc => ?_, by simp; omega⟩
  · rw [List.getElem?_map] at h
    cases q : ms[j]? with
    | none => rw [q] at h; cases h
    | some mv' =>
      rw [q] at h; cases h
      obtain ⟨v, e1, q1⟩ := passM_at r rr e j mv q
      exact ⟨v, by rw [List.getElem?_map, e1]; rfl, q1⟩
  · unfold fpOf
    by_cases hj : j < rs.length
    · exfalso
      obtain ⟨mv, q⟩ : ∃ mv, ms[j]? = some mv := ⟨ms[j]'(by omega), by simp⟩
      exact h mv (by rw [List.getElem?_map, q]; rfl)
    · rw [List.getElem?_eq_none (by omega)]
  · unfold fpOf at hb hc
    cases q1 : rs[i]? with
    | none => rw [q1] at hb; cases hb
    | some x =>
      cases q2 : rs[j]? with
      | none => rw [q2] at hc; cases hc
      | some y =>
        rw [q1] at hb; rw [q2] at hc
        cases x with
        | s a =>
          cases y with
          | s b' =>
            have z := r.dis a b' b hb hc
            subst z
            exact distinct_inj d q1 q2
          | _ => cases hc
        | _ => cases hb
/-- the slots behind a call: what was handed over holds what the call made of it -/
theorem backM_length : ∀ (rs : List Rv) (os m : Sm), (backM rs os m).length = m.length
  | [], _, _ => by unfold backM; rfl
  | .s i :: rs, [], m => by unfold backM; rfl
  | .s i :: rs, o :: os, m => by unfold backM; rw [backM_length rs os, List.length_set]
  | .d _ :: rs, [], m => by unfold backM; rfl
  | .nl _ :: rs, [], m => by unfold backM; rfl
  | .nd _ :: rs, [], m => by unfold backM; rfl
  | .nr _ _ _ _ :: rs, [], m => by unfold backM; rfl
  | .d _ :: rs, o :: os, m => by unfold backM; exact backM_length rs os m
  | .nl _ :: rs, o :: os, m => by unfold backM; exact backM_length rs os m
  | .nd _ :: rs, o :: os, m => by unfold backM; exact backM_length rs os m
  | .nr _ _ _ _ :: rs, o :: os, m => by unfold backM; exact backM_length rs os m
theorem backM_other {i : Nat} : ∀ {rs : List Rv} {os m : Sm}, i ∉ slotsOf rs → (backM rs os m)[i]? = m[i]?
  | [], _, _, _ => by unfold backM; rfl
  | r :: rs, [], m, h => by cases r <;> (unfold backM; rfl)
  | .s k :: rs, o :: os, m, h => by
    unfold backM
    have h1 : i ≠ k := fun e => h (by rw [e]; exact List.mem_cons_self)
    have h2 : i ∉ slotsOf rs := fun e => h (List.mem_cons_of_mem _ e)
    rw [backM_other h2, List.getElem?_set_ne (Ne.symm h1)]
  | .d _ :: rs, o :: os, m, h => by unfold backM; exact backM_other (rs := rs) h
  | .nl _ :: rs, o :: os, m, h => by unfold backM; exact backM_other (rs := rs) h
  | .nd _ :: rs, o :: os, m, h => by unfold backM; exact backM_other (rs := rs) h
  | .nr _ _ _ _ :: rs, o :: os, m, h => by unfold backM; exact backM_other (rs := rs) h
theorem backM_at {i : Nat} : ∀ {rs : List Rv} {os m : Sm} {j : Nat} {o : Option Mv}, distinct (slotsOf rs) = true → i < m.length → rs[j]? = some (.s i) → os[j]? = some o → (backM rs os m)[i]? = some o
  | [], _, _, j, _, _, _, h, _ => by simp at h
  | r :: rs, [], m, j, _, _, _, _, h => by simp at h
  | r :: rs, o' :: os, m, 0, o, d, hi, h, e => by
    simp at h e; subst h; subst e
    unfold backM
    have z := (Bool.and_eq_true_iff.mp d).1
    simp only [Bool.not_eq_true', List.contains_eq_mem, decide_eq_false_iff_not] at z
    rw [backM_other z, List.getElem?_set_self hi]
  | .s k :: rs, o' :: os, m, j + 1, o, d, hi, h, e => by
    unfold backM
    exact backM_at (Bool.and_eq_true_iff.mp d).2 (by rw [List.length_set]; exact hi) (by simpa using h) (by simpa using e)
  | .d _ :: rs, o' :: os, m, j + 1, o, d, hi, h, e => by unfold backM; exact backM_at (rs := rs) d hi (by simpa using h) (by simpa using e)
  | .nl _ :: rs, o' :: os, m, j + 1, o, d, hi, h, e => by unfold backM; exact backM_at (rs := rs) d hi (by simpa using h) (by simpa using e)
  | .nd _ :: rs, o' :: os, m, j + 1, o, d, hi, h, e => by unfold backM; exact backM_at (rs := rs) d hi (by simpa using h) (by simpa using e)
  | .nr _ _ _ _ :: rs, o' :: os, m, j + 1, o, d, hi, h, e => by unfold backM; exact backM_at (rs := rs) d hi (by simpa using h) (by simpa using e)
theorem relRs_at : ∀ {rs : List Rv} {vs : List V} {j : Nat} {i : Nat}, RelRs K H0 H σ fp rs vs → rs[j]? = some (.s i) → ∃ v, vs[j]? = some v ∧ σ[i]? = some (some v)
  | [], [], j, _, _, h => by simp at h
  | r :: rs, v :: vs, 0, i, ⟨h1, _⟩, h => by simp at h; subst h; exact ⟨v, rfl, h1⟩
  | r :: rs, v :: vs, j + 1, i, ⟨_, h2⟩, h => by
    obtain ⟨w, e, q⟩ := relRs_at (j := j) h2 (by simpa using h)
    exact ⟨w, by simpa using e, q⟩
/-- which of the values is slot i -/
def placeOf (i : Nat) : List Rv → Option Nat
  | [] => none
  | .s k :: rs => if k = i then some 0 else (placeOf i rs).map (· + 1)
  | _ :: rs => (placeOf i rs).map (· + 1)
theorem placeOf_some {i : Nat} : ∀ {rs : List Rv} {j : Nat}, placeOf i rs = some j → rs[j]? = some (.s i)
  | [], _, e => by cases e
  | r :: rs, j, e => by
    have tl : (placeOf i rs).map (· + 1) = some j → (r :: rs)[j]? = some (.s i) := fun e => by
      cases q : placeOf i rs with
      | none => rw [q] at e; cases e
      | some l => rw [q] at e; cases e; simpa using placeOf_some q
    cases r with
    | s k =>
      unfold placeOf at e
      by_cases h : k = i
      · rw [if_pos h] at e; cases e; rw [h]; rfl
      · rw [if_neg h] at e; exact tl e
    | _ => exact tl e
theorem placeOf_none {i : Nat} : ∀ {rs : List Rv}, placeOf i rs = none → i ∉ slotsOf rs
  | [], _, h => by cases h
  | r :: rs, e, h => by
    have tl : (placeOf i rs).map (· + 1) = none → i ∉ slotsOf rs := fun e => placeOf_none (by simpa using e)
    cases r with
    | s k =>
      unfold placeOf at e
      by_cases hk : k = i
      · rw [if_pos hk] at e; cases e
      · rw [if_neg hk] at e
        rcases List.mem_cons.mp h with z | z
        · exact hk z.symm
        · exact tl e z
    | _ => exact tl e h
theorem back_ok {H1 : Hp} {rs : List Rv} {vs : List V} {m' : Sm} {fp' : Fp} (r : RelS K H m σ fp) (rr : RelRs K H0 H σ fp rs vs) (d : distinct (slotsOf rs) = true) (r' : RelS K H1 m' (vs.map some) fp') (s : Step (fpOf fp rs) fp' H H1) :
    ∃ fp2, RelS K H1 (backM rs m' m) σ fp2 ∧ Step fp fp2 H H1 ∧ ∀ b, (∀ i, b ∉ fp' i) → H b = none → ∀ i, b ∉ fp2 i := by
  have nin : ∀ {i : Nat} {b : Addr}, i ∉ slotsOf rs → b ∈ fp i → ∀ j, b ∉ fpOf fp rs j := fun {i b} hi hb j hj => by
    unfold fpOf at hj
    cases q : rs[j]? with
    | none => rw [q] at hj; cases hj
    | some x =>
      rw [q] at hj
      cases x with
      | s k => exact hi (by rw [r.dis i k b hb hj]; exact slots_mem q)
      | _ => cases hj
  have sub : ∀ {j : Nat} {b : Addr}, b ∈ fpOf fp rs j → ∃ i, b ∈ fp i := fun {j b} hj => by
    unfold fpOf at hj
    cases q : rs[j]? with
    | none => rw [q] at hj; cases hj
    | some x =>
      rw [q] at hj
      cases x with
      | s k => exact ⟨k, hj⟩
      | _ => cases hj
  have k01 : Keep H H1 := fun b u e n => s.keep b u e fun j hj => by
    obtain ⟨i, hi⟩ := sub hj
    have := r.mut hi; rw [e] at this; exact n this
  have hl : ∀ {i j : Nat}, rs[j]? = some (.s i) → i < m.length := fun {i j} h => by
    obtain ⟨v, _, q⟩ := relRs_at rr h
    rw [r.len]; exact nth_lt q
  have lm : m'.length = rs.length := by
    have h1 := r'.len
    rw [List.length_map] at h1
    rw [h1, rr.length]
  refine ⟨fun i => match placeOf i rs with | some j => fp' j | none => fp i, ⟨fun i mv e => ?_, fun i h => ?_, fun i j b hb hc => ?_, by rw [backM_length]; exact r.len⟩, ⟨fun i b hb => ?_, fun b o e n => s.keep b o e fun j hj => ?_, s.trk⟩, fun b h1 h2 i hi => ?_⟩
  · cases q : placeOf i rs with
    | none =>
      rw [backM_other (placeOf_none q)] at e
      obtain ⟨v, e1, rm⟩ := r.at_ i mv e
      refine ⟨v, e1, rm.keep k01 fun b hb => ?_⟩
      cases e2 : H b with
      | none => exact absurd e2 (r.some_ hb)
      | some o => exact s.keep b o e2 (nin (placeOf_none q) hb)
    | some j =>
      have hj := placeOf_some q
      obtain ⟨o, ho⟩ : ∃ o, m'[j]? = some o := ⟨m'[j]'(by rw [lm]; exact nth_lt hj), by simp⟩
      rw [backM_at d (hl hj) hj ho] at e
      cases e
      obtain ⟨v, e1, rm⟩ := r'.at_ j mv ho
      obtain ⟨u, e2, e3⟩ := relRs_at rr hj
      rw [List.getElem?_map, e2] at e1
      have e4 : u = v := Option.some.inj (Option.some.inj e1)
      exact ⟨v, by rw [← e4]; exact e3, rm⟩
  · cases q : placeOf i rs with
    | none => exact r.emp i fun mv e => h mv (by rw [backM_other (placeOf_none q)]; exact e)
    | some j =>
      have hj := placeOf_some q
      exact r'.emp j fun mv e => h mv (backM_at d (hl hj) hj e)
  · have own2 : ∀ {i j l : Nat} {b : Addr}, placeOf i rs = none → placeOf l rs = some j → b ∈ fp i → b ∈ fp' j → False := fun {i j l b} h1 h2 hb hc => by
      rcases s.own j b hc with ⟨k, hk⟩ | hk
      · exact nin (placeOf_none h1) hb k hk
      · exact r.some_ hb hk
    cases q1 : placeOf i rs with
    | none =>
      cases q2 : placeOf j rs with
      | none => simp only [q1] at hb; simp only [q2] at hc; exact r.dis i j b hb hc
      | some l => simp only [q1] at hb; simp only [q2] at hc; exact (own2 q1 q2 hb hc).elim
    | some l =>
      cases q2 : placeOf j rs with
      | none => simp only [q1] at hb; simp only [q2] at hc; exact (own2 q2 q1 hc hb).elim
      | some l2 =>
        simp only [q1] at hb; simp only [q2] at hc
        have z := r'.dis l l2 b hb hc
        subst z
        have e1 := placeOf_some q1
        have e2 := placeOf_some q2
        rw [e1] at e2; cases e2; rfl
  · cases q : placeOf i rs with
    | none => simp only [q] at hb; exact .inl ⟨i, hb⟩
    | some j =>
      simp only [q] at hb
      rcases s.own j b hb with ⟨l, z⟩ | z
      · exact .inl (sub z)
      · exact .inr z
  · obtain ⟨i, hi⟩ := sub hj
    exact n i hi
  · cases q : placeOf i rs with
    | none => simp only [q] at hi; exact r.some_ hi h2
    | some j => simp only [q] at hi; exact h1 j hi
theorem mvR_ok {mv : Mv} {v : V} {fr : List Addr} {fp2 : Fp} {H1 : Hp} (rm : RelM K H1 mv v fr) (h1 : ∀ b ∈ fr, H b = none) (h2 : ∀ b ∈ fr, ∀ i, b ∉ fp2 i) : RelR K H H1 σ fp2 (mvR mv) v := by
  cases rm with
  | fz h => exact h
  | ol h g => exact ⟨_, _, rfl, h, g, h1 _ (by simp), h2 _ (by simp)⟩
  | od h => exact ⟨_, rfl, h, h1 _ (by simp), h2 _ (by simp)⟩
  | rs h => exact ⟨_, h, fun b hb => ⟨h1 b hb, h2 b hb⟩⟩
/-- what a call asks, by the values that are handed over -/
theorem call_ok {f : Fm} {np : Nat} {rs : List Rv} {vs : List V} {Q : VK} (hn : ∀ ms, ms.length ≠ np → f ms = .no) (r : RelS K H m σ fp) (rr : RelRs K H0 H σ fp rs vs) (p : Post xr K W (RelR K) σ H fp Q (callM f rs m)) : spOf xr K np f vs H Q (fun c d H' => W c d σ H') := by
  unfold callM at p
  split at p
  · rename_i d
    cases e : passM m rs with
    | none => rw [e] at p; exact p.elim
    | some ms =>
      rw [e] at p
      have hl : vs.length = np := by
        rw [← rr.length, ← passM_len e]
        by_cases h : ms.length = np
        · exact h
        · simp only [hn ms h] at p; exact p.elim
      refine ⟨hl, ms, fpOf fp rs, pass_ok r rr e d, ?_⟩
      cases ef : f ms with
      | no => simp only [ef] at p; exact p.elim
      | ex x m' =>
        simp only [ef] at p ⊢
        intro c dd H1 fp' r' s' x'
        obtain ⟨fp2, r2, s2, _⟩ := back_ok r rr d r' s'
        exact p c dd H1 fp2 r2 s2 x'
      | ok mv m' =>
        simp only [ef] at p ⊢
        intro v H1 fp' fr r' rm nf fn s'
        obtain ⟨fp2, r2, s2, n2⟩ := back_ok r rr d r' s'
        exact p v H1 fp2 r2 s2 (mvR_ok rm fn fun b hb => n2 b (nf b hb) (fn b hb))
  · exact p.elim
end
end PyE

/-! PyE: call expressions, bodies, the law's end -/
namespace PyE
open PySem PySem.Spec PyProof.Rows
open L2

section
variable {xr : XR} {W : WX} {X : Cx} {e : Expr} {es : List Expr} {f : Ev Rv} {fs gs : List (Ev Rv)} {pos p : Pos} {x : Str} {k np : Nat} {a : Addr} {fd : FuncData} {ps : List Str} {fm : Fm}
theorem sd_pass (he : PE X e (tE xr X.K W f)) : PE X e (tE xr X.K W (passF f)) := by
  refine ⟨fun pins s σ H Q I q => ?_⟩
  obtain ⟨m, fp, r, p⟩ := q
  unfold passF bnd at p
  cases e1 : f m with
  | no => rw [e1] at p; exact p.elim
  | ex x m' => rw [e1] at p; exact he.run pins s σ H Q I ⟨m, fp, r, by rw [e1]; exact p⟩
  | ok b m1 =>
    rw [e1] at p
    cases b with
    | nl xs =>
      refine (sd_frz he).run pins s σ H Q I ⟨m, fp, r, ?_⟩
      unfold frzE bnd
      rw [e1]
      exact p
    | d y => exact he.run pins s σ H Q I ⟨m, fp, r, by rw [e1]; exact p⟩
    | s y => exact he.run pins s σ H Q I ⟨m, fp, r, by rw [e1]; exact p⟩
    | nd y => exact he.run pins s σ H Q I ⟨m, fp, r, by rw [e1]; exact p⟩
    | nr c y z w => exact he.run pins s σ H Q I ⟨m, fp, r, by rw [e1]; exact p⟩
theorem sap_nil : PA X [] (tA xr X.K W (argsP [])) := pa_imp pa_nil fun σ H Q ⟨m, fp, r, p⟩ => p [] H fp r (.refl _ _) trivial
theorem sap_cons (ha : PE X e (tE xr X.K W f)) (hr : PA X es (tA xr X.K W (argsP fs))) (hs : starEach (e :: es) X.env = (false, eval e X.env) :: starEach es X.env := by rfl) : PA X (e :: es) (tA xr X.K W (argsP (f :: fs))) := by
  refine pa_imp (pa_cons (sd_pass ha) hr hs) fun σ H Q h => tG_bind2 (Rb := RelRs X.K) (Rc := RelRs X.K) h fun fp fp1 m1 b bs m2 v us H1 H2 fp2 s1 r1 ra r2 s2 rb q => ?_
  exact q _ H2 fp2 r2 (s1.trans s2) ⟨ra.step r1 s2, rb.from s1.trk⟩
/-- the values of keywords -/
theorem pk_imp {kws : List Keyword} {t t' : TA} (h : PK X kws t) (i : ∀ σ H Q, t' σ H Q → t σ H Q) : PK X kws t' := ⟨fun pos pins s σ H Q I q => h.run pos pins s σ H Q I (i σ H Q q)⟩
theorem skp_nil : PK X [] (tA xr X.K W (argsP [])) := pk_imp pk_nil fun σ H Q ⟨m, fp, r, p⟩ => p [] H fp r (.refl _ _) trivial
theorem skp_cons {kws : List Keyword} {kpos : Pos} {nm : Option Str} (ha : PE X e (tE xr X.K W f)) (hr : PK X kws (tA xr X.K W (argsP fs))) : PK X (⟨nm, e, kpos⟩ :: kws) (tA xr X.K W (argsP (f :: fs))) := by
  refine pk_imp (pk_cons (sd_pass ha) hr) fun σ H Q h => tG_bind2 (Rb := RelRs X.K) (Rc := RelRs X.K) h fun fp fp1 m1 b bs m2 v us H1 H2 fp2 s1 r1 ra r2 s2 rb q => ?_
  exact q _ H2 fp2 r2 (s1.trans s2) ⟨ra.step r1 s2, rb.from s1.trk⟩

/-- the callee runs -/
theorem run_G {pins : List (Addr × Obj)} {σ : St} {H : Hp} {s : Shared} {Q : VK} {us : List Value} {kw : List (Str × Value)} {zs : List Value} {vs : List V} (F : FnG X.prog X.w X.K X.mg X.base k a fd ps (spOf xr X.K np fm)) (hr : Room k X.A) (hG : X.A.guards = some []) (tk : Takes X W)
    (I : Inv X pins σ H s) (hb : zs.length = ps.length → BindsTo s fd ⟨us, kw⟩ (ps.zip zs)) (r : Vals vs zs) (h : spOf xr X.K np fm vs H Q (fun c d H' => W c d σ H')) : wpAny (model X.prog X.w) X.A (call (.ref a) us kw) (EP X pins σ Q) X.xe s := by
  have hl : zs.length = ps.length := by rw [← r.length]; exact F.len h
  refine wpAny_call (codeAny_mono (F.run hr hG I.env0 (hb hl) r h) fun z s' hq => ?_)
  cases z with
  | error u => exact tk u s' (XE.of_call I (fun _ _ _ q => q) hq)
  | ok fl =>
    cases fl with
    | ret u => exact I.after hq
    | next => exact False.elim hq
    | brk => exact False.elim hq
    | cont => exact False.elim hq
theorem callE_ok {σ : St} {H : Hp} {Q : VK} (hn : ∀ ms, ms.length ≠ np → fm ms = .no) (h : tE xr X.K W (callE fm fs) σ H Q) : tA xr X.K W (argsP fs) σ H (fun vs H1 => spOf xr X.K np fm vs H1 Q (fun c d H' => W c d σ H')) :=
  tG_tail (Rc := RelR X.K) h (fun _ _ _ _ _ _ t q => q.from t) fun fp as m1 vs H1 fp1 r1 s1 ra q => call_ok hn r1 ra q
/-- f(e, ..) -/
theorem sd_call (F : FnG X.prog X.w X.K X.mg X.base k a fd ps (spOf xr X.K np fm)) (hn : ∀ ms, ms.length ≠ np → fm ms = .no) (hr : Room k X.A) (hG : X.A.guards = some []) (hg : Gl X x) (hm : X.mg x = some (.ref a)) (hk : PySem.W.keepIn X.K (.ref a) = true)
    (hb : Binds X.K fd ps []) (tk : Takes X W) (ha : PA X (e :: es) (tA xr X.K W (argsP fs))) (hdb : (x == ("__debug__" : Str)) = false := by decide) (he : starEach (e :: es) X.env = (false, eval e X.env) :: starEach es X.env := by rfl)
    (hpl : (backTo pos (starEach es X.env)).any (·.1) = false := by rfl) : PE X (.Call (.Name x p) (e :: es) [] pos) (tE xr X.K W (callE fm fs)) := by
  refine ⟨fun pins s σ H Q I h => ?_⟩
  refine wpAny_Call_Name_kw (ld_glob I hg hm ?_ hdb)
  refine PySem.W.callWith_K (h₀ := X.base) I.ok.mod.kin hk (thn (ha.run pos pins s σ H _ I (callE_ok hn h)) fun us s1 ⟨vs, H1, I1, r, q⟩ => ⟨I1.kIn, ?_⟩) he hpl
  exact run_G F hr hG tk I1 (fun hl => by
    have z := hb s1 us I1.kIn (by rw [List.append_nil]; exact hl)
    rw [List.append_nil] at z
    exact z) r q
/-- f() -/
theorem sd_call0 (F : FnG X.prog X.w X.K X.mg X.base k a fd ps (spOf xr X.K np fm)) (hn : ∀ ms, ms.length ≠ np → fm ms = .no) (hr : Room k X.A) (hG : X.A.guards = some []) (hg : Gl X x) (hm : X.mg x = some (.ref a)) (hk : PySem.W.keepIn X.K (.ref a) = true)
    (hb : Binds X.K fd ps []) (tk : Takes X W) (hdb : (x == ("__debug__" : Str)) = false := by decide) : PE X (.Call (.Name x p) [] [] pos) (tE xr X.K W (callE fm [])) := by
  refine ⟨fun pins s σ H Q I h => ?_⟩
  refine wpAny_Call_Name_kw (ld_glob I hg hm ?_ hdb)
  obtain ⟨m, fp, r, q⟩ := h
  exact PySem.W.callWith_K0 I.kIn hk (run_G (us := []) (kw := []) (zs := []) (vs := []) F hr hG tk I (fun hl => hb s [] I.kIn hl) .nil (call_ok (rs := []) (H0 := H) hn r trivial q))
/-- how written values, n by place and j by names, come to the parameters: perm -/
def permL {α : Type} (n j : Nat) (perm : List Nat) (z : α) (us ws : List α) : List α := if us.length = n ∧ ws.length = j then perm.map fun i => (us ++ ws).getD i z else []
theorem getD_vals {i : Nat} : ∀ {vs : List V} {us : List Value}, Vals vs us → RelV (vs.getD i .non) (us.getD i .none) := fun {vs us} r => by
  rw [List.getD_eq_getElem?_getD, List.getD_eq_getElem?_getD]
  cases q : vs[i]? with
  | none => rw [r.none_of q]; rfl
  | some v =>
    obtain ⟨u, e, rv⟩ := r.get q
    rw [e]; exact rv
theorem map_vals {vs : List V} {us : List Value} (r : Vals vs us) : ∀ perm : List Nat, Vals (perm.map fun i => vs.getD i .non) (perm.map fun i => us.getD i .none)
  | [] => .nil
  | i :: is => .cons (getD_vals r) (map_vals r is)
theorem perm_vals {n j : Nat} {perm : List Nat} {vs zs : List V} {us ws : List Value} (r : Vals vs us) (r2 : Vals zs ws) : Vals (permL n j perm .non vs zs) (permL n j perm .none us ws) := by
  unfold permL
  rw [r.length, r2.length]
  split
  · exact map_vals (r.append r2) perm
  · exact .nil
theorem getD_rel {K : PySem.W.Frag} {H0 H : Hp} {σ : St} {fp : Fp} : ∀ {rs : List Rv} {vs : List V} (i : Nat), RelRs K H0 H σ fp rs vs → RelR K H0 H σ fp (rs.getD i (.d .none)) (vs.getD i .non)
  | [], [], i, h => .non
  | _ :: _, _ :: _, 0, h => h.1
  | _ :: _, _ :: _, i + 1, h => getD_rel i h.2
theorem map_rel {K : PySem.W.Frag} {H0 H : Hp} {σ : St} {fp : Fp} {rs : List Rv} {vs : List V} (r : RelRs K H0 H σ fp rs vs) : ∀ perm : List Nat, RelRs K H0 H σ fp (perm.map fun i => rs.getD i (.d .none)) (perm.map fun i => vs.getD i .non)
  | [] => trivial
  | i :: is => ⟨getD_rel i r, map_rel r is⟩
theorem relRs_app {K : PySem.W.Frag} {H0 H : Hp} {σ : St} {fp : Fp} : ∀ {rs : List Rv} {vs : List V} {qs : List Rv} {ws : List V}, RelRs K H0 H σ fp rs vs → RelRs K H0 H σ fp qs ws → RelRs K H0 H σ fp (rs ++ qs) (vs ++ ws)
  | [], [], _, _, _, h => h
  | _ :: _, _ :: _, _, _, ⟨h1, h2⟩, h => ⟨h1, relRs_app h2 h⟩
theorem perm_rel {n j : Nat} {perm : List Nat} {K : PySem.W.Frag} {H0 H : Hp} {σ : St} {fp : Fp} {rs qs : List Rv} {vs zs : List V} (r : RelRs K H0 H σ fp rs vs) (r2 : RelRs K H0 H σ fp qs zs) : RelRs K H0 H σ fp (permL n j perm (.d .none) rs qs) (permL n j perm .non vs zs) := by
  unfold permL
  rw [← r.length, ← r2.length]
  split
  · exact map_rel (relRs_app r r2) perm
  · exact trivial
/-- how keywords bind -/
def KBp (K : PySem.W.Frag) (fd : FuncData) (ps ks : List Str) (n : Nat) (perm : List Nat) : Prop :=
  ∀ (s : Shared) (us ws : List Value), K.In s.heap → us.length = n → ws.length = ks.length → BindsTo s fd ⟨us, ks.zip ws⟩ (ps.zip (permL n ks.length perm .none us ws))
def callKE (fm : Fm) (n j : Nat) (perm : List Nat) (fs gs : List (Ev Rv)) : Ev Rv := bnd (argsP fs) fun rs => bnd (argsP gs) fun qs => callM fm (permL n j perm (.d .none) rs qs)
theorem kbp_use {K : PySem.W.Frag} {ks : List Str} {n : Nat} {perm : List Nat} {s : Shared} {us ws : List Value} (hb : KBp K fd ps ks n perm) (hp : ps ≠ []) (kin : K.In s.heap) (hl : (permL n ks.length perm Value.none us ws).length = ps.length) :
    BindsTo s fd ⟨us, ks.zip ws⟩ (ps.zip (permL n ks.length perm .none us ws)) := by
  by_cases h : us.length = n ∧ ws.length = ks.length
  · exact hb s us ws kin h.1 h.2
  · unfold permL at hl
    rw [if_neg h] at hl
    exact absurd (List.length_eq_zero_iff.mp hl.symm) hp
/-- f(k = e, ..): keywords alone -/
theorem sd_callK0 {ks : List Str} {kws : List Keyword} {perm : List Nat} (F : FnG X.prog X.w X.K X.mg X.base k a fd ps (spOf xr X.K np fm)) (hn : ∀ ms, ms.length ≠ np → fm ms = .no) (hr : Room k X.A) (hG : X.A.guards = some []) (hg : Gl X x) (hm : X.mg x = some (.ref a))
    (hk : PySem.W.keepIn X.K (.ref a) = true) (hb : KBp X.K fd ps ks 0 perm) (hp : ps ≠ []) (tk : Takes X W) (hkw : PK X kws (tA xr X.K W (argsP gs))) (hall : (backToKw pos (keywordEach kws X.env)).all (·.1.isSome) = true := by rfl)
    (hks : (backToKw pos (keywordEach kws X.env)).filterMap (·.1) = ks := by rfl) (hdb : (x == ("__debug__" : Str)) = false := by decide) (hpl : ((backTo pos (starEach [] X.env)).any (·.1) || (backToKw pos (keywordEach kws X.env)).any (·.1.isNone)) = false := by rfl) :
    PE X (.Call (.Name x p) [] kws pos) (tE xr X.K W (callKE fm 0 ks.length perm [] gs)) := by
  refine ⟨fun pins s σ H Q I h => ?_⟩
  have h2 : tA xr X.K W (argsP gs) σ H (fun zs H1 => spOf xr X.K np fm (permL 0 ks.length perm .non [] zs) H1 Q (fun c d H' => W c d σ H')) :=
    tG_tail (Rc := RelR X.K) (show tE xr X.K W (bnd (argsP gs) fun qs => callM fm (permL 0 ks.length perm (.d .none) [] qs)) σ H Q from h) (fun _ _ _ _ _ _ t q => q.from t) fun fp as m1 zs H1 fp1 r1 s1 ra q =>
      call_ok hn r1 (perm_rel (rs := []) (vs := []) trivial ra) q
  refine wpAny_Call_Name_kw (ld_glob I hg hm ?_ hdb)
  refine PySem.W.callWith_KW0 (h₀ := X.base) I.ok.mod.kin hk hall (thn (hkw.run pos pins s σ H _ I h2) fun ws s2 ⟨zs, H2, I2, rz, q2⟩ => ⟨I2.kIn, ?_⟩) hpl
  rw [hks]
  exact run_G F hr hG tk I2 (fun hl => kbp_use (us := []) hb hp I2.kIn hl) (perm_vals (vs := []) .nil rz) q2
/-- f(e, .., k = e', ..) -/
theorem sd_callK {ks : List Str} {kws : List Keyword} {perm : List Nat} {n : Nat} (F : FnG X.prog X.w X.K X.mg X.base k a fd ps (spOf xr X.K np fm)) (hn : ∀ ms, ms.length ≠ np → fm ms = .no) (hr : Room k X.A) (hG : X.A.guards = some []) (hg : Gl X x) (hm : X.mg x = some (.ref a))
    (hk : PySem.W.keepIn X.K (.ref a) = true) (hb : KBp X.K fd ps ks n perm) (hp : ps ≠ []) (tk : Takes X W) (ha : PA X (e :: es) (tA xr X.K W (argsP fs))) (hkw : PK X kws (tA xr X.K W (argsP gs))) (hall : (backToKw pos (keywordEach kws X.env)).all (·.1.isSome) = true := by rfl)
    (hks : (backToKw pos (keywordEach kws X.env)).filterMap (·.1) = ks := by rfl) (hdb : (x == ("__debug__" : Str)) = false := by decide) (he : starEach (e :: es) X.env = (false, eval e X.env) :: starEach es X.env := by rfl)
    (hpl : ((backTo pos (starEach (e :: es) X.env)).any (·.1) || (backToKw pos (keywordEach kws X.env)).any (·.1.isNone)) = false := by rfl) :
    PE X (.Call (.Name x p) (e :: es) kws pos) (tE xr X.K W (callKE fm n ks.length perm fs gs)) := by
  refine ⟨fun pins s σ H Q I h => ?_⟩
  have h2 : tA xr X.K W (argsP fs) σ H (fun vs H1 => tA xr X.K W (argsP gs) σ H1 fun zs H2 => spOf xr X.K np fm (permL n ks.length perm .non vs zs) H2 Q (fun c d H' => W c d σ H')) :=
    tG_bind2 (Ra := RelRs X.K) (Rb := RelRs X.K) (Rc := RelR X.K) h fun fp fp1 m1 as bs m2 vs zs H1 H2 fp2 s1 r1 ra r2 s2 rb q =>
      call_ok hn r2 (perm_rel (RelRs.step r1 s2 ra) (rb.from s1.trk)) (q.from (s1.trans s2) fun H' fp' x w z => RelR.from z (fun b hb => s1.trk b (s2.trk b hb)))
  refine wpAny_Call_Name_kw (ld_glob I hg hm ?_ hdb)
  refine PySem.W.callWith_KW (h₀ := X.base) I.ok.mod.kin hk hall (thn (ha.run pos pins s σ H _ I h2) fun us s1 ⟨vs, H1, I1, r, q⟩ => ?_) hpl he
  refine thn (hkw.run pos pins s1 σ H1 _ I1 q) fun ws s2 ⟨zs, H2, I2, rz, q2⟩ => ⟨I2.kIn, ?_⟩
  rw [hks]
  exact run_G F hr hG tk I2 (fun hl => kbp_use hb hp I2.kIn hl) (perm_vals r rz) q2
end

/-! ### bodies -/
/-- what the parameters hold behind a body: those at ro what they hold then, the others what they held -/
def backP (ro : List Nat) : Nat → List Mv → Sm → Sm
  | _, [], _ => []
  | i, mv :: r, m => (if i ∈ ro then (m.head?).join else some mv) :: backP ro (i + 1) r m.tail
def allFz (ro : List Nat) : Nat → List Mv → Bool
  | _, [] => true
  | i, .fz _ :: r => allFz ro (i + 1) r
  | i, _ :: r => decide (i ∈ ro ∧ 99 ∉ ro) && allFz ro (i + 1) r
/-- a def by its body: np parameters, n names -/
def runF (np n : Nat) (ro : List Nat) (g : Sf) : Fm := fun ms => if ms.length = np then if allFz ro 0 ms = true then match g (ms.map some ++ List.replicate (n - np) none) with
    | .ok (.rt mv) m' => .ok mv (backP ro 0 ms m')
    | .ok .nx m' => .ok (.fz .none) (backP ro 0 ms m')
    | .ex e m' => .ex e (backP ro 0 ms m')
    | _ => .no
  else .no else .no
theorem runF_len (np n : Nat) (ro : List Nat) (g : Sf) : ∀ ms, ms.length ≠ np → runF np n ro g ms = .no := fun ms h => by unfold runF; rw [if_neg h]
theorem allFz_at {ro : List Nat} : ∀ {i : Nat} {ms : List Mv}, allFz ro i ms = true → ∀ j mv, ms[j]? = some mv → (i + j) ∉ ro → ∃ d, mv = .fz d
  | _, [], _, j, mv, h, _ => by simp at h
  | i, m :: r, a, 0, mv, h, hn => by
    simp at h; subst h
    cases m with
    | fz d => exact ⟨d, rfl⟩
    | _ => exact absurd (of_decide_eq_true (Bool.and_eq_true_iff.mp a).1).1 hn
  | i, m :: r, a, j + 1, mv, h, hn => by
    have a2 : allFz ro (i + 1) r = true := by
      cases m with
      | fz d => exact a
      | _ => exact (Bool.and_eq_true_iff.mp a).2
    exact allFz_at a2 j mv (by simpa using h) (by rw [Nat.add_assoc, Nat.add_comm 1 j]; exact hn)
theorem allFz_own {ro : List Nat} (h99 : 99 ∈ ro) : ∀ {i : Nat} {ms : List Mv}, allFz ro i ms = true → ∀ (j : Nat) (mv : Mv), ms[j]? = some mv → ∃ d, mv = Mv.fz d
  | _, [], _, j, mv, h => by simp at h
  | i, m :: r, a, j, mv, h => by
    cases m with
    | fz d =>
      cases j with
      | zero => simp at h; exact ⟨d, h.symm⟩
      | succ j => exact allFz_own h99 (i := i + 1) (ms := r) a j mv (by simpa using h)
    | _ => exact absurd h99 (of_decide_eq_true (Bool.and_eq_true_iff.mp a).1).2
theorem backP_length (ro : List Nat) : ∀ (i : Nat) (ms : List Mv) (m : Sm), (backP ro i ms m).length = ms.length
  | _, [], _ => rfl
  | i, _ :: r, m => congrArg (· + 1) (backP_length ro (i + 1) r m.tail)
theorem backP_at {ro : List Nat} : ∀ {i : Nat} {ms : List Mv} {m : Sm} {j : Nat} {mv : Mv}, (backP ro i ms m)[j]? = some (some mv) → ((i + j) ∈ ro ∧ m[j]? = some (some mv)) ∨ ((i + j) ∉ ro ∧ ms[j]? = some mv)
  | _, [], _, j, _, h => by simp [backP] at h
  | i, a :: r, m, 0, mv, h => by
    simp only [backP, List.getElem?_cons_zero, Option.some.injEq] at h
    by_cases hi : i ∈ ro
    · rw [if_pos hi] at h
      refine .inl ⟨hi, ?_⟩
      cases m with
      | nil => cases h
      | cons x m => simp at h; rw [h]; rfl
    · rw [if_neg hi] at h
      cases h
      exact .inr ⟨hi, rfl⟩
  | i, a :: r, m, j + 1, mv, h => by
    have z := backP_at (i := i + 1) (ms := r) (m := m.tail) (j := j) (mv := mv) (by simpa [backP] using h)
    have e : i + 1 + j = i + (j + 1) := by omega
    rw [e] at z
    rcases z with ⟨h1, h2⟩ | ⟨h1, h2⟩
    · refine .inl ⟨h1, ?_⟩
      cases m with
      | nil => simp at h2
      | cons x m => simpa using h2
    · exact .inr ⟨h1, by simpa using h2⟩
theorem start_at {N : List Str} {vs : List V} {i : Nat} {v : V} (h : vs[i]? = some v) : (L2.start N vs)[i]? = some (some v) := by
  unfold L2.start
  rw [List.getElem?_append_left (by rw [List.length_map]; exact nth_lt h), List.getElem?_map, h]; rfl
section
variable {xr : XR} {K : PySem.W.Frag} {H : Hp} {N : List Str} {ms : List Mv} {vs : List V} {fp : Fp} {ro : List Nat} {g : Sf} {Q : VK} {E : XK}
theorem entry_ok (hN : vs.length ≤ N.length) (r : RelS K H (ms.map some) (vs.map some) fp) : RelS K H (ms.map some ++ List.replicate (N.length - ms.length) none) (L2.start N vs) fp := by
  have hl : ms.length = vs.length := by simpa using r.len
  refine ⟨fun i mv e => ?_, fun i h => ?_, r.dis, by unfold L2.start; simp; omega⟩
  · by_cases hi : i < ms.length
    · rw [List.getElem?_append_left (by rw [List.length_map]; exact hi)] at e
      obtain ⟨v, e1, q⟩ := r.at_ i mv e
      rw [List.getElem?_map] at e1
      cases e2 : vs[i]? with
      | none => rw [e2] at e1; cases e1
      | some w =>
        rw [e2] at e1
        have e3 : w = v := Option.some.inj (Option.some.inj e1)
        exact ⟨v, by rw [← e3]; exact start_at e2, q⟩
    · rw [List.getElem?_append_right (by rw [List.length_map]; omega)] at e
      rw [List.getElem?_replicate] at e
      split at e
      · cases e
      · cases e
  · refine r.emp i fun mv e => h mv ?_
    rw [List.getElem?_append_left (by simpa using nth_lt e)]
    exact e
theorem exit_ok {m' : Sm} {σ' : St} {H' : Hp} {fp' : Fp} (hN : vs.length ≤ N.length) (r : RelS K H (ms.map some) (vs.map some) fp) (a : allFz ro 0 ms = true) (r' : RelS K H' m' σ' fp') (s : Step fp fp' H H') (k : Kept ro (L2.start N vs) σ') :
    RelS K H' (backP ro 0 ms m') (vs.map some) (fun i => if i ∈ ro ∧ i < ms.length then fp' i else []) ∧ Step fp (fun i => if i ∈ ro ∧ i < ms.length then fp' i else []) H H' := by
  have hl : ms.length = vs.length := by simpa using r.len
  refine ⟨⟨fun i mv e => ?_, fun i h => ?_, fun i j b hb hc => ?_, by rw [backP_length, List.length_map, hl]⟩, ⟨fun i b hb => ?_, s.keep, s.trk⟩⟩
  · have hi : i < ms.length := by have := nth_lt e; rw [backP_length] at this; exact this
    rcases backP_at e with ⟨h1, h2⟩ | ⟨h1, h2⟩
    · rw [Nat.zero_add] at h1
      obtain ⟨v, e1, q⟩ := r'.at_ i mv h2
      rw [k i h1] at e1
      obtain ⟨w, e2⟩ : ∃ w, vs[i]? = some w := ⟨vs[i]'(by omega), by simp⟩
      rw [start_at e2] at e1
      cases e1
      exact ⟨v, by rw [List.getElem?_map, e2]; rfl, by rw [if_pos ⟨h1, hi⟩]; exact q⟩
    · obtain ⟨d, e3⟩ := allFz_at a i mv h2 h1
      rw [Nat.zero_add] at h1
      subst e3
      obtain ⟨v, e1, q⟩ := r.at_ i (.fz d) (by rw [List.getElem?_map, h2]; rfl)
      refine ⟨v, e1, ?_⟩
      rw [if_neg fun z => h1 z.1]
      generalize fp i = f0 at q
      cases q with
      | fz z => exact .fz (z.keep (r.keepOf s))
  · by_cases hi : i ∈ ro ∧ i < ms.length
    · show (if i ∈ ro ∧ i < ms.length then fp' i else []) = []
      rw [if_pos hi]
      refine r'.emp i fun mv e => h mv ?_
      have hb : ∀ {o l : Nat} {ms : List Mv} {m : Sm}, (o + l) ∈ ro → l < ms.length → m[l]? = some (some mv) → (backP ro o ms m)[l]? = some (some mv) := by
        intro o l ms
        induction ms generalizing o l with
        | nil => intro m _ h2 _; simp at h2
        | cons x r ih =>
          intro m h1 h2 h3
          cases l with
          | zero =>
            have h1 : o ∈ ro := h1
            cases m with
            | nil => simp at h3
            | cons y m => simp at h3; subst h3; simp [backP, h1]
          | succ l =>
            cases m with
            | nil => simp at h3
            | cons y m =>
              have e : o + (l + 1) = o + 1 + l := by omega
              simpa [backP] using ih (o := o + 1) (l := l) (m := m) (by rw [← e]; exact h1) (by simpa using h2) (by simpa using h3)
      exact hb (by rw [Nat.zero_add]; exact hi.1) hi.2 e
    · exact if_neg hi
  · have hb : b ∈ (if i ∈ ro ∧ i < ms.length then fp' i else []) := hb
    have hc : b ∈ (if j ∈ ro ∧ j < ms.length then fp' j else []) := hc
    split at hb
    · split at hc
      · exact r'.dis i j b hb hc
      · cases hc
    · cases hb
  · have hb : b ∈ (if i ∈ ro ∧ i < ms.length then fp' i else []) := hb
    split at hb
    · exact s.own i b hb
    · cases hb
/-- the body's reading, from the def's promise -/
theorem body_ok (hN : vs.length ≤ N.length) (h : spOf xr K np (runF np N.length ro g) vs H Q E) : tS xr K (fun c d _ H => E c d H) ro (L2.start N vs) g { nx := fun _ H' => Q .non H', rt := Q } (L2.start N vs) H := by
  obtain ⟨hl, ms, fp, r, p⟩ := h
  have hm : ms.length = vs.length := by simpa using r.len
  have en := entry_ok hN r
  unfold runF at p
  rw [if_pos (hm.trans hl)] at p
  cases ha : allFz ro 0 ms with
  | false => simp [ha] at p
  | true =>
    rw [if_pos ha] at p
    refine ⟨_, fp, en, fun _ _ => rfl, ?_⟩
    have e1 : N.length - np = N.length - ms.length := by omega
    rw [e1] at p
    cases eg : g (ms.map some ++ List.replicate (N.length - ms.length) none) with
    | no => simp only [eg] at p
    | ex x m' =>
      simp only [eg] at p
      intro c d σ' H' fp' r' s k z
      obtain ⟨r2, s2⟩ := exit_ok hN r ha r' s k
      exact p c d H' _ r2 s2 z
    | ok o m' =>
      cases o with
      | nx =>
        simp only [eg] at p
        intro σ' H' fp' r' s k
        obtain ⟨r2, s2⟩ := exit_ok hN r ha r' s k
        exact p .non H' _ [] r2 (.fz .non) (fun b hb => by cases hb) (fun b hb => by cases hb) s2
      | rt mv =>
        simp only [eg] at p
        intro v σ' H' fp' fr r' s k rm n1 n2
        obtain ⟨r2, s2⟩ := exit_ok hN r ha r' s k
        refine p v H' _ fr r2 rm (fun b hb i hi => ?_) (fun b hb => (n2 b hb).elim id fun ⟨h99, j, hj⟩ => ?_) s2
        case refine_2 =>
          have hz : fp j = [] := by
            cases ej : (ms.map some)[j]? with
            | none => exact r.emp j fun mv e => by rw [ej] at e; cases e
            | some o =>
              cases o with
              | none => exact r.emp j fun mv e => by rw [ej] at e; cases e
              | some mv =>
                rw [List.getElem?_map] at ej
                obtain ⟨mv', e2, e3⟩ := Option.map_eq_some_iff.mp ej
                cases e3
                obtain ⟨d, rfl⟩ := allFz_own h99 ha j mv e2
                obtain ⟨w, _, q⟩ := r.at_ j (.fz d) (by rw [List.getElem?_map, e2]; rfl)
                generalize fp j = f0 at q
                cases q
                rfl
          rw [hz] at hj
          cases hj
        have hi : b ∈ (if i ∈ ro ∧ i < ms.length then fp' i else []) := hi
        split at hi
        · exact n1 b hb i hi
        · cases hi
      | bk => simp only [eg] at p
      | ct => simp only [eg] at p
end
/-- the context of a def's body -/
abbrev bodyX (P : Program) (w : World) (K : PySem.W.Frag) (mg : Str → Option Value) (base : Heap) (N : List Str) (qual : Str) (sc : Scope) (f : Addr) (cdv : Value) (A : Around) (outer : List Env) (s : Shared) (H : Hp) (E : XK) : Cx :=
  cxOf (L2.CX P w) P w K mg base N qual sc f cdv A outer s H E
section
variable {xr : XR} {P : Program} {w : World} {K : PySem.W.Frag} {mg : Str → Option Value} {base : Heap} {k : Nat} {N ps : List Str} {qual x : Str} {sc : Scope} {f : Addr} {cdv : Value} {A : Around} {outer : List Env} {s : Shared} {H : Hp} {E : XK} {fd : FuncData} {st : Stmt} {ro : List Nat} {g : Sf}
theorem body_takes : Takes (bodyX P w K mg base N qual sc f cdv A outer s H E) (fun c d _ H => E c d H) := takes_of rfl rfl rfl rfl
theorem body_passes : PassesOwn (model P w) (bodyX P w K mg base N qual sc f cdv A outer s H E).A (bodyX P w K mg base N qual sc f cdv A outer s H E).env (bodyX P w K mg base N qual sc f cdv A outer s H E).xe := passes_of (X := bodyX P w K mg base N qual sc f cdv A outer s H E) rfl
/-- THE RULE: a def of the text, by the evaluation of its body -/
theorem fnG_of (F : Fun K x qual st f fd) (S : FnScope N ps (defScope st)) (hbody : ∀ (cdv : Value) (A : Around) (outer : List Env) (s : Shared) (H : Hp) (vs : List V) (E : XK), Room k (bodyX P w K mg base N qual (defScope st) f cdv A outer s H E).A →
      (bodyX P w K mg base N qual (defScope st) f cdv A outer s H E).A.guards = some [] →
      PSs (bodyX P w K mg base N qual (defScope st) f cdv A outer s H E) (defBody st) (tS xr K (fun c d _ H => E c d H) ro (L2.start N vs) g)) :
    FnG P w K mg base (k + 1) f fd ps (spOf xr K ps.length (runF ps.length N.length ro g)) := by
  refine ⟨fun q => q.1, ?_⟩
  intro A outer s H args us vs Q E room hG e0 hb rv q
  obtain ⟨oc, od, kV, doc, pm, an, cd, ct, osl, rfl, lk, hcd⟩ := F.ex
  have hps : vs.length = ps.length := q.1
  have hN : vs.length ≤ N.length := by
    have z := congrArg List.length S.pre
    rw [List.length_take] at z
    omega
  have kin : K.In s.heap := e0.mod.kin.keeps fun b o e => (e0.bs b o e).1
  have lim : s.heap.NoLimit := e0.mod.nolimit.keeps fun b o e => (e0.bs b o e).1
  have kinds : ∀ y ∈ ps.zip us, (defScope st).names.lookup y.1 = some .local ∨ ((defScope st).names.lookup y.1 = some .cell ∧ ((cellsFrom (s.heap.objs.size + 1) (defScope st).names []).lookup y.1).isSome = true) := by
    rintro ⟨n, v⟩ hy
    rcases S.par n (List.of_mem_zip hy).1 with z | z
    · exact .inl z
    · exact .inr ⟨z, PySem.W.cellsFrom_some _ _ _ (.inl z)⟩
  refine codeAny_call_function room.depth (kin _ _ lk) rfl S.co S.gen rfl (PySem.W.codeRec_of kin hcd) (hb _ _ _ _ ?_)
  refine wpAny_newFunctionEnv_cells S.kind kinds fun env he s1 hx => ?_
  subst he
  refine ⟨lim.keeps hx.toInCall.keep, codeAny_func ?_⟩
  have body := hbody cd A outer s H vs E (room.deeper _) hG
  have inv : Inv (bodyX P w K mg base N qual (defScope st) f cd A outer s H E) [] (L2.start N vs) H s1 := inv_start S room.hd e0 hps rv hx
  refine wpAny_mono (body.run [] s1 (L2.start N vs) H _ inv (body_ok hN q)) (fun fl s' hs => ?_) fun e s' hs => hs
  cases fl with
  | ret u => exact let ⟨v, σ', H', J, rv, z⟩ := hs; ⟨v, H', J.os, J.bare, J.base, J.hok, rv, z⟩
  | next => exact let ⟨σ', H', J, z⟩ := hs; ⟨.non, H', J.os, J.bare, J.base, J.hok, rfl, z⟩
  | brk => obtain ⟨_, _, _, z⟩ := hs; exact False.elim z
  | cont => obtain ⟨_, _, _, z⟩ := hs; exact False.elim z
end

/-! ### the law -/
/-- what is asked of the law's def as a function of the script -/
def LawIs (f : Fm) (n : Nat) : Prop := ∀ ns : List Int, ns.length ≤ n → ∃ m', f [.fz (.list (ns.map PyData.int))] = .ok (.fz (.bool true)) m'
theorem law_sp {xr : XR} {K : PySem.W.Frag} {H : Hp} {a : Addr} {ns : List Int} {f : Fm} {n : Nat} (L : LawIs f n) (hn : ns.length ≤ n) (h : FL K H a (ns.map V.int)) : spOf xr K 1 f [.ref a] H (fun v _ => v = .bl true) fun _ _ _ => False := by
  refine ⟨rfl, [.fz (.list (ns.map PyData.int))], fun _ => [], ⟨fun i mv e => ?_, fun _ _ => rfl, (fun _ _ _ hb => by cases hb), rfl⟩, ?_⟩
  · cases i with
    | zero => cases e; exact ⟨_, rfl, .fz (.lst h (.ints ns))⟩
    | succ i => simp at e
  · obtain ⟨m', e⟩ := L ns hn
    rw [e]
    intro v H' fp' fr r rm n1 n2 s
    cases rm with
    | fz z => exact fz_bool z
/-- the law's call over the heap behind the top -/
theorem law_run {xr : XR} {P : Program} {w : World} {K : PySem.W.Frag} {mg mb : Str → Option Value} {k n : Nat} {fa a : Addr} {fd : FuncData} {x : Str} {f : Fm} {s1 : Shared} {vs : List Value} {ns : List Int} (kin : K.In s1.heap) (hm : s1.heap.Ns mainGlobals mg) (hb : s1.heap.Ns builtinsNs mb)
    (hbb : ∀ x : Str, x ≠ "__name__" → mb x = bootBuiltins x) (lim : s1.heap.NoLimit) (hg : s1.gens = #[]) (ha : s1.heap.get? a = some { cls := .type "list", data := .seq vs.toArray }) (hi : IntsAre vs ns) (hl : ns.length ≤ n) (hn : n ≤ sizeLine) (room : Room k callerA)
    (F : ∀ base : Heap, K.In base → base.Ns mainGlobals mg → FnG P w K mg base k fa fd [x] (spOf xr K 1 f)) (bind : ∀ (s : Shared) (u : Value), BindsTo s fd ⟨[u], []⟩ [(x, u)]) (L : LawIs f n) :
    codeAny (model P w) callerA (.call (.ref fa) ⟨[.ref a], []⟩) (fun r s' => r = .ok (.ret (.bool true)) ∧ OldK s1.heap s'.heap ∧ s'.os = s1.os ∧ AllBare s'.gens) s1 := by
  have rv := vals_ints hi
  have lv := hi.length
  suffices core : ∀ H : Hp, Only H → FL K H a (ns.map V.int) → HOk P w H s1.heap → (∀ b, H b ≠ none → b = a ∧ K.lookup a = none) → codeAny (model P w) callerA (.call (.ref fa) ⟨[.ref a], []⟩) (fun r s' => r = .ok (.ret (.bool true)) ∧ OldK s1.heap s'.heap ∧ s'.os = s1.os ∧ AllBare s'.gens) s1 by
    cases hk : K.lookup a with
    | some o =>
      have e := kin a o hk
      rw [ha] at e
      cases e
      refine core (fun _ => none) (fun _ => .inl rfl) (.inr ⟨vs.toArray, _, hk, ?_, by simpa using rv⟩) (fun b u z => nomatch z) fun b z => absurd rfl z
      rw [List.size_toArray, lv]; omega
    | none =>
      have at_ : ∀ b, (if b = a then some (HO.frz { cls := .type "list", data := .seq vs.toArray } (.lst (ns.map V.int))) else none) ≠ none → b = a := fun b z => by
        by_cases hb : b = a
        · exact hb
        · exact absurd (if_neg hb) z
      refine core (fun b => if b = a then some (.frz { cls := .type "list", data := .seq vs.toArray } (.lst (ns.map V.int))) else none) (fun b => ?_) (.inl ⟨_, if_pos rfl⟩) (fun b u z => ?_) fun b z => ⟨at_ b z, hk⟩
      · by_cases hb : b = a
        · exact .inr ⟨_, _, if_pos hb⟩
        · exact .inl (if_neg hb)
      · have hb := at_ b (fun q => by have z2 := q.symm.trans z; cases z2)
        subst hb
        have z2 := (if_pos rfl).symm.trans z
        cases z2
        exact ⟨ha, by rw [List.length_map]; omega, vs, _, rv, ha⟩
  intro H hO hS hok hA
  have un : ∀ {b : Addr} {o : Obj}, s1.heap.get? b = some o → o.data ≠ .seq vs.toArray 0 → H b = none := fun {b o} e d => by
    cases q : H b with
    | none => rfl
    | some u =>
      have z := (hA b (by rw [q]; exact fun z => nomatch z)).1
      subst z
      rw [ha] at e; cases e
      exact absurd rfl d
  have ns' : ∀ {b : Addr} {m : Str → Option Value}, s1.heap.Ns b m → (hidT s1.heap H).Ns b m := by
    rintro b m ⟨o, es, ep, e, d, r⟩
    exact ⟨o, es, ep, hidT_get e (un e (by rw [d]; exact fun z => nomatch z)), d, r⟩
  have kb : K.In (hidT s1.heap H) := fun b o e => hidT_get (kin b o e) (by
    cases q : H b with
    | none => rfl
    | some u =>
      obtain ⟨z1, z2⟩ := hA b (by rw [q]; exact fun z => nomatch z)
      rw [z1, z2] at e; cases e)
  have md : Mod K mg (hidT s1.heap H) := ⟨kb, ns' hm, ⟨mb, ns' hb, hbb⟩, let ⟨mc, h1, h2⟩ := lim; ⟨mc, ns' h1, h2⟩⟩
  have e0 : Env0 P w K mg (hidT s1.heap H) callerA [] s1 H := ⟨rfl, md, fun b o e => of_hidT e, Nat.le_of_eq (hidT_size _ _), trivial, (fun b hb => by cases (show b ∈ ([] : List Addr) from hb)), hok, .of_eq hg⟩
  refine codeAny_mono ((F _ kb (ns' hm)).run room rfl e0 (us := [.ref a]) (vs := [.ref a]) (bind s1 (.ref a)) (.cons rfl .nil) (law_sp L hl hS)) fun r s' h => ?_
  cases r with
  | error e =>
    obtain ⟨_, _, _, _, _, _, _, _, _, _, _, _, z⟩ := h
    exact z.elim
  | ok fl =>
    cases fl with
    | ret u =>
      obtain ⟨v, H', os, bare, st, hok', r', q⟩ := h
      have q' : v = .bl true := q
      subst q'
      have r2 : u = Value.bool true := r'
      subst r2
      refine ⟨rfl, OldK.of_keep fun b o e => ?_, os, bare⟩
      cases q : H b with
      | none => exact st.keep b o e q (fun z => by cases (show b ∈ ([] : List Addr) from z)) (by simp)
      | some u =>
        rcases hO b with z | ⟨ob, xs, z⟩
        · rw [q] at z; cases z
        · obtain ⟨e1, _⟩ := hok b _ z
          obtain ⟨e2, _⟩ := hok' b _ (st.frzs b ob _ z)
          rw [e] at e1; cases e1
          exact e2
    | next => exact False.elim h
    | brk => exact False.elim h
    | cont => exact False.elim h
/-- the goal that k_head leaves, from the law's def by its evaluation -/
theorem walk_G {l : PySem.W.OpenLaw} {n k : Nat} {q : Program} {loose : List Str} {XP : (Str → Option Value) → Heap → Prop} {YP : World → Heap → Prop} {d : DefRec} {KK : Params → PySem.W.Frag} {xr : XR} {f : Fm} {x : Str} (hn : l.most = some n) (hn2 : n ≤ sizeLine) (hdf : d.params.defaults = [])
    (hr : Room k callerA) (hY : ∀ (w : World) (h : Heap), YP w h → (KK w.params).In h) (L : LawIs f n)
    (F : ∀ (w : World) (mg : Str → Option Value) (fa : Addr) (h : Heap), (KK w.params).In h → h.Ns mainGlobals mg → mg d.name = some (.ref fa) → ∃ fd : FuncData, (∀ (s : Shared) (u : Value), BindsTo s fd ⟨[u], []⟩ [(x, u)]) ∧
        ∀ base : Heap, (KK w.params).In base → base.Ns mainGlobals mg → FnG l.prog w (KK w.params) mg base k fa fd [x] (spOf xr (KK w.params) 1 f)) :
    PySem.W.WalkO q loose XP YP l.row.toRowW d [] (fun f vs => PySem.call f vs) := by
  refine Att.attach_call hn hdf fun w s0 s1 mg mb fa o pm cd doc a vs ns G Y ho hd hcd hmg hobj hints hlen hg => ?_
  have kin := hY w _ Y
  obtain ⟨fd, hb, hF⟩ := F w mg fa _ kin G.T.g hmg
  exact law_run kin G.T.g G.T.b G.T.builtins G.T.nolimit hg hobj hints hlen hn2 hr hF hb L
end PyE

/-! PyE: operations on data -/
namespace PyE
open PySem PySem.Spec PyProof.Rows
open L2

section
variable {K : PySem.W.Frag} {H : Hp} {v : V}
theorem rb_int {i : Int} (h : Rb K H v (.int i)) : v = .int i := by
  cases h with
  | fz h => exact fz_int h
theorem rb_bool {b : Bool} (h : Rb K H v (.bool b)) : v = .bl b := by
  cases h with
  | fz h => exact fz_bool h
theorem rb_str {x : Str} (h : Rb K H v (.str x)) : v = .str x := by
  cases h with
  | fz h => cases h; rfl
theorem rb_non (h : Rb K H v .none) : v = .non := by
  cases h with
  | fz h => cases h; rfl
theorem rb_tup {ds : List PyData} (h : Rb K H v (.tuple ds)) : ∃ a xs, v = .ref a ∧ TupF H a xs ∧ FzAll K H xs ds := by
  cases h with
  | fz h => cases h with
    | tup h g => exact ⟨_, _, rfl, h, g⟩
/-- a list that may be read: it stands, or it is frozen -/
def RL (K : PySem.W.Frag) (H : Hp) (a : Addr) (xs : List V) : Prop := H a = some (.lst xs) ∨ FL K H a xs
theorem RL.seq {a : Addr} {xs : List V} (h : RL K H a xs) : SqL K H a xs := h.elim .of FL.seq
theorem rb_lst {ds : List PyData} (h : Rb K H v (.list ds)) : ∃ a xs, v = .ref a ∧ RL K H a xs ∧ FzAll K H xs ds := by
  cases h with
  | fz h => cases h with
    | lst h g => exact ⟨_, _, rfl, .inr h, g⟩
  | lst h g => exact ⟨_, _, rfl, .inl h, g⟩
theorem rb_dict {kvs : Kvs} (h : Rb K H v (.dict kvs)) : ∃ a, v = .ref a ∧ DictRd K H a kvs := by
  cases h with
  | fz h => exact h.dict
  | dic h => exact ⟨_, rfl, h.rd⟩
theorem nd_ints : ∀ (ns : List Int), PyData.hasDictAll (ns.map .int) = false
  | [] => by simp only [List.map_nil, PyData.hasDictAll]
  | n :: ns => by simp only [List.map_cons, PyData.hasDictAll, PyData.hasDict, nd_ints ns, Bool.or_self]
theorem shaped_dict {kvs : Kvs} : SeqAt.shaped (.dict kvs) = false := by
  unfold SeqAt.shaped PyData.canLay0
  rfl
theorem Rb.dp {d : PyData} (h : Rb K H v d) (s : SeqAt.shaped d = true) : Dp K H v d := by
  cases h with
  | fz h => exact h.dp (PyData.hasDict_of_canLay _ (SeqAt.canLay_of_shaped s))
  | lst h g =>
    have n := PyData.hasDict_of_canLay _ (SeqAt.canLay_of_shaped s)
    exact .lst (.of h) (FzAll.dp g (by simpa only [PyData.hasDict] using n))
  | dic h => rw [shaped_dict] at s; cases s
theorem sameUpd {a : Addr} {o : HO} (h : H a = none) : Same H (upd H a o) := fun b u e => by rw [upd_ne (ne_of_none e h)]; exact e
theorem new_tup {a : Addr} {o : Obj} {xs : List V} {ds : List PyData} (h : H a = none) (ho : o.dict = none) (g : FzAll K H xs ds) : NewR K H (upd H a (.frz o (.tup xs))) (.d (.tuple ds)) (.ref a) := .tup ⟨o, upd_same, ho⟩ (g.keep (PyE.Same.toKeep (sameUpd h)))
theorem new_lst {a : Addr} {xs : List V} {ds : List PyData} (h : H a = none) (g : FzAll K H xs ds) : NewR K H (upd H a (.lst xs)) (.nl ds) (.ref a) := ⟨a, xs, rfl, upd_same, g.keep (PyE.Same.toKeep (sameUpd h)), h⟩
theorem fz_vints : ∀ {xs : List V} {ns : List Int}, FzAll K H xs (ns.map PyData.int) → xs = ns.map V.int
  | [], [], _ => rfl
  | _ :: _, [], h => by cases h
  | _, n :: ns, h => by
    cases h with
    | cons z g => rw [fz_int z, fz_vints g]; rfl
end
/-- the ints of data -/
def intsOf : List PyData → Option (List Int)
  | [] => some []
  | .int i :: r => (intsOf r).map (i :: ·)
  | _ :: _ => none
theorem intsOf_map (ns : List Int) : intsOf (ns.map PyData.int) = some ns := by
  induction ns with
  | nil => rfl
  | cons n r ih => simp [intsOf, ih]
theorem intsOf_some : ∀ {ds : List PyData} {ns : List Int}, intsOf ds = some ns → ds = ns.map PyData.int
  | [], _, h => by cases h; rfl
  | .int i :: r, ns, h => by
    unfold intsOf at h
    cases q : intsOf r with
    | none => rw [q] at h; cases h
    | some l => rw [q] at h; cases h; rw [intsOf_some q]; rfl
  | .none :: _, _, h => by cases h
  | .bool _ :: _, _, h => by cases h
  | .str _ :: _, _, h => by cases h
  | .list _ :: _, _, h => by cases h
  | .tuple _ :: _, _, h => by cases h
  | .dict _ :: _, _, h => by cases h
def boolsOf : List PyData → Option (List Bool)
  | [] => some []
  | .bool i :: r => (boolsOf r).map (i :: ·)
  | _ :: _ => none
theorem boolsOf_some : ∀ {ds : List PyData} {ns : List Bool}, boolsOf ds = some ns → ds = ns.map PyData.bool
  | [], _, h => by cases h; rfl
  | .bool i :: r, ns, h => by
    unfold boolsOf at h
    cases q : boolsOf r with
    | none => rw [q] at h; cases h
    | some l => rw [q] at h; cases h; rw [boolsOf_some q]; rfl
  | .none :: _, _, h => by cases h
  | .int _ :: _, _, h => by cases h
  | .str _ :: _, _, h => by cases h
  | .list _ :: _, _, h => by cases h
  | .tuple _ :: _, _, h => by cases h
  | .dict _ :: _, _, h => by cases h
theorem fz_vbools {K : PySem.W.Frag} {H : Hp} : ∀ {xs : List V} {ns : List Bool}, FzAll K H xs (ns.map PyData.bool) → xs = ns.map V.bl
  | [], [], _ => rfl
  | _ :: _, [], h => by cases h
  | _, n :: ns, h => by
    cases h with
    | cons z g => rw [fz_bool z, fz_vbools g]; rfl

/-! ### arithmetic -/
def iD (i : Int) : Option Rv := some (.d (.int i))
def bD (b : Bool) : Option Rv := some (.d (.bool b))
def addD : PyData → PyData → Option Rv
  | .int i, .int j => iD (i + j)
  | .str x, .str y => if x.length + y.length ≤ sizeLine then some (.d (.str (x ++ y))) else none
  | .tuple xs, .tuple ys => if xs.length + ys.length ≤ sizeLine then some (.d (.tuple (xs ++ ys))) else none
  | .list xs, .list ys => if xs.length + ys.length ≤ sizeLine then some (.nl (xs ++ ys)) else none
  | _, _ => none
def subD : PyData → PyData → Option Rv
  | .int i, .int j => iD (i - j)
  | _, _ => none
def smallI (i : Int) : Bool := decide (-(2 ^ 64) < i ∧ i < 2 ^ 64)
def mulD : PyData → PyData → Option Rv
  | .int i, .int j => if smallI i = true ∨ smallI j = true then iD (i * j) else none
  | .list xs, .int k => if -1000000 ≤ k ∧ k ≤ 1000000 ∧ xs.length * k.toNat ≤ sizeLine then some (.nl (List.replicate k.toNat xs).flatten) else none
  | .tuple xs, .int k => if -1000 ≤ k ∧ k ≤ 1000 ∧ xs.length ≤ 1000 then some (.d (.tuple (List.replicate k.toNat xs).flatten)) else none
  | _, _ => none
def fdivD : PyData → PyData → Option Rv
  | .int i, .int j => if j ≠ 0 ∧ j.natAbs < 1073741824 then iD (i.fdiv j) else none
  | _, _ => none
def modD : PyData → PyData → Option Rv
  | .int i, .int j => if j ≠ 0 then iD (i.fmod j) else none
  | _, _ => none
def powD : PyData → PyData → Option Rv
  | .int i, .int j => if 0 ≤ j ∧ j ≤ 1000000 ∧ i.natAbs < 2 ^ 64 then iD (i ^ j.toNat) else none
  | _, _ => none
def shlD : PyData → PyData → Option Rv
  | .int i, .int j => if 0 ≤ j ∧ j ≤ 1000000 ∧ i.natAbs < 2 ^ 64 then iD (i * 2 ^ j.toNat) else none
  | _, _ => none
def shrD : PyData → PyData → Option Rv
  | .int i, .int j => if 0 ≤ j then iD (i / 2 ^ j.toNat) else none
  | _, _ => none
def bandD : PyData → PyData → Option Rv
  | .int i, .int j => iD (Builtin.bitAnd i j)
  | _, _ => none
def borD : PyData → PyData → Option Rv
  | .int i, .int j => iD (Builtin.bitOr i j)
  | _, _ => none
def negD : PyData → Option Rv
  | .int i => iD (-i)
  | _ => none
section
variable {X : Cx} {pins : List (Addr × Obj)} {σ : St} {H : Hp} {s : Shared}
theorem RL.exact {a : Addr} {xs : List V} (I : Inv X pins σ H s) (h : RL X.K H a xs) : ∃ (its : List Value) (n : Nat), Vals xs its ∧ xs.length ≤ sizeLine ∧ s.heap.get? a = some { cls := .type "list", dict := none, data := .seq its.toArray n, slots := #[] } := by
  rcases h with h | ⟨o, h⟩ | ⟨its, n, hk, hz, r⟩
  · obtain ⟨z, its, n, r, e⟩ := I.hok a _ h
    exact ⟨its, n, r, z, e⟩
  · obtain ⟨_, z, its, n, r, e⟩ := I.hok a _ h
    exact ⟨its, n, r, z, e⟩
  · refine ⟨its.toList, n, r, by rw [r.length]; simpa using hz, ?_⟩
    have e := I.kIn a _ hk
    simpa using e
def rCatR (K : PySem.W.Frag) : R2 := fun x y H Q => ∃ l b xs zs, x = .ref l ∧ y = .ref b ∧ RL K H l xs ∧ RL K H b zs ∧ xs.length + zs.length ≤ sizeLine ∧ ∀ p, H p = none → Q (.ref p) (upd H p (.lst (xs ++ zs)))
theorem opr_cat : OpR X (binaryOp .Add) (rCatR X.K) := by
  intro pins s σ H x y v u Q I rx ry h
  obtain ⟨l, b, xs, zs, rfl, rfl, h1, h2, hz, q⟩ := h
  cases rx
  cases ry
  obtain ⟨its, n, r, _, e⟩ := RL.exact I h1
  obtain ⟨its2, n2, r2, _, e2⟩ := RL.exact I h2
  have l1 := r.length
  have l2 := r2.length
  refine PySem.P.add_list e e2 ?_ (by rw [List.size_toArray, List.size_toArray]; omega)
  rw [show its.toArray ++ its2.toArray = (its ++ its2).toArray by simp]
  exact ⟨.ref _, _, I.lnew (t' := s.toks) (r.append r2) (by rw [List.length_append]; omega), rfl, q _ I.fresh⟩
/-- t + u, tuples -/
def rCatF (K : PySem.W.Frag) : R2 := fun x y H Q => ∃ a b xs ys, x = .ref a ∧ y = .ref b ∧ SqT K H a xs ∧ SqT K H b ys ∧ xs.length + ys.length ≤ sizeLine ∧
  (xs = [] → Q (.ref b) H) ∧ (xs ≠ [] → ys = [] → Q (.ref a) H) ∧ (xs ≠ [] → ys ≠ [] → ∀ p o, H p = none → o.dict = none → Q (.ref p) (upd H p (.frz o (.tup (xs ++ ys)))))
theorem opr_catF : OpR X (binaryOp .Add) (rCatF X.K) := by
  intro pins s σ H x y v u Q I rx ry ⟨a, b, xs, ys, ex, ey, ha, hb, hz, q0, q1, q2⟩
  subst ex ey
  cases rx; cases ry
  obtain ⟨its, r1, p1, _⟩ := I.tuple ha
  obtain ⟨its2, r2, p2, _⟩ := I.tuple hb
  by_cases hx : xs = []
  · subst hx
    cases r1
    exact cat_tup0 p1 p2 ⟨.ref b, H, I, rfl, q0 rfl⟩
  · refine HT.cat_tup p1 p2 (fun z => hx (r1.nil_iff.mp z)) (fun z => ⟨.ref a, H, I, rfl, q1 hx (r2.nil_iff.mp z)⟩) (fun z => ?_) (by have := r1.length; have := r2.length; omega)
    have e := Heap.get?_push_size s.heap (o := { cls := .type "tuple", data := .seq (its ++ its2).toArray }) rfl
    exact ⟨.ref s.heap.objs.size, _, I.laid (t' := s.toks) (o := .frz { cls := .type "tuple", data := .seq (its ++ its2).toArray } (.tup (xs ++ ys))) (fun b ob q => Heap.get?_push_of_some _ q) (Nat.le_refl _) ⟨e, by rw [List.length_append]; exact hz, _, r1.append r2, IsTup.new _ _⟩, rfl, q2 hx (fun w => z (r2.nil_iff.mpr w)) _ _ (I.hok.fresh (Nat.le_refl _)) rfl⟩
theorem opr_add : OpR X (binaryOp .Add) (fun x y H Q => rI0 (fun i j => .int (i + j)) x y H Q ∨ (fun x y H Q => ∃ i j, x = V.str i ∧ y = .str j ∧ i.length + j.length ≤ sizeLine ∧ Q (.str (i ++ j)) H) x y H Q ∨ rCatF X.K x y H Q ∨ rCatR X.K x y H Q) :=
  op_add.or (op_add_str.or (opr_catF.or opr_cat))
theorem opd_add {K : PySem.W.Frag} : Op2 K (fun x y H Q => rI0 (fun i j => .int (i + j)) x y H Q ∨ (fun x y H Q => ∃ i j, x = V.str i ∧ y = .str j ∧ i.length + j.length ≤ sizeLine ∧ Q (.str (i ++ j)) H) x y H Q ∨ rCatF K x y H Q ∨ rCatR K x y H Q) addD := by
  intro H x y a b z Q rx ry e q
  unfold addD at e
  split at e
  · cases e; cases rb_int rx; cases rb_int ry
    exact .inl ⟨_, _, rfl, rfl, q _ _ (fun _ _ h => h) (.int _)⟩
  · split at e
    · rename_i hz
      cases e; cases rb_str rx; cases rb_str ry
      exact .inr (.inl ⟨_, _, rfl, rfl, hz, q _ _ (fun _ _ h => h) (.str _)⟩)
    · cases e
  · split at e
    · rename_i hz
      cases e
      obtain ⟨p, xs, rfl, h1, g1⟩ := rb_tup rx
      obtain ⟨p2, ys, rfl, h2, g2⟩ := rb_tup ry
      refine .inr (.inr (.inl ⟨p, p2, xs, ys, rfl, rfl, h1.sq, h2.sq, by rw [g1.length, g2.length]; exact hz, fun e0 => ?_, fun e1 e0 => ?_, fun e1 e0 l ob hl hob => ?_⟩))
      · subst e0
        cases g1
        exact q _ _ (fun _ _ h => h) (.tup h2 g2)
      · subst e0
        cases g2
        rw [List.append_nil] at q
        exact q _ _ (fun _ _ h => h) (.tup h1 g1)
      · exact q _ _ (sameUpd hl) (new_tup hl hob (g1.append g2))
    · cases e
  · split at e
    · rename_i hz
      cases e
      obtain ⟨p, xs, rfl, h1, g1⟩ := rb_lst rx
      obtain ⟨p2, ys, rfl, h2, g2⟩ := rb_lst ry
      exact .inr (.inr (.inr ⟨p, p2, xs, ys, rfl, rfl, h1, h2, by rw [g1.length, g2.length]; exact hz, fun l hl => q _ _ (sameUpd hl) (new_lst hl (g1.append g2))⟩))
    · cases e
  · cases e
theorem opd_I0 {K : PySem.W.Frag} {f : Int → Int → Int} {g : PyData → PyData → Option Rv} (hg : ∀ a b z, g a b = some z → ∃ i j, a = .int i ∧ b = .int j ∧ z = .d (.int (f i j))) : Op2 K (rI0 fun i j => .int (f i j)) g := by
  intro H x y a b z Q rx ry e q
  obtain ⟨i, j, rfl, rfl, rfl⟩ := hg a b z e
  cases rb_int rx; cases rb_int ry
  exact ⟨_, _, rfl, rfl, q _ _ (fun _ _ h => h) (.int _)⟩
theorem opd_I {K : PySem.W.Frag} {C : Int → Int → Prop} {f : Int → Int → Int} {g : PyData → PyData → Option Rv} (hg : ∀ a b z, g a b = some z → ∃ i j, a = .int i ∧ b = .int j ∧ z = .d (.int (f i j)) ∧ C i j) : Op2 K (rI C fun i j => .int (f i j)) g := by
  intro H x y a b z Q rx ry e q
  obtain ⟨i, j, rfl, rfl, rfl, c⟩ := hg a b z e
  cases rb_int rx; cases rb_int ry
  exact ⟨_, _, rfl, rfl, c, q _ _ (fun _ _ h => h) (.int _)⟩
theorem opd_sub {K : PySem.W.Frag} : Op2 K (rI0 fun i j => .int (i - j)) subD := opd_I0 fun a b z e => by
  unfold subD at e
  split at e
  · cases e; exact ⟨_, _, rfl, rfl, rfl⟩
  · cases e
theorem opd_fdiv {K : PySem.W.Frag} : Op2 K (rI CDivN fun i j => .int (i.fdiv j)) fdivD := opd_I fun a b z e => by
  unfold fdivD at e
  split at e
  · split at e
    · rename_i h; cases e; exact ⟨_, _, rfl, rfl, rfl, h⟩
    · cases e
  · cases e
theorem opd_mod {K : PySem.W.Frag} : Op2 K (rI (fun _ j => j ≠ 0) fun i j => .int (i.fmod j)) modD := opd_I fun a b z e => by
  unfold modD at e
  split at e
  · split at e
    · rename_i h; cases e; exact ⟨_, _, rfl, rfl, rfl, h⟩
    · cases e
  · cases e
theorem opd_pow {K : PySem.W.Frag} : Op2 K (rI CPow fun i j => .int (i ^ j.toNat)) powD := opd_I fun a b z e => by
  unfold powD at e
  split at e
  · split at e
    · rename_i h; cases e; exact ⟨_, _, rfl, rfl, rfl, h⟩
    · cases e
  · cases e
theorem opd_shl {K : PySem.W.Frag} : Op2 K (rI CPow fun i j => .int (i * 2 ^ j.toNat)) shlD := opd_I fun a b z e => by
  unfold shlD at e
  split at e
  · split at e
    · rename_i h; cases e; exact ⟨_, _, rfl, rfl, rfl, h⟩
    · cases e
  · cases e
theorem opd_shr {K : PySem.W.Frag} : Op2 K (rI (fun _ j => 0 ≤ j) fun i j => .int (i / 2 ^ j.toNat)) shrD := opd_I fun a b z e => by
  unfold shrD at e
  split at e
  · split at e
    · rename_i h; cases e; exact ⟨_, _, rfl, rfl, rfl, h⟩
    · cases e
  · cases e
theorem opd_band {K : PySem.W.Frag} : Op2 K (rI0 fun i j => .int (Builtin.bitAnd i j)) bandD := opd_I0 fun a b z e => by
  unfold bandD at e
  split at e
  · cases e; exact ⟨_, _, rfl, rfl, rfl⟩
  · cases e
theorem opd_bor {K : PySem.W.Frag} : Op2 K (rI0 fun i j => .int (Builtin.bitOr i j)) borD := opd_I0 fun a b z e => by
  unfold borD at e
  split at e
  · cases e; exact ⟨_, _, rfl, rfl, rfl⟩
  · cases e
/-- a list that stands, or is frozen, times an int -/
def rRepR (K : PySem.W.Frag) : R2 := fun x y H Q => ∃ l k xs, x = .ref l ∧ y = .int k ∧ H l = some (.lst xs) ∧ -(2 ^ 63) ≤ k ∧ k < 2 ^ 63 ∧ xs.length * k.toNat ≤ sizeLine ∧ ∀ p, H p = none → Q (.ref p) (upd H p (.lst (List.replicate k.toNat xs).flatten))
theorem fz_rep {K : PySem.W.Frag} {H : Hp} {xs : List V} {ds : List PyData} (g : FzAll K H xs ds) : ∀ k : Nat, FzAll K H (List.replicate k xs).flatten (List.replicate k ds).flatten
  | 0 => .nil
  | k + 1 => by
    rw [List.replicate_succ, List.replicate_succ, List.flatten_cons, List.flatten_cons]
    exact g.append (fz_rep g k)
theorem cmul_of {i j : Int} (h : smallI i = true ∨ smallI j = true) : CMul i j := by
  rcases h with h | h
  · exact .inl (of_decide_eq_true h)
  · exact .inr (of_decide_eq_true h)
theorem opd_mul {K : PySem.W.Frag} : Op2 K (rI CMul fun i j => .int (i * j)) (fun a b => match a, b with
    | .int i, .int j => mulD (.int i) (.int j)
    | _, _ => none) := opd_I fun a b z e => by
  split at e
  · unfold mulD at e
    simp only at e
    split at e
    · rename_i h; cases e; exact ⟨_, _, rfl, rfl, rfl, cmul_of h⟩
    · cases e
  · cases e
theorem und_neg {K : PySem.W.Frag} : Op1 K (rU fun i => .int (-i)) negD := by
  intro H x a z Q rx e q
  unfold negD at e
  split at e
  · cases e; cases rb_int rx
    exact ⟨_, rfl, q _ _ (fun _ _ h => h) (.int _)⟩
  · cases e
end

/-! ### comparisons -/
def eqP : PyData → PyData → Option Bool
  | .int i, .int j => some (i == j)
  | .str x, .str y => some (x == y)
  | a, b => if (SeqAt.shaped a && SeqAt.shaped b) = true then some (PyData.eqv a b) else none
def eqD (a b : PyData) : Option Rv := match eqP a b with
  | some k => bD k
  | none => none
def neD (a b : PyData) : Option Rv := match eqP a b with
  | some k => bD (!k)
  | none => none
def cmpD (p : Int → Int → Bool) : PyData → PyData → Option Rv
  | .int i, .int j => bD (p i j)
  | _, _ => none
def inD (neg : Bool) (a b : PyData) : Option Rv := if (SeqAt.shaped a && SeqAt.shaped b) = true then match b with
    | .list ds => bD (neg != ds.any fun z => PyData.eqv z a)
    | .tuple ds => bD (neg != ds.any fun z => PyData.eqv z a)
    | .str y => match a with
      | .str x => bD (neg != !(Builtin.Str.occurrences y x 0 y.length 1).isEmpty)
      | _ => none
    | _ => none
  else none
def isND (neg : Bool) : PyData → Option Rv
  | .none => bD (neg != true)
  | _ => bD (neg != false)
section
variable {X : Cx}
abbrev rEqP (K : PySem.W.Frag) : R2 := fun x y H Q => rEq x y H Q ∨ rEqD K x y H Q
abbrev rNeP (K : PySem.W.Frag) : R2 := fun x y H Q => rNe x y H Q ∨ rNeD K x y H Q
theorem opr_eq (hu : X.A.units + 64 < cLine) : OpR X (compareOp .Eq) (rEqP X.K) := op_eq.or (op_eqD hu)
theorem opr_ne (hu : X.A.units + 64 < cLine) : OpR X (compareOp .NotEq) (rNeP X.K) := op_ne.or (op_neD hu)
theorem eqP_ok {K : PySem.W.Frag} {H : Hp} {x y : V} {a b : PyData} {k : Bool} (rx : Rb K H x a) (ry : Rb K H y b) (e : eqP a b = some k) : (scal x y = true ∧ decide (x = y) = k) ∨ (Dp K H x a ∧ Dp K H y b ∧ SeqAt.shaped a = true ∧ SeqAt.shaped b = true ∧ PyData.eqv a b = k) := by
  unfold eqP at e
  split at e
  · cases e; cases rb_int rx; cases rb_int ry
    exact .inl ⟨rfl, dec_int⟩
  · cases e; cases rb_str rx; cases rb_str ry
    exact .inl ⟨rfl, dec_str⟩
  · split at e
    · rename_i h
      obtain ⟨h1, h2⟩ := Bool.and_eq_true_iff.mp h
      cases e
      exact .inr ⟨rx.dp h1, ry.dp h2, h1, h2, rfl⟩
    · cases e
theorem opd_eq {K : PySem.W.Frag} : Op2 K (rEqP K) eqD := by
  intro H x y a b z Q rx ry e q
  unfold eqD at e
  split at e
  · rename_i k ek
    cases e
    rcases eqP_ok rx ry ek with ⟨h1, h2⟩ | ⟨h1, h2, h3, h4, h5⟩
    · exact .inl ⟨h1, q _ _ (fun _ _ h => h) (by rw [h2]; exact .bl _)⟩
    · exact .inr ⟨a, b, h1, h2, h3, h4, q _ _ (fun _ _ h => h) (by rw [h5]; exact .bl _)⟩
  · cases e
theorem opd_ne {K : PySem.W.Frag} : Op2 K (rNeP K) neD := by
  intro H x y a b z Q rx ry e q
  unfold neD at e
  split at e
  · rename_i k ek
    cases e
    rcases eqP_ok rx ry ek with ⟨h1, h2⟩ | ⟨h1, h2, h3, h4, h5⟩
    · exact .inl ⟨h1, q _ _ (fun _ _ h => h) (by rw [h2]; exact .bl _)⟩
    · exact .inr ⟨a, b, h1, h2, h3, h4, q _ _ (fun _ _ h => h) (by rw [h5]; exact .bl _)⟩
  · cases e
theorem opd_cmp {K : PySem.W.Frag} (p : Int → Int → Bool) : Op2 K (rI0 fun i j => .bl (p i j)) (cmpD p) := by
  intro H x y a b z Q rx ry e q
  unfold cmpD at e
  split at e
  · cases e; cases rb_int rx; cases rb_int ry
    exact ⟨_, _, rfl, rfl, q _ _ (fun _ _ h => h) (.bl _)⟩
  · cases e
/-- x in a list, a tuple, a text -/
def rInR (K : PySem.W.Frag) (neg : Bool) : R2 := fun x y H Q => ∃ d e, Dp K H x d ∧ Dp K H y e ∧ SeqAt.shaped d = true ∧ SeqAt.shaped e = true ∧ ∃ z, inD neg d e = some (.d (.bool z)) ∧ Q (.bl z) H
theorem dp_str {K : PySem.W.Frag} {H : Hp} {v : V} {x : Str} (h : Dp K H v (.str x)) : v = .str x := by cases h; rfl
theorem opr_in (hu : X.A.units + 65 < cLine) : OpR X (compareOp .In) (rInR X.K false) := by
  intro pins s σ H x y v u Q I rx ry h
  obtain ⟨d, e, hd, he, sd, se, z, ez, q⟩ := h
  unfold inD at ez
  rw [if_pos (by rw [sd, se]; rfl)] at ez
  obtain ⟨as, r1⟩ := Dp.reads I d x v hd rx
  obtain ⟨bs, r2⟩ := Dp.reads I e y u he ry
  cases e with
  | list ds =>
    cases ez
    exact SeqAt.in_list_reads r2 r1 (SeqAt.canLay_of_shaped se) (SeqAt.canLay_of_shaped sd) (PyProof.Rows.room_in_shaped sd hu) ⟨.bl _, H, I, by simp [L2.RelV], q⟩
  | tuple ds =>
    cases ez
    exact SeqAt.in_tuple_reads r2 r1 (SeqAt.canLay_of_shaped se) (SeqAt.canLay_of_shaped sd) (PyProof.Rows.room_in_shaped sd hu) ⟨.bl _, H, I, by simp [L2.RelV], q⟩
  | str yy =>
    cases d with
    | str xx =>
      cases ez
      cases dp_str hd
      cases dp_str he
      exact op_in_str pins s σ H _ _ v u Q I rx ry ⟨_, _, rfl, rfl, by simpa using q⟩
    | _ => cases ez
  | _ => cases ez
theorem opr_notIn (hu : X.A.units + 65 < cLine) : OpR X (compareOp .NotIn) (rInR X.K true) := by
  intro pins s σ H x y v u Q I rx ry h
  obtain ⟨d, e, hd, he, sd, se, z, ez, q⟩ := h
  unfold inD at ez
  rw [if_pos (by rw [sd, se]; rfl)] at ez
  obtain ⟨as, r1⟩ := Dp.reads I d x v hd rx
  obtain ⟨bs, r2⟩ := Dp.reads I e y u he ry
  cases e with
  | list ds =>
    cases ez
    exact SeqAt.notIn_list_reads r2 r1 (SeqAt.canLay_of_shaped se) (SeqAt.canLay_of_shaped sd) (PyProof.Rows.room_in_shaped sd hu) ⟨.bl _, H, I, by simp [L2.RelV], q⟩
  | tuple ds =>
    cases ez
    exact SeqAt.notIn_tuple_reads r2 r1 (SeqAt.canLay_of_shaped se) (SeqAt.canLay_of_shaped sd) (PyProof.Rows.room_in_shaped sd hu) ⟨.bl _, H, I, by simp [L2.RelV], q⟩
  | str yy =>
    cases d with
    | str xx =>
      cases ez
      cases dp_str hd
      cases dp_str he
      exact op_notin_str pins s σ H _ _ v u Q I rx ry ⟨_, _, rfl, rfl, by simpa using q⟩
    | _ => cases ez
  | _ => cases ez
theorem inD_bool {neg : Bool} {a b : PyData} {z : Rv} (e : inD neg a b = some z) : SeqAt.shaped a = true ∧ SeqAt.shaped b = true ∧ ∃ k, z = .d (.bool k) := by
  unfold inD at e
  split at e
  · rename_i h
    obtain ⟨h1, h2⟩ := Bool.and_eq_true_iff.mp h
    refine ⟨h1, h2, ?_⟩
    split at e
    · cases e; exact ⟨_, rfl⟩
    · cases e; exact ⟨_, rfl⟩
    · split at e
      · cases e; exact ⟨_, rfl⟩
      · cases e
    · cases e
  · cases e
theorem opd_in {K : PySem.W.Frag} (neg : Bool) : Op2 K (rInR K neg) (inD neg) := by
  intro H x y a b z Q rx ry e q
  obtain ⟨h1, h2, k, rfl⟩ := inD_bool e
  exact ⟨a, b, rx.dp h1, ry.dp h2, h1, h2, k, e, q _ _ (fun _ _ h => h) (.bl _)⟩
/-- x is None -/
theorem rb_isN {K : PySem.W.Frag} {H : Hp} {v : V} {d : PyData} (h : Rb K H v d) : decide (v = .non) = (match d with | .none => true | _ => false) := by
  cases h with
  | fz h => cases h <;> rfl
  | lst h g => rfl
  | dic h => rfl
theorem opd_isN {K : PySem.W.Frag} : Op2 K (fun x y H Q => y = .non ∧ Q (.bl (decide (x = .non))) H) (fun a b => match b with | .none => isND false a | _ => none) := by
  intro H x y a b z Q rx ry e q
  cases b with
  | none =>
    refine ⟨rb_non ry, ?_⟩
    rw [rb_isN rx]
    have e : isND false a = some z := e
    cases a <;> (cases e; exact q _ _ (fun _ _ h => h) (.bl _))
  | _ => cases e
theorem opd_notN {K : PySem.W.Frag} : Op2 K (fun x y H Q => y = .non ∧ Q (.bl (!decide (x = .non))) H) (fun a b => match b with | .none => isND true a | _ => none) := by
  intro H x y a b z Q rx ry e q
  cases b with
  | none =>
    refine ⟨rb_non ry, ?_⟩
    rw [rb_isN rx]
    have e : isND true a = some z := e
    cases a <;> (cases e; exact q _ _ (fun _ _ h => h) (.bl _))
  | _ => cases e
end

/-! ### items -/
def ixD : PyData → PyData → Option Rv
  | .list xs, .int i => (atI xs i).map Rv.d
  | .tuple xs, .int i => (atI xs i).map Rv.d
  | .str z, .int i => if z.length ≤ sizeLine then (atI z.cps.toList i).map fun c => Rv.d (.str ⟨#[c]⟩) else none
  | _, _ => none
theorem fz_atI {K : PySem.W.Frag} {H : Hp} {xs : List V} {ds : List PyData} {i : Int} {d : PyData} (g : FzAll K H xs ds) (e : atI ds i = some d) : ∃ v, atI xs i = some v ∧ Fz K H v d := by
  unfold atI at e ⊢
  rw [g.length]
  cases q : ixN ds.length i with
  | none => rw [q] at e; cases e
  | some j => rw [q] at e; exact g.get e
theorem opd_ix {K : PySem.W.Frag} : Op2 K (rIx K) ixD := by
  intro H x y a b z Q rx ry e q
  unfold ixD at e
  split at e
  · rename_i xs i
    cases e1 : atI xs i with
    | none => rw [e1] at e; cases e
    | some d =>
      rw [e1] at e; cases e
      cases rb_int ry
      obtain ⟨p, ys, rfl, h1, g1⟩ := rb_lst rx
      obtain ⟨v, e2, hz⟩ := fz_atI g1 e1
      exact .inl ⟨p, ys, _, v, rfl, rfl, h1.seq, e2, q _ _ (fun _ _ h => h) hz⟩
  · rename_i xs i
    cases e1 : atI xs i with
    | none => rw [e1] at e; cases e
    | some d =>
      rw [e1] at e; cases e
      cases rb_int ry
      obtain ⟨p, ys, rfl, h1, g1⟩ := rb_tup rx
      obtain ⟨v, e2, hz⟩ := fz_atI g1 e1
      exact .inr (.inl ⟨p, ys, _, v, rfl, rfl, h1.sq, e2, q _ _ (fun _ _ h => h) hz⟩)
  · rename_i zz i
    split at e
    · rename_i hz
      cases e1 : atI zz.cps.toList i with
      | none => rw [e1] at e; cases e
      | some c =>
        rw [e1] at e; cases e
        cases rb_int ry
        cases rb_str rx
        exact .inr (.inr ⟨zz, _, c, rfl, rfl, hz, e1, q _ _ (fun _ _ h => h) (.str _)⟩)
    · cases e
  · cases e

/-! ### what is built in -/
def lenD : List PyData → Option Rv
  | [.list xs] => iD xs.length
  | [.tuple xs] => iD xs.length
  | [.str z] => if z.length ≤ sizeLine then iD z.length else none
  | _ => none
def absD : List PyData → Option Rv
  | [.int i] => iD (if i < 0 then -i else i)
  | _ => none
def max2D : List PyData → Option Rv
  | [.int i, .int j] => iD (if j > i then j else i)
  | _ => none
def min2D : List PyData → Option Rv
  | [.int i, .int j] => iD (if j < i then j else i)
  | _ => none
def int1D : List PyData → Option Rv
  | [.int i] => iD i
  | [.bool b] => iD (if b then 1 else 0)
  | _ => none
def sumD : List PyData → Option Rv
  | [.list xs] => (intsOf xs).bind fun ns => iD ns.sum
  | [.tuple xs] => (intsOf xs).bind fun ns => iD ns.sum
  | _ => none
def tupleD : List PyData → Option Rv
  | [.list xs] => some (.d (.tuple xs))
  | [.tuple xs] => some (.d (.tuple xs))
  | _ => none
def listD : List PyData → Option Rv
  | [.list xs] => some (.nl xs)
  | [.tuple xs] => some (.nl xs)
  | _ => none
def allD : List PyData → Option Rv
  | [.list xs] => (boolsOf xs).bind fun ns => bD (ns.all id)
  | _ => none
def anyD : List PyData → Option Rv
  | [.list xs] => (boolsOf xs).bind fun ns => bD (ns.any id)
  | _ => none
mutual
/-- no list stands within -/
def nol : PyData → Bool
  | .list _ => false
  | .tuple xs => nolAll xs
  | .dict kvs => nolKv kvs
  | _ => true
def nolAll : List PyData → Bool
  | [] => true
  | x :: xs => nol x && nolAll xs
def nolKv : List (PyData × PyData) → Bool
  | [] => true
  | (k, v) :: xs => nol k && (nol v && nolKv xs)
end
theorem nolKv_vals : ∀ {kvs : Kvs}, nolKv kvs = true → nolAll (kvs.map (·.2)) = true
  | [], _ => rfl
  | (k, v) :: kvs, h => by
    simp only [nolKv, Bool.and_eq_true] at h
    rw [List.map_cons, nolAll, h.2.1, nolKv_vals h.2.2]
    rfl
def reprD : List PyData → Option Rv
  | [d] => if d.showable = true ∧ d.depth ≤ 60 ∧ d.shown.length ≤ sizeLine ∧ (d.hasDict = false ∨ nol d = true) then some (.d (.str d.shown)) else none
  | _ => none
theorem rba1 {K : PySem.W.Frag} {H : Hp} {xs : List V} {d : PyData} (h : RbAll K H xs [d]) : ∃ v, xs = [v] ∧ Rb K H v d := by
  cases h with
  | cons h g => cases g; exact ⟨_, rfl, h⟩
theorem rba2 {K : PySem.W.Frag} {H : Hp} {xs : List V} {d e : PyData} (h : RbAll K H xs [d, e]) : ∃ v w, xs = [v, w] ∧ Rb K H v d ∧ Rb K H w e := by
  cases h with
  | cons h g => obtain ⟨w, rfl, h2⟩ := rba1 g; exact ⟨_, _, rfl, h, h2⟩
section
variable {X : Cx}
theorem opd_len {K : PySem.W.Frag} : OpN K (fun xs H Q => (∃ p ys, xs = [.ref p] ∧ (SqL K H p ys ∨ SqT K H p ys) ∧ Q (.int ys.length) H) ∨ ∃ z, xs = [.str z] ∧ z.length ≤ sizeLine ∧ Q (.int z.length) H) lenD := by
  intro H xs as z Q rx e q
  unfold lenD at e
  split at e
  · cases e
    obtain ⟨v, rfl, h⟩ := rba1 rx
    obtain ⟨p, ys, rfl, h1, g1⟩ := rb_lst h
    exact .inl ⟨p, ys, rfl, .inl h1.seq, by rw [g1.length]; exact q _ _ (fun _ _ h => h) (.int _)⟩
  · cases e
    obtain ⟨v, rfl, h⟩ := rba1 rx
    obtain ⟨p, ys, rfl, h1, g1⟩ := rb_tup h
    exact .inl ⟨p, ys, rfl, .inr h1.sq, by rw [g1.length]; exact q _ _ (fun _ _ h => h) (.int _)⟩
  · split at e
    · rename_i hz
      cases e
      obtain ⟨v, rfl, h⟩ := rba1 rx
      cases rb_str h
      exact .inr ⟨_, rfl, hz, q _ _ (fun _ _ h => h) (.int _)⟩
    · cases e
  · cases e
theorem opr_len : CallR X (.builtin "len") (fun xs H Q => (∃ p ys, xs = [.ref p] ∧ (SqL X.K H p ys ∨ SqT X.K H p ys) ∧ Q (.int ys.length) H) ∨ ∃ z, xs = [.str z] ∧ z.length ≤ sizeLine ∧ Q (.int z.length) H) := call_len_seq.or call_len_str
theorem opd_abs {K : PySem.W.Frag} : OpN K (fun xs H Q => ∃ i, xs = [.int i] ∧ Q (.int (if i < 0 then -i else i)) H) absD := by
  intro H xs as z Q rx e q
  unfold absD at e
  split at e
  · cases e
    obtain ⟨v, rfl, h⟩ := rba1 rx
    cases rb_int h
    exact ⟨_, rfl, q _ _ (fun _ _ h => h) (.int _)⟩
  · cases e
theorem opd_max2 {K : PySem.W.Frag} : OpN K (fun xs H Q => ∃ i j, xs = [.int i, .int j] ∧ Q (.int (if j > i then j else i)) H) max2D := by
  intro H xs as z Q rx e q
  unfold max2D at e
  split at e
  · cases e
    obtain ⟨v, w, rfl, h, h2⟩ := rba2 rx
    cases rb_int h; cases rb_int h2
    exact ⟨_, _, rfl, q _ _ (fun _ _ h => h) (.int _)⟩
  · cases e
theorem opd_min2 {K : PySem.W.Frag} : OpN K (fun xs H Q => ∃ i j, xs = [.int i, .int j] ∧ Q (.int (if j < i then j else i)) H) min2D := by
  intro H xs as z Q rx e q
  unfold min2D at e
  split at e
  · cases e
    obtain ⟨v, w, rfl, h, h2⟩ := rba2 rx
    cases rb_int h; cases rb_int h2
    exact ⟨_, _, rfl, q _ _ (fun _ _ h => h) (.int _)⟩
  · cases e
theorem opd_int1 {K : PySem.W.Frag} : OpN K (fun xs H Q => (∃ i, xs = [.int i] ∧ Q (.int i) H) ∨ ∃ k, xs = [.bl k] ∧ Q (.int (if k then 1 else 0)) H) int1D := by
  intro H xs as z Q rx e q
  unfold int1D at e
  split at e
  · cases e
    obtain ⟨v, rfl, h⟩ := rba1 rx
    cases rb_int h
    exact .inl ⟨_, rfl, q _ _ (fun _ _ h => h) (.int _)⟩
  · cases e
    obtain ⟨v, rfl, h⟩ := rba1 rx
    cases rb_bool h
    exact .inr ⟨_, rfl, q _ _ (fun _ _ h => h) (.int _)⟩
  · cases e
def rSumF (K : PySem.W.Frag) : List V → Hp → VK → Prop := fun vs H Q => rSum K vs H Q ∨ ∃ (a : Addr) (ns : List Int), vs = [V.ref a] ∧ SqT K H a (ns.map V.int) ∧ Q (.int ns.sum) H
theorem cr_sumF {X : Cx} (hc : X.calm = true) : CallR X (.builtin "sum") (rSumF X.K) := by
  intro pins s σ H vs us Q I r h
  rcases h with h | ⟨a, ns, rfl, hs, q⟩
  · exact cr_sum hc pins s σ H vs us Q I r h
  · obtain ⟨its, rv, hl, _⟩ := I.tuple hs
    rw [Vals.ref1 r]
    have hi : IntsAre its ns := rv.ints
    obtain ⟨xs, e⟩ := hi.allInts.items
    have hn : numsOf (intItems xs).toList = ns := by rw [← e]; exact hi.numsOf
    rw [nums_intItems] at hn
    rw [e] at hl
    refine PySem.W.ktm_sumG (I.ok.hd hc) hl fun h' tk t' hk => ?_
    rw [preSum_eq, List.take_of_length_le (by simp), hn]
    exact ⟨.int _, H, I.kept hk, ⟨_, rfl⟩, q⟩
theorem opd_sum {K : PySem.W.Frag} : OpN K (rSumF K) sumD := by
  intro H xs as z Q rx e q
  unfold sumD at e
  split at e
  · rename_i ds
    cases e1 : intsOf ds with
    | none => rw [e1] at e; cases e
    | some ns =>
      rw [e1] at e; cases e
      have e2 := intsOf_some e1
      subst e2
      obtain ⟨v, rfl, h⟩ := rba1 rx
      obtain ⟨p, ys, rfl, h1, g1⟩ := rb_lst h
      have e3 := fz_vints g1
      subst e3
      exact .inl ⟨p, ns, rfl, h1.seq, q _ _ (fun _ _ h => h) (.int _)⟩
  · rename_i ds
    cases e1 : intsOf ds with
    | none => rw [e1] at e; cases e
    | some ns =>
      rw [e1] at e; cases e
      have e2 := intsOf_some e1
      subst e2
      obtain ⟨v, rfl, h⟩ := rba1 rx
      obtain ⟨p, ys, rfl, h1, g1⟩ := rb_tup h
      have e3 := fz_vints g1
      subst e3
      exact .inr ⟨p, ns, rfl, h1.sq, q _ _ (fun _ _ h => h) (.int _)⟩
  · cases e
theorem opd_all {K : PySem.W.Frag} : OpN K (rAll K) allD := by
  intro H xs as z Q rx e q
  unfold allD at e
  split at e
  · rename_i ds
    cases e1 : boolsOf ds with
    | none => rw [e1] at e; cases e
    | some ns =>
      rw [e1] at e; cases e
      have e2 := boolsOf_some e1
      subst e2
      obtain ⟨v, rfl, h⟩ := rba1 rx
      obtain ⟨p, ys, rfl, h1, g1⟩ := rb_lst h
      have e3 := fz_vbools g1
      subst e3
      exact ⟨p, ns, rfl, h1.seq, q _ _ (fun _ _ h => h) (.bl _)⟩
  · cases e
theorem opd_any {K : PySem.W.Frag} : OpN K (rAny K) anyD := by
  intro H xs as z Q rx e q
  unfold anyD at e
  split at e
  · rename_i ds
    cases e1 : boolsOf ds with
    | none => rw [e1] at e; cases e
    | some ns =>
      rw [e1] at e; cases e
      have e2 := boolsOf_some e1
      subst e2
      obtain ⟨v, rfl, h⟩ := rba1 rx
      obtain ⟨p, ys, rfl, h1, g1⟩ := rb_lst h
      have e3 := fz_vbools g1
      subst e3
      exact ⟨p, ns, rfl, h1.seq, q _ _ (fun _ _ h => h) (.bl _)⟩
  · cases e
/-- tuple(x) of a list, a tuple -/
def rTupF (K : PySem.W.Frag) : List V → Hp → VK → Prop := fun xs H Q => ∃ p ys, xs = [.ref p] ∧ ((SqL K H p ys ∧ ∀ l o, H l = none → o.dict = none → Q (.ref l) (upd H l (.frz o (.tup ys)))) ∨ (SqT K H p ys ∧ Q (.ref p) H))
theorem opr_tupF : CallR X (.type "tuple") (rTupF X.K) := by
  intro pins s σ H xs us Q I r ⟨p, ys, ex, h⟩
  subst ex
  obtain ⟨u, rfl, rx⟩ := vals1 r
  cases rx
  rcases h with ⟨hq, q⟩ | ⟨hq, q⟩
  · obtain ⟨its, r', pl, hz⟩ := I.list hq
    refine call_tuple_list pl.isList (fun h' kp => ?_) (by have := r'.length; simp only [List.size_toArray] <;> omega)
    have I1 : Inv X pins σ H { s with heap := h' } := I.kept (t' := s.toks) kp
    have e := Heap.get?_push_size h' (o := { cls := .type "tuple", data := .seq its.toArray }) rfl
    exact ⟨.ref h'.objs.size, _, I1.laid (t' := s.toks) (o := .frz { cls := .type "tuple", data := .seq its.toArray } (.tup ys)) (fun b o e => Heap.get?_push_of_some _ e) (Nat.le_refl _) ⟨e, hz, its, r', IsTup.new _ _⟩, rfl, q _ _ (I1.hok.fresh (Nat.le_refl _)) rfl⟩
  · obtain ⟨its, r', pl, hz⟩ := I.tuple hq
    exact call_tuple_same pl ⟨.ref p, H, I, rfl, q⟩
theorem opd_tuple {K : PySem.W.Frag} : OpN K (rTupF K) tupleD := by
  intro H xs as z Q rx e q
  unfold tupleD at e
  split at e
  · cases e
    obtain ⟨v, rfl, h⟩ := rba1 rx
    obtain ⟨p, ys, rfl, h1, g1⟩ := rb_lst h
    exact ⟨p, ys, rfl, .inl ⟨h1.seq, fun l ob hl hob => q _ _ (sameUpd hl) (new_tup hl hob g1)⟩⟩
  · cases e
    obtain ⟨v, rfl, h⟩ := rba1 rx
    obtain ⟨p, ys, rfl, h1, g1⟩ := rb_tup h
    exact ⟨p, ys, rfl, .inr ⟨h1.sq, q _ _ (fun _ _ h => h) (.tup h1 g1)⟩⟩
  · cases e
theorem opd_list {K : PySem.W.Frag} : OpN K (fun xs H Q => ∃ p ys, xs = [.ref p] ∧ (SqL K H p ys ∨ SqT K H p ys) ∧ ∀ l, H l = none → Q (.ref l) (upd H l (.lst ys))) listD := by
  intro H xs as z Q rx e q
  unfold listD at e
  split at e
  · cases e
    obtain ⟨v, rfl, h⟩ := rba1 rx
    obtain ⟨p, ys, rfl, h1, g1⟩ := rb_lst h
    exact ⟨p, ys, rfl, .inl h1.seq, fun l hl => q _ _ (sameUpd hl) (new_lst hl g1)⟩
  · cases e
    obtain ⟨v, rfl, h⟩ := rba1 rx
    obtain ⟨p, ys, rfl, h1, g1⟩ := rb_tup h
    exact ⟨p, ys, rfl, .inr h1.sq, fun l hl => q _ _ (sameUpd hl) (new_lst hl g1)⟩
  · cases e
/-- repr of data -/
def rRepr (K : PySem.W.Frag) : List V → Hp → VK → Prop := fun xs H Q => ∃ x d, xs = [x] ∧ (Dp K H x d ∨ (Rb K H x d ∧ nol d = true)) ∧ d.showable = true ∧ d.depth ≤ 60 ∧ d.shown.length ≤ sizeLine ∧ Q (.str d.shown) H
theorem reprD_some {as : List PyData} {z : Rv} (e : reprD as = some z) : ∃ d, as = [d] ∧ d.showable = true ∧ d.depth ≤ 60 ∧ d.shown.length ≤ sizeLine ∧ z = .d (.str d.shown) ∧ (d.hasDict = false ∨ nol d = true) := by
  unfold reprD at e
  split at e
  · split at e
    · rename_i h; cases e; exact ⟨_, rfl, h.1, h.2.1, h.2.2.1, rfl, h.2.2.2⟩
    · cases e
  · cases e
/-! ### a dict's object, read -/
section
variable {X : Cx} {pins : List (Addr × Obj)} {σ : St} {H : Hp} {s : Shared}
theorem reads_keysK {P : Program} {w : World} {h : Heap} : ∀ {es : List DictEntry} {vs : List (Key × Value)}, Pairs (mixKind P w) es vs → ReadsAll h (es.map (·.key)) (vs.map fun p => keyD p.1) []
  | _, _, .nil => .nil
  | e :: es, (k, v) :: vs, .cons hk _ r => by
    have ih := reads_keysK (h := h) r
    rcases keyIs_shape (show keyIs k e.key = true from hk) with ⟨i, t, rfl, e1⟩ | ⟨x, t, rfl, e1⟩
    · rw [List.map_cons, List.map_cons, e1]; exact .cons (.int i t) ih
    · rw [List.map_cons, List.map_cons, e1]; exact .cons (.str x t) ih
theorem pairs_vals {P : Program} {w : World} : ∀ {es : List DictEntry} {vs : List (Key × Value)}, Pairs (mixKind P w) es vs → es.map (·.val) = vs.map (·.2)
  | _, _, .nil => rfl
  | e :: es, kv :: vs, .cons _ hv r => by rw [List.map_cons, List.map_cons, hv, pairs_vals r]
theorem kv_vals : ∀ {l : List (Key × V)} {vs : List (Key × Value)}, KV l vs → Vals (l.map (·.2)) (vs.map (·.2)) ∧ l.map (·.1) = vs.map (·.1)
  | _, _, .nil => ⟨.nil, rfl⟩
  | p :: l, q :: vs, .cons h r => ⟨.cons h.2 (kv_vals r).1, by rw [List.map_cons, List.map_cons, h.1, (kv_vals r).2]⟩
theorem reads_ints {h : Heap} : ∀ {ns : List Int} {us : List Value}, Vals (ns.map V.int) us → ReadsAll h us (ns.map .int) []
  | [], _, .nil => .nil
  | n :: ns, _ :: _, .cons r g => by
    obtain ⟨t, rfl⟩ := r
    exact .cons (.int n t) (reads_ints g)
theorem reads_keysT (I : Inv X pins σ H s) : ∀ {xs : Xs}, (∀ x ∈ xs, TupF H x.2.1 (x.1.map V.int)) → ReadsAll s.heap (xs.map fun x => Value.ref x.2.1) (xs.map fun x => keysI x.1) []
  | [], _ => .nil
  | x :: xs, h => by
    obtain ⟨its, rv, ⟨o, ho, hc, n, hd⟩, _⟩ := I.tuple (h x (List.mem_cons_self ..)).sq
    exact .cons (as := []) (.tuple ho hc hd (reads_ints rv)) (reads_keysT I fun y hy => h y (List.mem_cons_of_mem _ hy))
theorem rdK {a : Addr} {l : List (Key × V)} {kvs : Kvs} (I : Inv X pins σ H s) (h : Rd H a (.dK l)) (e : kvs.map (·.1) = l.map (fun p => keyD p.1)) (ih : ∀ us, Vals (l.map (·.2)) us → ∃ as, ReadsAll s.heap us (kvs.map (·.2)) as ∧ sysModules ∉ as) : ∃ as, Reads s.heap (.ref a) (.dict kvs) as ∧ sysModules ∉ as := by
  obtain ⟨_, z, vs, kv, o, es, ep, ho, hx, hd, _, pr, _⟩ := (show ObjOk X.prog X.w H s.heap a (.dK l) from h.ok I.hok)
  obtain ⟨k1, k2⟩ := kv_vals kv
  obtain ⟨as, q1, q2⟩ := ih _ k1
  refine ⟨_, .dict ho hx.1 hd (as := []) (bs := as) ?_ (by rw [pairs_vals pr]; exact q1), ?_⟩
  · have := reads_keysK (h := s.heap) pr
    rw [e, show l.map (fun p => keyD p.1) = (l.map (·.1)).map keyD by rw [List.map_map]; rfl, k2, List.map_map]
    exact this
  · intro hm
    rcases List.mem_append.mp hm with hm | hm
    · rw [List.mem_singleton] at hm
      rw [← hm] at z
      cases z
    · exact q2 hm
theorem rdT {a : Addr} {xs : Xs} {vs : List V} {kvs : Kvs} (I : Inv X pins σ H s) (h : Rd H a (DXo xs a)) (t : ∀ x ∈ xs, TupF H x.2.1 (x.1.map V.int)) (v : Vals vs (xs.map (·.2.2))) (e : kvs.map (·.1) = xs.map (fun x => keysI x.1)) (ih : ∀ us, Vals vs us → ∃ as, ReadsAll s.heap us (kvs.map (·.2)) as ∧ sysModules ∉ as) : ∃ as, Reads s.heap (.ref a) (.dict kvs) as ∧ sysModules ∉ as := by
  obtain ⟨⟨h1, h2, o', es, ep, h3, h4, h5, h6, _⟩, _, _⟩ := (show ObjOk X.prog X.w H s.heap a (DXo xs a) from h.ok I.hok)
  obtain ⟨as, q1, q2⟩ := ih _ v
  refine ⟨_, .dict h3 h4.1 h5 (as := []) (bs := as) ?_ ?_, ?_⟩
  · rw [h6, e, List.map_map]
    exact reads_keysT I t
  · rw [h6, List.map_map]
    exact q1
  · intro hm
    rcases List.mem_append.mp hm with hm | hm
    · rw [List.mem_singleton] at hm
      rw [← hm] at h1
      cases h1
    · exact q2 hm
mutual
theorem Fz.reads (I : Inv X pins σ H s) : ∀ {v : V} {d : PyData}, Fz X.K H v d → ∀ {u : Value}, RelV v u → nol d = true → ∃ as, Reads s.heap u d as ∧ sysModules ∉ as
  | _, _, .non, _, r, _ => by cases r; exact ⟨_, .none, by simp⟩
  | _, _, .bl b, _, r, _ => by cases r; exact ⟨_, .bool b, by simp⟩
  | _, _, .int i, _, r, _ => by obtain ⟨t, rfl⟩ := r; exact ⟨_, .int i t, by simp⟩
  | _, _, .str x, _, r, _ => by obtain ⟨t, rfl⟩ := r; exact ⟨_, .str x t, by simp⟩
  | _, _, .lst .., _, _, n => by cases n
  | _, _, .tup h g, _, r, n => by
    cases r
    obtain ⟨its, rv, ⟨o, ho, hc, z, hd⟩, _⟩ := I.tuple h.sq
    obtain ⟨as, q1, q2⟩ := FzAll.reads I g rv (by simpa only [nol] using n)
    exact ⟨as, .tuple ho hc hd q1, q2⟩
  | _, _, .dik h g e, _, r, n => by cases r; exact rdK I (.inr ⟨_, h⟩) e fun us r => FzAll.reads I g r (nolKv_vals (by simpa only [nol] using n))
  | _, _, .dit h t v g e _, _, r, n => by cases r; exact rdT I (.inr ⟨_, h⟩) t v e fun us r => FzAll.reads I g r (nolKv_vals (by simpa only [nol] using n))
theorem FzAll.reads (I : Inv X pins σ H s) : ∀ {vs : List V} {ds : List PyData}, FzAll X.K H vs ds → ∀ {us : List Value}, Vals vs us → nolAll ds = true → ∃ as, ReadsAll s.heap us ds as ∧ sysModules ∉ as
  | _, _, .nil, _, r, _ => by cases r; exact ⟨_, .nil, by simp⟩
  | _, _, .cons h g, _, r, n => by
    cases r with
    | cons r1 r2 =>
      simp only [nolAll, Bool.and_eq_true] at n
      obtain ⟨as, q1, q2⟩ := Fz.reads I h r1 n.1
      obtain ⟨bs, q3, q4⟩ := FzAll.reads I g r2 n.2
      exact ⟨as ++ bs, .cons q1 q3, fun hm => (List.mem_append.mp hm).elim q2 q4⟩
end
theorem DictRd.reads {a : Addr} {kvs : Kvs} (I : Inv X pins σ H s) (h : DictRd X.K H a kvs) (n : nolKv kvs = true) : ∃ as, Reads s.heap (.ref a) (.dict kvs) as ∧ sysModules ∉ as := by
  cases h with
  | nil h =>
    rcases h with h | h
    · exact rdK (kvs := []) I h rfl fun us r => by cases r; exact ⟨_, .nil, by simp⟩
    · exact rdT (kvs := []) (vs := []) I (.of h) (by simp) .nil rfl fun us r => by cases r; exact ⟨_, .nil, by simp⟩
  | k h r _ =>
    obtain ⟨g, e⟩ := r.fz
    exact rdK I h e fun us r => FzAll.reads I g r (nolKv_vals n)
  | t h r _ =>
    obtain ⟨vs, g1, g2, g3, g4⟩ := r.fz
    exact rdT I h g1 g2 g4 fun us r => FzAll.reads I g3 r (nolKv_vals n)
theorem Rb.reads {v : V} {d : PyData} (I : Inv X pins σ H s) (h : Rb X.K H v d) {u : Value} (r : RelV v u) (n : nol d = true) : ∃ as, Reads s.heap u d as ∧ sysModules ∉ as := by
  cases h with
  | fz h => exact h.reads I r n
  | lst h g => cases n
  | dic h => cases r; exact h.rd.reads I (by simpa only [nol] using n)
end
mutual
theorem dp_noDict {K : PySem.W.Frag} {H : Hp} : ∀ {v : V} {d : PyData}, Dp K H v d → d.hasDict = false
  | _, _, .non => by simp only [PyData.hasDict]
  | _, _, .bl b => by simp only [PyData.hasDict]
  | _, _, .int i => by simp only [PyData.hasDict]
  | _, _, .str x => by simp only [PyData.hasDict]
  | _, _, .lst h g => by simp only [PyData.hasDict]; exact dpAll_noDict g
  | _, _, .tup h g => by simp only [PyData.hasDict]; exact dpAll_noDict g
theorem dpAll_noDict {K : PySem.W.Frag} {H : Hp} : ∀ {v : List V} {d : List PyData}, DpAll K H v d → PyData.hasDictAll d = false
  | _, _, .nil => by simp only [PyData.hasDictAll]
  | _, _, .cons h g => by simp only [PyData.hasDictAll]; rw [dp_noDict h, dpAll_noDict g]; rfl
end
theorem opr_repr (hG : X.A.guards = some []) (hu : X.A.units + 64 < cLine) : CallR X (.builtin "repr") (rRepr X.K) := by
  intro pins s σ H xs us Q I r h
  obtain ⟨x, d, rfl, hd, h1, h2, h3, q⟩ := h
  obtain ⟨u, rfl, rv⟩ : ∃ u, us = [u] ∧ L2.RelV x u := by
    cases r with
    | cons h g => cases g; exact ⟨_, rfl, h⟩
  obtain ⟨as, rd, hsm⟩ : ∃ as, Reads s.heap u d as ∧ (d.hasDict = true → sysModules ∉ as) := by
    rcases hd with hd | ⟨hd, n⟩
    · obtain ⟨as, rd⟩ := Dp.reads I _ _ u hd rv
      exact ⟨as, rd, fun z => by rw [dp_noDict hd] at z; cases z⟩
    · obtain ⟨as, rd, q2⟩ := hd.reads I rv n
      exact ⟨as, rd, fun _ => q2⟩
  have sc : ∀ {t : Str}, d.shown = t → ∀ tk u, EP X pins σ Q (.str d.shown u) { s with toks := tk } := fun _ tk u => ⟨.str d.shown, H, I.tok _, ⟨u, rfl⟩, q⟩
  have gen : ∀ a, u = .ref a → wpAny (model X.prog X.w) X.A (call (.builtin "repr") [u]) (EP X pins σ Q) X.xe s := fun a e => by
    subst e
    exact repr_of_reads' rd h1 hsm hG (by omega) (fun _ _ e => e) (fun h' tk tk2 kk => ⟨.str _, H, I.kept kk, ⟨_, rfl⟩, q⟩) h3
  cases rd with
  | none => exact PySem.P.repr_of_none (sc rfl _ _)
  | bool b => exact PySem.P.repr_of_bool (sc rfl _ _)
  | int i t => exact PySem.P.repr_of_int (of_decide_eq_true h1) (sc rfl _ _)
  | str z t => exact PySem.P.repr_of_str (sc rfl _ _) h3
  | list => exact gen _ rfl
  | tuple => exact gen _ rfl
  | dict => exact gen _ rfl
end
theorem Rb.dpN {K : PySem.W.Frag} {H : Hp} {v : V} {d : PyData} (h : Rb K H v d) (s : d.hasDict = false ∨ nol d = true) : Dp K H v d ∨ (Rb K H v d ∧ nol d = true) := by
  rcases s with s | s
  · cases h with
    | fz h => exact .inl (h.dp s)
    | lst h g => exact .inl (.lst (.of h) (FzAll.dp g (by simpa only [PyData.hasDict] using s)))
    | dic h => simp only [PyData.hasDict] at s; cases s
  · exact .inr ⟨h, s⟩
theorem opd_repr {K : PySem.W.Frag} : OpN K (rRepr K) reprD := by
  intro H xs as z Q rx e q
  obtain ⟨d, rfl, h1, h2, h3, rfl, nd⟩ := reprD_some e
  obtain ⟨v, rfl, hv⟩ := rba1 rx
  exact ⟨v, d, rfl, hv.dpN nd, h1, h2, h3, q _ _ (fun _ _ h => h) (.str _)⟩
end PyE

/-! PyE: enumerate, zip over data -/
namespace PySem
section
open PyProof
set_option maxHeartbeats 1000000 in
theorem meets_enum_one {v : Value} {o : Obj} {G : Heap → Prop} (B : Begins v o G) :
    Meets (Builtin.«enumerate.__new__» ⟨[.type "enumerate", v], []⟩) (fun _ R s => G s.heap ∧ R (.ok (.ret (.ref (s.heap.push o).objs.size)))
      { s with heap := (s.heap.push o).push { cls := .type "enumerate", data := .fields #[.none, .bool false, .ref s.heap.objs.size, rawInt 0, .none, .none] } }) :=
  .of_wp fun prog w A R s h => by
    obtain ⟨hp, g, d, tk, os⟩ := s
    obtain ⟨h1, h⟩ := h
    have hsub := sub_enumerate
    have it : ∀ {A' : Around} {E : Value → Shared → Prop} {Q : Value → Shared → Prop}, Q (.ref hp.objs.size) ⟨hp.push o, g, d, tk, os⟩ → wpAny (model prog w) A' (pyIter v) Q E ⟨hp, g, d, tk, os⟩ := fun q => B.iter prog w _ _ ⟨hp, g, d, tk, os⟩ _ h1 q
    wp_walk using it
    refine wpAny_stack_any fun st => wpAny_pure ?_
    split
    · rename_i c _ _ _ _ _
      cases (c == Value.type "enumerate") <;> (wp_walk using it; exact ⟨_, rfl, h⟩)
    · wp_walk using it
      exact ⟨_, rfl, h⟩
theorem enum_one {prog : Program} {w : World} {A : Around} {E : Value → Shared → Prop} {s : Shared} {v : Value} {o : Obj} {G : Heap → Prop} {Q : Value → Shared → Prop} (B : Begins v o G) (h1 : G s.heap)
    (h : ∀ h', IsEnum h' (s.heap.objs.size + 1) s.heap.objs.size 0 .none → h'.get? s.heap.objs.size = some o → (∀ b o, s.heap.get? b = some o → h'.get? b = some o) → Q (.ref (s.heap.objs.size + 1)) { s with heap := h' }) :
    wpAny (model prog w) A (call (.type "enumerate") [v]) Q E s := by
  refine callType_new F.called_enumerate (by decide) (F.typeCall_enumerate_1 _) (F.newCall_enumerate_1 _) (fun obj => F.args_object_init_2 obj _) F.entry_enumerate_new (meets_enum_one B) ⟨h1, ?_⟩
  have hz : (s.heap.push o).objs.size = s.heap.objs.size + 1 := Heap.size_push ..
  show _ ∧ _
  rw [hz]
  have he : IsEnum ((s.heap.push o).push { cls := .type "enumerate", data := .fields #[.none, .bool false, .ref s.heap.objs.size, rawInt 0, .none, .none] }) (s.heap.objs.size + 1) s.heap.objs.size 0 .none := by
    have z := Heap.get?_push_size (s.heap.push o) (o := { cls := .type "enumerate", data := .fields #[.none, .bool false, .ref s.heap.objs.size, rawInt 0, .none, .none] }) rfl
    rw [hz] at z
    exact z
  exact ⟨⟨_, he, rfl⟩, h _ he (Heap.get?_push_of_some _ (Heap.get?_push_size _ B.free)) fun b o x => Heap.get?_push_of_some _ (Heap.get?_push_of_some _ x)⟩
end
end PySem
namespace PyE
open PySem PySem.Spec PyProof.Rows
open L2

/-- values that give ds, one at a draw -/
inductive SrcOf (K : PySem.W.Frag) (H : Hp) : V → List PyData → Prop
  | l {a : Addr} {xs : List V} {ds : List PyData} : FL K H a xs → FzAll K H xs ds → SrcOf K H (.ref a) ds
  | t {a : Addr} {xs : List V} {ds : List PyData} : SqT K H a xs → FzAll K H xs ds → SrcOf K H (.ref a) ds
theorem SrcOf.keep {K : PySem.W.Frag} {H H' : Hp} {v : V} {ds : List PyData} (k : Keep H H') (h : SrcOf K H v ds) : SrcOf K H' v ds := by
  cases h with
  | l h g => exact .l (k.fl h) (g.keep k)
  | t h g => exact .t (k.sqT h) (g.keep k)
/-- the iterator over it: where it is -/
def ownIt (l : Bool) (a it : Addr) (i : Nat) (h : Heap) : Prop := if l = true then h.IsListIter it a i else h.IsTupleIter it a i
theorem ownIt.obj {l : Bool} {a it : Addr} {i : Nat} {h : Heap} (x : ownIt l a it i h) : ∃ o, h.get? it = some o ∧ ∀ v, o.data ≠ .cell v := by
  cases l with
  | true => obtain ⟨o, e, c, d⟩ := x; exact ⟨o, e, fun v z => by rw [d] at z; cases z⟩
  | false => obtain ⟨o, e, c, d⟩ := x; exact ⟨o, e, fun v z => by rw [d] at z; cases z⟩
theorem ownIt.keep {l : Bool} {a it : Addr} {i : Nat} {h h' : Heap} (x : ownIt l a it i h) (k : ∀ o, h.get? it = some o → h'.get? it = some o) : ownIt l a it i h' := by
  cases l with
  | true => exact Heap.IsListIter.at x k
  | false => exact Heap.IsTupleIter.at x k
/-- what a source gives at each state -/
def SrcAt (K : PySem.W.Frag) (H0 : Hp) (l : Bool) (a : Addr) (ds : List PyData) : Prop := ∀ {X : Cx} {pins : List (Addr × Obj)} {σ : St} {H : Hp} {s : Shared}, X.K = K → Inv X pins σ H s → Keep H0 H →
    a < s.heap.objs.size ∧ ds.length ≤ sizeLine ∧ ∃ (P : Nat → Value → Prop) (G : Heap → Prop) (o : Obj), Begins (.ref a) o G ∧ G s.heap ∧ (∀ it (h : Heap), h.get? it = some o → ownIt l a it 0 h) ∧
      (∀ A it, A.handled = none → a ≠ it → Draws X.prog X.w A it [it, a] ds.length P (fun i h => ownIt l a it i h ∧ G h)) ∧ ∀ i x, P i x → ∃ w d, L2.RelV w x ∧ ds[i]? = some d ∧ Fz K H w d
theorem src_at {K : PySem.W.Frag} {H0 : Hp} {v : V} {ds : List PyData} (h : SrcOf K H0 v ds) : ∃ (l : Bool) (a : Addr), v = .ref a ∧ SrcAt K H0 l a ds := by
  cases h with
  | @l a xs ds hf g =>
    refine ⟨true, a, rfl, fun {X pins σ H s} hK I k => ?_⟩
    subst hK
    obtain ⟨its, r, p, hz⟩ := I.list (k.fl hf).seq
    have hl : its.toArray.size = ds.length := by rw [List.size_toArray, ← r.length, g.length]
    refine ⟨p.lt, by rw [← g.length]; exact hz, fun i v => its.toArray[i]? = some v, fun h => h.IsList a its.toArray, _, begins_list a its.toArray, p.isList, fun it h e => ⟨_, e, rfl, rfl⟩, fun A it hh hne => ?_, fun i x e => ?_⟩
    · have D := Draws.list (prog := X.prog) (w := X.w) hh it a hne its.toArray
      rw [hl] at D
      exact D
    · have e' : its[i]? = some x := by simpa using e
      cases q : xs[i]? with
      | none => rw [r.none_of q] at e'; cases e'
      | some w =>
        obtain ⟨u, e2, rv⟩ := r.get q
        rw [e2] at e'; cases e'
        obtain ⟨d, e3, z⟩ := (g.keep k).getV q
        exact ⟨w, d, rv, e3, z⟩
  | @t a xs ds hf g =>
    refine ⟨false, a, rfl, fun {X pins σ H s} hK I k => ?_⟩
    subst hK
    obtain ⟨its, r, p, hz⟩ := I.tuple (k.sqT hf)
    have hl : its.toArray.size = ds.length := by rw [List.size_toArray, ← r.length, g.length]
    have p' : s.heap.IsTuple a its.toArray := p
    refine ⟨p.lt, by rw [← g.length]; exact hz, fun i v => its.toArray[i]? = some v, fun h => h.IsTuple a its.toArray, _, begins_tuple a its.toArray, p', fun it h e => ⟨_, e, rfl, rfl⟩, fun A it hh hne => ?_, fun i x e => ?_⟩
    · have D := Draws.tuple (prog := X.prog) (w := X.w) hh it a hne its.toArray
      rw [hl] at D
      exact D
    · have e' : its[i]? = some x := by simpa using e
      cases q : xs[i]? with
      | none => rw [r.none_of q] at e'; cases e'
      | some w =>
        obtain ⟨u, e2, rv⟩ := r.get q
        rw [e2] at e'; cases e'
        obtain ⟨d, e3, z⟩ := (g.keep k).getV q
        exact ⟨w, d, rv, e3, z⟩
/-- what gives new tuples, n of them, as long as what is frozen at H0 stays -/
def ItN (K : PySem.W.Frag) (H0 : Hp) (n : Nat) (rows : Nat → List PyData) : It :=
  ⟨fun i H => Keep H0 H ∧ i < n, fun i H x H' => ∃ T vs, x = .ref T ∧ H T = none ∧ H' = upd H T (.tup vs) ∧ FzAll K H vs (rows i), fun i H => Keep H0 H ∧ i = n⟩
theorem walk_n {K : PySem.W.Frag} {H0 : Hp} {n : Nat} {rows : Nat → List PyData} (few : n ≤ sizeLine) : WalkD true K (ItN K H0 n rows) ((List.range n).map fun i => .tuple (rows i)) H0 where
  goes := fun i H' k hi => ⟨k, by simpa using hi⟩
  stops := fun H' k => ⟨k, by simp⟩
  yields := fun i H' x H'' k hi y => by
    obtain ⟨T, vs, rfl, hT, rfl, g⟩ := y
    have hi' : i < n := by simpa using hi
    exact ⟨sameUpd hT, .tuple (rows i), by simp [hi'], .lt (.inl (.inl upd_same)) (g.keep (PyE.Same.toKeep (sameUpd hT)))⟩
  few := by simpa using few
theorem turn_goes {P : Program} {w : World} {K : PySem.W.Frag} {tg : Expr} {I : Addr} {own : List Addr} {n : Nat} {rows : Nat → List PyData} {H0 : Hp} {tn : Nat → Heap → Prop} (mem : I ∈ own) (obj : ∀ i h, tn i h → ∀ b ∈ own, ∃ o, h.get? b = some o ∧ ∀ v, o.data ≠ .cell v)
    (keep : ∀ i h h', tn i h → (∀ b ∈ own, ∀ o, h.get? b = some o → h'.get? b = some o) → tn i h')
    (goes : ∀ {X : Cx} {pins : List (Addr × Obj)} {σ : St} {H : Hp} {s : Shared} {i : Nat}, X.prog = P → X.w = w → X.K = K → X.calm = true → Inv X pins σ H s → Keep H0 H → (∀ b ∈ own, FpOk X pins H b) → tn i s.heap →
      ∃ fp wr Y St, (∀ b ∈ wr, b ∈ own) ∧ GoesN P w X.A tg I fp wr n Y St ∧ St i s.heap ∧ (∀ h, St (i + 1) h → tn (i + 1) h) ∧ ∀ v h', i < n → Y i s.heap v h' → ∃ T us vs, v = .ref T ∧ s.heap.objs.size ≤ T ∧ h'.IsTuple T (us : List Value).toArray ∧ Vals vs us ∧ FzAll K H vs (rows i) ∧ vs.length ≤ 100)
    (self : ∀ A i (s : Shared) (Q E : Value → Shared → Prop), tn i s.heap → Q (.ref I) s → wpAny (model P w) A (pyIter (.ref I)) Q E s) : Turn P w K tg (ItN K H0 n rows) own I tn where
  mem := mem
  obj := obj
  keep := keep
  item := by
    intro X hP hw hK hc i pins s σ H E J hf st hg
    obtain ⟨k, hi⟩ := hg
    obtain ⟨fp, wr, Y, St, hwr, W, hst, hnx, hY⟩ := goes hP hw hK hc J k hf st
    refine W.goes i s _ E hi hst fun v h' tk y st' kk _ => ?_
    obtain ⟨T, us, vs, rfl, hT, ⟨o, ho, hcl, m, hd⟩, rv, g, hl⟩ := hY v h' hi y
    have new : ObjOk X.prog X.w (upd H T (.tup vs)) h' T (.tup vs) := ⟨Nat.le_trans hl (by decide), us, rv, ⟨o, ho, hcl, m, hd⟩⟩
    have J2 : Inv X pins σ (upd H T (.tup vs)) { s with heap := h', toks := tk } := J.turnedNew (ch := own) (fun b ob hb e => kk b ob (fun z => hb (hwr b z)) e) hf hT new
    refine ⟨.ref T, _, J2, rfl, ⟨T, vs, rfl, J.hok.fresh hT, rfl, g⟩, hnx _ st', fun b hb => ?_⟩
    obtain ⟨ob, eb, _⟩ := obj i s.heap st b hb
    rw [upd_ne (Nat.ne_of_lt (Nat.lt_of_lt_of_le (Heap.lt_size eb) hT))]
    exact (hf b hb).1
  done := by
    intro X hP hw hK hc i pins s σ H E J hf st hg
    obtain ⟨k, rfl⟩ := hg
    obtain ⟨fp, wr, Y, St, hwr, W, hst, _, _⟩ := goes hP hw hK hc J k hf st
    exact W.stops s _ E hst fun h' tk kk _ => J.turnedL (t' := tk) (ch := own) (fun b ob hb e => kk b ob (fun z => hb (hwr b z)) e) hf
  self := self
/-! ### enumerate -/
def enumD (ds : List PyData) : List PyData := (List.range ds.length).map fun (i : Nat) => .tuple [.int ((0 : Int) + (i : Int)), ds.getD i .none]
def itEnum (f : Ev Rv) : Ev (List PyData) := bnd (itSeq f) fun ds m => .ok (enumD ds) m
def seqOf : PyData → Option (List PyData)
  | .list xs => some xs
  | .tuple xs => some xs
  | _ => none
theorem src_of {K : PySem.W.Frag} {H : Hp} {v : V} {d : PyData} {ds : List PyData} (z : Fz K H v d) (e : seqOf d = some ds) : SrcOf K H v ds := by
  cases z with
  | lst h g => cases e; exact .l h g
  | tup h g => cases e; exact .t h.sq g
  | _ => cases e
theorem itSeq_eq (f : Ev Rv) (m : Sm) : itSeq f m = (frzE f m).bind fun d m1 => match seqOf d with | some xs => .ok xs m1 | none => .no := by
  unfold itSeq bnd
  cases frzE f m with
  | ok d m1 => cases d <;> rfl
  | _ => rfl
section
variable {xr : XR} {W : WX} {X : Cx} {e e2 e3 : Expr} {f f2 f3 : Ev Rv} {p pos tpos : Pos} {elts : List Expr} {kk : Nat}
theorem turn_enum {P : Program} {w : World} {K : PySem.W.Frag} {H0 : Hp} {ds : List PyData} {l : Bool} {a : Addr} (at_ : SrcAt K H0 l a ds) {en it : Addr} (hlt : a < it) (hne : en ≠ it) (hae : a ≠ en) :
    Turn P w K (.Tuple elts kk tpos) (ItN K H0 ds.length fun i => [.int ((0 : Int) + (i : Int)), ds.getD i .none]) [en, it] en (fun i h => (∃ old, IsEnum h en it ((0 : Int) + (i : Int)) old) ∧ ownIt l a it i h) := by
  refine turn_goes (by simp) (fun i h st b hb => ?_) (fun i h h' st k => ?_) (fun {X pins σ H s i} hP hw hK hc J k hf st => ?_) fun A i s Q E st q => ?_
  · obtain ⟨⟨old, he⟩, ho⟩ := st
    rcases (show b = en ∨ b = it by simpa using hb) with rfl | rfl
    · exact ⟨_, he, fun v z => nomatch z⟩
    · exact ho.obj
  · obtain ⟨⟨old, he⟩, ho⟩ := st
    exact ⟨⟨old, k en (by simp) _ he⟩, ho.keep fun o e => k it (by simp) o e⟩
  · obtain ⟨⟨old, he⟩, ho⟩ := st
    obtain ⟨hal, _, PV, G, o, B, hG, _, D, hP2⟩ := at_ hK J k
    subst hP hw
    refine ⟨_, _, _, _, ?_, GoesN.enumFrom 0 (D X.A.in1 it (J.ok.hd hc) (Nat.ne_of_lt hlt)) en hne (by simp; exact ⟨hne, fun z => hae z.symm⟩) (by simp), ⟨⟨old, he⟩, ho, hG⟩, fun h st => ⟨st.1, st.2.1⟩, fun v h' hi y => ?_⟩
    · intro b hb; exact hb
    · obtain ⟨T, t, x, rfl, hT, hx, ht⟩ := y
      obtain ⟨w, d, rv, ed, z⟩ := hP2 i x hx
      refine ⟨T, [.int ((0 : Int) + (i : Int)) t, x], [.int ((0 : Int) + (i : Int)), w], rfl, hT, ht, .cons ⟨t, rfl⟩ (.cons rv .nil), .cons (.int _) (.cons ?_ .nil), by simp⟩
      rw [List.getD_eq_getElem?_getD, ed]
      exact z
  · obtain ⟨⟨old, he⟩, ho⟩ := st
    exact wpAny_pyIter_enum he q
theorem si_enum (hg : Gl X "enumerate") (hm : X.mg "enumerate" = none) (ha : PE X e (tE xr X.K W f)) (hs : starEach [e] X.env = [(false, eval e X.env)] := by rfl) : PI X (.Tuple elts kk tpos) (.Call (.Name "enumerate" p) [e] [] pos) (tI true xr X.K W (itEnum f)) := by
  refine ⟨fun pins s σ H R I h => ?_⟩
  obtain ⟨m, fp, r, q⟩ := h
  have hd : tD xr X.K W (frzE f) σ H (fun v H1 => ∃ ds, SrcOf X.K H1 v ds ∧ (ds.length ≤ sizeLine → ∀ J, WalkD true X.K J (enumD ds) H1 → R J H1)) := by
    refine ⟨m, fp, r, ?_⟩
    unfold itEnum bnd at q
    rw [itSeq_eq] at q
    cases e1 : frzE f m with
    | no => rw [e1] at q; exact q
    | ex x m' => rw [e1] at q; exact q
    | ok d m1 =>
      rw [e1] at q
      simp only [Res.bind] at q
      cases e2 : seqOf d with
      | none => simp only [e2] at q; exact q.elim
      | some ds =>
        simp only [e2] at q
        exact fun v H1 fp1 r1 s1 z => ⟨ds, src_of z e2, fun _ J w => q J H1 fp1 r1 s1 w⟩
  have hpa : PA X [e] (fun σ H Q => tD xr X.K W (frzE f) σ H fun v H1 => Q [v] H1) := ⟨fun pos pins s σ H Q I h => (pa_cons (sd_frz ha) pa_nil hs).run pos pins s σ H Q I h⟩
  refine Call_ (ld_blt I hg hm boot_enumerate (PyProof.Rows.callWith_type1 (thn (hpa.run pos pins s σ H (fun vs H1 => ∃ v, vs = [v] ∧ ∃ ds, SrcOf X.K H1 v ds ∧ (ds.length ≤ sizeLine → ∀ J, WalkD true X.K J (enumD ds) H1 → R J H1)) I (by
      obtain ⟨m, fp, r, q⟩ := hd
      refine ⟨m, fp, r, ?_⟩
      cases e1 : frzE f m with
      | no => rw [e1] at q; exact q
      | ex x m' => rw [e1] at q; exact q
      | ok d m1 => rw [e1] at q; exact fun v H1 fp1 r1 s1 z => ⟨v, rfl, q v H1 fp1 r1 s1 z⟩)) fun us s1 ⟨vs, H1, I1, r1, q1⟩ => ?_) hs rfl))
  obtain ⟨v, rfl, ds, src, q1⟩ := q1
  obtain ⟨l, a, rfl, at_⟩ := src_at src
  cases r1 with
  | cons rr rest =>
    cases rest
    cases rr
    obtain ⟨hal, hfew, PV, G, o, B, hG, h0, D, hP2⟩ := at_ rfl I1 (.refl _)
    refine enum_one B hG fun h' he ho hk => wpAny_pyIter_enum he ?_
    have I2 : Inv X pins σ H1 { s1 with heap := h' } := I1.kept (t' := s1.toks) hk
    have fresh : ∀ b ∈ [s1.heap.objs.size + 1, s1.heap.objs.size], FpOk X pins H1 b := fun b hb => by
      have hle : s1.heap.objs.size ≤ b := by
        rcases (show b = s1.heap.objs.size + 1 ∨ b = s1.heap.objs.size by simpa using hb) with z | z
        · rw [z]; exact Nat.le_add_right _ _
        · rw [z]; exact Nat.le_refl _
      exact I1.fpOk hle (I1.hok.fresh hle)
    refine ⟨s1.heap.objs.size + 1, [s1.heap.objs.size + 1, s1.heap.objs.size], _, _, H1, rfl, I2, turn_enum at_ hal (Nat.succ_ne_self _) (Nat.ne_of_lt (Nat.lt_succ_of_lt hal)), ⟨⟨.none, by simpa using he⟩, h0 _ _ ho⟩, fresh, q1 hfew _ ?_⟩
    exact walk_n hfew
/-! ### zip -/
def zipD (xs ys : List PyData) : List PyData := (List.range (min xs.length ys.length)).map fun i => .tuple [xs.getD i .none, ys.getD i .none]
def itZip (fs : List (Ev Rv)) : Ev (List PyData) := bnd (argsD fs) fun ds m => match ds with
  | [x, y] => match seqOf x, seqOf y with
    | some xs, some ys => .ok (zipD xs ys) m
    | _, _ => .no
  | _ => .no
theorem turn_zip2 {P : Program} {w : World} {K : PySem.W.Frag} {H0 : Hp} {ds es : List PyData} {l1 l2 : Bool} {a b : Addr} (at1 : SrcAt K H0 l1 a ds) (at2 : SrcAt K H0 l2 b es) {N : Nat} (ha : a < N) (hb : b < N) :
    Turn P w K (.Tuple elts kk tpos) (ItN K H0 (min ds.length es.length) fun i => [ds.getD i .none, es.getD i .none]) [N + 4, N + 2, N + 3, N, N + 1] (N + 4)
      (fun i h => IsZip h (N + 4) (N + 2) (N + 3) .none ∧ IsTupOf2 h (N + 2) (.ref N) (.ref (N + 1)) ∧ (∃ x y, IsTupOf2 h (N + 3) x y) ∧ ownIt l1 a N i h ∧ ownIt l2 b (N + 1) i h) := by
  refine turn_goes (by simp) (fun i h st c hc => ?_) (fun i h h' st k => ?_) (fun {X pins σ H s i} hP hw hK hc J k hf st => ?_) fun A i s Q E st q => ?_
  · obtain ⟨hz, hTI, ⟨x, y, hTO⟩, h1, h2⟩ := st
    rcases (show c = N + 4 ∨ c = N + 2 ∨ c = N + 3 ∨ c = N ∨ c = N + 1 by simpa using hc) with rfl | rfl | rfl | rfl | rfl
    · exact ⟨_, hz, fun v z => nomatch z⟩
    · exact ⟨_, hTI, fun v z => nomatch z⟩
    · exact ⟨_, hTO, fun v z => nomatch z⟩
    · exact h1.obj
    · exact h2.obj
  · obtain ⟨hz, hTI, ⟨x, y, hTO⟩, h1, h2⟩ := st
    exact ⟨k _ (by simp) _ hz, k _ (by simp) _ hTI, ⟨x, y, k _ (by simp) _ hTO⟩, h1.keep fun o e => k _ (by simp) o e, h2.keep fun o e => k _ (by simp) o e⟩
  · obtain ⟨hz, hTI, hTO, h1, h2⟩ := st
    obtain ⟨_, _, PV, G, o, B, hG, _, D, hP2⟩ := at1 hK J k
    obtain ⟨_, _, PV2, G2, o2, B2, hG2, _, D2, hP22⟩ := at2 hK J k
    subst hP hw
    have S : ZipSep2 (N + 4) (N + 2) (N + 3) N (N + 1) (N :: [a]) ((N + 1) :: [b]) := zip_sep2 (by simpa using ha) (by simpa using hb)
    refine ⟨_, _, _, _, ?_, GoesN.zip2 S (D X.A.in1 N (J.ok.hd hc) (Nat.ne_of_lt ha)) (D2 X.A.in1 (N + 1) (J.ok.hd hc) (Nat.ne_of_lt (Nat.lt_succ_of_lt hb))), ⟨hz, hTI, hTO, ⟨h1, hG⟩, h2, hG2⟩, fun h st => ⟨st.1, st.2.1, st.2.2.1, st.2.2.2.1.1, st.2.2.2.2.1⟩, fun v h' hi y => ?_⟩
    · intro c hc
      rcases (show c = N + 4 ∨ c = N + 3 ∨ c = N ∨ c = N + 1 by simpa using hc) with rfl | rfl | rfl | rfl <;> simp
    · obtain ⟨T, x, y, rfl, hT, hx, hy, ht⟩ := y
      obtain ⟨u1, d1, rv1, ed1, z1⟩ := hP2 i x hx
      obtain ⟨u2, d2, rv2, ed2, z2⟩ := hP22 i y hy
      refine ⟨T, [x, y], [u1, u2], rfl, hT, ht, .cons rv1 (.cons rv2 .nil), .cons ?_ (.cons ?_ .nil), by simp⟩
      · rw [List.getD_eq_getElem?_getD, ed1]; exact z1
      · rw [List.getD_eq_getElem?_getD, ed2]; exact z2
  · exact wpAny_pyIter_zip st.1 q
theorem si_zip (hg : Gl X "zip") (hm : X.mg "zip" = none) (ha : PA X [e, e2] (tAD xr X.K W (argsD [f, f2]))) (hs : starEach [e, e2] X.env = (false, eval e X.env) :: starEach [e2] X.env := by rfl) (hpl : (backTo pos (starEach [e2] X.env)).any (·.1) = false := by rfl) :
    PI X (.Tuple elts kk tpos) (.Call (.Name "zip" p) [e, e2] [] pos) (tI true xr X.K W (itZip [f, f2])) := by
  refine ⟨fun pins s σ H R I h => ?_⟩
  have hd : tAD xr X.K W (argsD [f, f2]) σ H (fun vs H1 => ∃ v1 v2 xs ys, vs = [v1, v2] ∧ SrcOf X.K H1 v1 xs ∧ SrcOf X.K H1 v2 ys ∧ ∀ J, WalkD true X.K J (zipD xs ys) H1 → R J H1) := by
    refine tG_bind (Rc := RelI true X.K) h fun m fp ds m1 vs H1 fp1 r r1 s1 g q => ?_
    match ds, vs, g, q with
    | [x, y], _, .cons z1 (.cons z2 .nil), q =>
      cases e1 : seqOf x with
      | none => simp only [e1] at q; exact q.elim
      | some xs =>
        cases e2 : seqOf y with
        | none => simp only [e1, e2] at q; exact q.elim
        | some ys =>
          simp only [e1, e2] at q
          exact ⟨_, _, xs, ys, rfl, src_of z1 e1, src_of z2 e2, fun J w => q J H1 fp1 r1 s1 w⟩
    | [], _, .nil, q => exact q.elim
    | [_], _, .cons _ .nil, q => exact q.elim
    | _ :: _ :: _ :: _, _, _, q => exact q.elim
  refine Call_ (ld_blt I hg hm PyProof.Rows.boot_zip (PyProof.Rows.callWith_type1 (thn (ha.run pos pins s σ H _ I hd) fun us s1 ⟨vs, H1, I1, r1, q1⟩ => ?_) hs hpl))
  obtain ⟨v1, v2, xs, ys, rfl, src1, src2, q1⟩ := q1
  obtain ⟨l1, a, rfl, at1⟩ := src_at src1
  obtain ⟨l2, b, rfl, at2⟩ := src_at src2
  cases r1 with
  | cons rr rest =>
    cases rest with
    | cons rr2 rest =>
      cases rest
      cases rr
      cases rr2
      obtain ⟨ha1, few1, PV, G, o, B, hG, h0, D, hP2⟩ := at1 rfl I1 (.refl _)
      obtain ⟨ha2, few2, PV2, G2, o2, B2, hG2, h02, D2, hP22⟩ := at2 rfl I1 (.refl _)
      refine zip_begins2 B B2 hG hG2 fun h' hz hTI hTO e1 e2 hsz hk => wpAny_pyIter_zip hz ?_
      have I2 : Inv X pins σ H1 { s1 with heap := h' } := I1.kept (t' := s1.toks) hk
      have fresh : ∀ c ∈ [s1.heap.objs.size + 4, s1.heap.objs.size + 2, s1.heap.objs.size + 3, s1.heap.objs.size, s1.heap.objs.size + 1], FpOk X pins H1 c := fun c hc => by
        have hle : s1.heap.objs.size ≤ c := by
          rcases (show c = s1.heap.objs.size + 4 ∨ c = s1.heap.objs.size + 2 ∨ c = s1.heap.objs.size + 3 ∨ c = s1.heap.objs.size ∨ c = s1.heap.objs.size + 1 by simpa using hc) with z | z | z | z | z
          · rw [z]; exact Nat.le_add_right _ _
          · rw [z]; exact Nat.le_add_right _ _
          · rw [z]; exact Nat.le_add_right _ _
          · rw [z]; exact Nat.le_refl _
          · rw [z]; exact Nat.le_add_right _ _
        exact I1.fpOk hle (I1.hok.fresh hle)
      refine ⟨s1.heap.objs.size + 4, _, _, _, H1, rfl, I2, turn_zip2 at1 at2 ha1 ha2, ⟨hz, hTI, ⟨_, _, hTO⟩, h0 _ _ e1, h02 _ _ e2⟩, fresh, q1 _ ?_⟩
      exact walk_n (Nat.le_trans (Nat.min_le_left _ _) few1)
/-! ### zip of three -/
def zip3D (xs ys zs : List PyData) : List PyData := (List.range (min (min xs.length ys.length) zs.length)).map fun i => .tuple [xs.getD i .none, ys.getD i .none, zs.getD i .none]
def itZip3 (fs : List (Ev Rv)) : Ev (List PyData) := bnd (argsD fs) fun ds m => match ds with
  | [x, y, z] => match seqOf x, seqOf y, seqOf z with
    | some xs, some ys, some zs => .ok (zip3D xs ys zs) m
    | _, _, _ => .no
  | _ => .no
theorem turn_zip3 {P : Program} {w : World} {K : PySem.W.Frag} {H0 : Hp} {ds es gs : List PyData} {l1 l2 l3 : Bool} {a b c₀ : Addr} (at1 : SrcAt K H0 l1 a ds) (at2 : SrcAt K H0 l2 b es) (at3 : SrcAt K H0 l3 c₀ gs) {N : Nat} (ha : a < N) (hb : b < N) (hcc : c₀ < N) :
    Turn P w K (.Tuple elts kk tpos) (ItN K H0 (min (min ds.length es.length) gs.length) fun i => [ds.getD i .none, es.getD i .none, gs.getD i .none]) [N + 5, N + 3, N + 4, N, N + 1, N + 2] (N + 5)
      (fun i h => IsZip h (N + 5) (N + 3) (N + 4) .none ∧ IsTupOf3 h (N + 3) (.ref N) (.ref (N + 1)) (.ref (N + 2)) ∧ (∃ x y z, IsTupOf3 h (N + 4) x y z) ∧ ownIt l1 a N i h ∧ ownIt l2 b (N + 1) i h ∧ ownIt l3 c₀ (N + 2) i h) := by
  refine turn_goes (by simp) (fun i h st c hc => ?_) (fun i h h' st k => ?_) (fun {X pins σ H s i} hP hw hK hc J k hf st => ?_) fun A i s Q E st q => ?_
  · obtain ⟨hz, hTI, ⟨x, y, z, hTO⟩, h1, h2, h3⟩ := st
    rcases (show c = N + 5 ∨ c = N + 3 ∨ c = N + 4 ∨ c = N ∨ c = N + 1 ∨ c = N + 2 by simpa using hc) with rfl | rfl | rfl | rfl | rfl | rfl
    · exact ⟨_, hz, fun v z => nomatch z⟩
    · exact ⟨_, hTI, fun v z => nomatch z⟩
    · exact ⟨_, hTO, fun v z => nomatch z⟩
    · exact h1.obj
    · exact h2.obj
    · exact h3.obj
  · obtain ⟨hz, hTI, ⟨x, y, z, hTO⟩, h1, h2, h3⟩ := st
    exact ⟨k _ (by simp) _ hz, k _ (by simp) _ hTI, ⟨x, y, z, k _ (by simp) _ hTO⟩, h1.keep fun o e => k _ (by simp) o e, h2.keep fun o e => k _ (by simp) o e, h3.keep fun o e => k _ (by simp) o e⟩
  · obtain ⟨hz, hTI, hTO, h1, h2, h3⟩ := st
    obtain ⟨_, _, PV, G, o, B, hG, _, D, hP2⟩ := at1 hK J k
    obtain ⟨_, _, PV2, G2, o2, B2, hG2, _, D2, hP22⟩ := at2 hK J k
    obtain ⟨_, _, PV3, G3, o3, B3, hG3, _, D3, hP23⟩ := at3 hK J k
    subst hP hw
    have S : ZipSep3 (N + 5) (N + 3) (N + 4) N (N + 1) (N + 2) (N :: [a]) ((N + 1) :: [b]) ((N + 2) :: [c₀]) := zip_sep3 (by simpa using ha) (by simpa using hb) (by simpa using hcc)
    refine ⟨_, _, _, _, ?_, GoesN.zip3 S (D X.A.in1 N (J.ok.hd hc) (Nat.ne_of_lt ha)) (D2 X.A.in1 (N + 1) (J.ok.hd hc) (Nat.ne_of_lt (Nat.lt_succ_of_lt hb))) (D3 X.A.in1 (N + 2) (J.ok.hd hc) (Nat.ne_of_lt (Nat.lt_succ_of_lt (Nat.lt_succ_of_lt hcc)))), ⟨hz, hTI, hTO, ⟨h1, hG⟩, ⟨h2, hG2⟩, h3, hG3⟩, fun h st => ⟨st.1, st.2.1, st.2.2.1, st.2.2.2.1.1, st.2.2.2.2.1.1, st.2.2.2.2.2.1⟩, fun v h' hi y => ?_⟩
    · intro c hc
      rcases (show c = N + 5 ∨ c = N + 4 ∨ c = N ∨ c = N + 1 ∨ c = N + 2 by simpa using hc) with rfl | rfl | rfl | rfl | rfl <;> simp
    · obtain ⟨T, x, y, z, rfl, hT, hx, hy, hzz, ht⟩ := y
      obtain ⟨u1, d1, rv1, ed1, z1⟩ := hP2 i x hx
      obtain ⟨u2, d2, rv2, ed2, z2⟩ := hP22 i y hy
      obtain ⟨u3, d3, rv3, ed3, z3⟩ := hP23 i z hzz
      refine ⟨T, [x, y, z], [u1, u2, u3], rfl, hT, ht, .cons rv1 (.cons rv2 (.cons rv3 .nil)), .cons ?_ (.cons ?_ (.cons ?_ .nil)), by simp⟩
      · rw [List.getD_eq_getElem?_getD, ed1]; exact z1
      · rw [List.getD_eq_getElem?_getD, ed2]; exact z2
      · rw [List.getD_eq_getElem?_getD, ed3]; exact z3
  · exact wpAny_pyIter_zip st.1 q
theorem si_zip3 (hg : Gl X "zip") (hm : X.mg "zip" = none) (ha : PA X [e, e2, e3] (tAD xr X.K W (argsD [f, f2, f3]))) (hs : starEach [e, e2, e3] X.env = (false, eval e X.env) :: starEach [e2, e3] X.env := by rfl) (hpl : (backTo pos (starEach [e2, e3] X.env)).any (·.1) = false := by rfl) :
    PI X (.Tuple elts kk tpos) (.Call (.Name "zip" p) [e, e2, e3] [] pos) (tI true xr X.K W (itZip3 [f, f2, f3])) := by
  refine ⟨fun pins s σ H R I h => ?_⟩
  have hd : tAD xr X.K W (argsD [f, f2, f3]) σ H (fun vs H1 => ∃ v1 v2 v3 xs ys zs, vs = [v1, v2, v3] ∧ SrcOf X.K H1 v1 xs ∧ SrcOf X.K H1 v2 ys ∧ SrcOf X.K H1 v3 zs ∧ ∀ J, WalkD true X.K J (zip3D xs ys zs) H1 → R J H1) := by
    refine tG_bind (Rc := RelI true X.K) h fun m fp ds m1 vs H1 fp1 r r1 s1 g q => ?_
    match ds, vs, g, q with
    | [x, y, z], _, .cons z1 (.cons z2 (.cons z3 .nil)), q =>
      cases e1 : seqOf x with
      | none => simp only [e1] at q; exact q.elim
      | some xs =>
        cases e2 : seqOf y with
        | none => simp only [e1, e2] at q; exact q.elim
        | some ys =>
          cases e3 : seqOf z with
          | none => simp only [e1, e2, e3] at q; exact q.elim
          | some zs =>
            simp only [e1, e2, e3] at q
            exact ⟨_, _, _, xs, ys, zs, rfl, src_of z1 e1, src_of z2 e2, src_of z3 e3, fun J w => q J H1 fp1 r1 s1 w⟩
    | [], _, .nil, q => exact q.elim
    | [_], _, .cons _ .nil, q => exact q.elim
    | [_, _], _, .cons _ (.cons _ .nil), q => exact q.elim
    | _ :: _ :: _ :: _ :: _, _, _, q => exact q.elim
  refine Call_ (ld_blt I hg hm PyProof.Rows.boot_zip (PyProof.Rows.callWith_type1 (thn (ha.run pos pins s σ H _ I hd) fun us s1 ⟨vs, H1, I1, r1, q1⟩ => ?_) hs hpl))
  obtain ⟨v1, v2, v3, xs, ys, zs, rfl, src1, src2, src3, q1⟩ := q1
  obtain ⟨l1, a, rfl, at1⟩ := src_at src1
  obtain ⟨l2, b, rfl, at2⟩ := src_at src2
  obtain ⟨l3, c₀, rfl, at3⟩ := src_at src3
  cases r1 with
  | cons rr rest =>
    cases rest with
    | cons rr2 rest =>
      cases rest with
      | cons rr3 rest =>
        cases rest
        cases rr
        cases rr2
        cases rr3
        obtain ⟨ha1, few1, PV, G, o, B, hG, h0, D, hP2⟩ := at1 rfl I1 (.refl _)
        obtain ⟨ha2, few2, PV2, G2, o2, B2, hG2, h02, D2, hP22⟩ := at2 rfl I1 (.refl _)
        obtain ⟨ha3, few3, PV3, G3, o3, B3, hG3, h03, D3, hP23⟩ := at3 rfl I1 (.refl _)
        refine zip_begins3 B B2 B3 hG hG2 hG3 fun h' hz hTI hTO e1 e2 e3 hsz hk => wpAny_pyIter_zip hz ?_
        have I2 : Inv X pins σ H1 { s1 with heap := h' } := I1.kept (t' := s1.toks) hk
        have fresh : ∀ c ∈ [s1.heap.objs.size + 5, s1.heap.objs.size + 3, s1.heap.objs.size + 4, s1.heap.objs.size, s1.heap.objs.size + 1, s1.heap.objs.size + 2], FpOk X pins H1 c := fun c hc => by
          have hle : s1.heap.objs.size ≤ c := by
            rcases (show c = s1.heap.objs.size + 5 ∨ c = s1.heap.objs.size + 3 ∨ c = s1.heap.objs.size + 4 ∨ c = s1.heap.objs.size ∨ c = s1.heap.objs.size + 1 ∨ c = s1.heap.objs.size + 2 by simpa using hc) with z | z | z | z | z | z
            · rw [z]; exact Nat.le_add_right _ _
            · rw [z]; exact Nat.le_add_right _ _
            · rw [z]; exact Nat.le_add_right _ _
            · rw [z]; exact Nat.le_refl _
            · rw [z]; exact Nat.le_add_right _ _
            · rw [z]; exact Nat.le_add_right _ _
          exact I1.fpOk hle (I1.hok.fresh hle)
        refine ⟨s1.heap.objs.size + 5, _, _, _, H1, rfl, I2, turn_zip3 at1 at2 at3 ha1 ha2 ha3, ⟨hz, hTI, ⟨_, _, _, hTO⟩, h0 _ _ e1, h02 _ _ e2, h03 _ _ e3⟩, fresh, q1 _ ?_⟩
        exact walk_n (Nat.le_trans (Nat.min_le_left _ _) (Nat.le_trans (Nat.min_le_left _ _) few1))
end
end PyE

/-! PyE: a def by its reading; the source of draws of the first kind -/
namespace PyE
open PySem PySem.Spec PyProof.Rows
open L2

section
variable {xr : XR} {P : Program} {w : World} {K : PySem.W.Frag} {mg : Str → Option Value} {base : Heap} {k : Nat} {N ps : List Str} {qual x : Str} {f : Addr} {fd : FuncData} {st : Stmt} {sp : Sp}
/-- a def by a reading of its body -/
theorem fnG_raw (F : Fun K x qual st f fd) (S : FnScope N ps (defScope st)) (len : ∀ vs H Q E, sp vs H Q E → vs.length = ps.length) (hbody : ∀ (cdv : Value) (A : Around) (outer : List Env) (s : Shared) (H : Hp) (vs : List V) (Q : VK) (E : XK), Room k (bodyX P w K mg base N qual (defScope st) f cdv A outer s H E).A →
      (bodyX P w K mg base N qual (defScope st) f cdv A outer s H E).A.guards = some [] → sp vs H Q E →
      ∃ t, PSs (bodyX P w K mg base N qual (defScope st) f cdv A outer s H E) (defBody st) t ∧ t { nx := fun _ H' => Q .non H', rt := Q } (L2.start N vs) H) : FnG P w K mg base (k + 1) f fd ps sp := by
  refine ⟨fun q => len _ _ _ _ q, ?_⟩
  intro A outer s H args us vs Q E room hG e0 hb rv q
  obtain ⟨oc, od, kV, doc, pm, an, cd, ct, osl, rfl, lk, hcd⟩ := F.ex
  have hps : vs.length = ps.length := len _ _ _ _ q
  have kin : K.In s.heap := e0.mod.kin.keeps fun b o e => (e0.bs b o e).1
  have lim : s.heap.NoLimit := e0.mod.nolimit.keeps fun b o e => (e0.bs b o e).1
  have kinds : ∀ y ∈ ps.zip us, (defScope st).names.lookup y.1 = some .local ∨ ((defScope st).names.lookup y.1 = some .cell ∧ ((cellsFrom (s.heap.objs.size + 1) (defScope st).names []).lookup y.1).isSome = true) := by
    rintro ⟨n, v⟩ hy
    rcases S.par n (List.of_mem_zip hy).1 with z | z
    · exact .inl z
    · exact .inr ⟨z, PySem.W.cellsFrom_some _ _ _ (.inl z)⟩
  refine codeAny_call_function room.depth (kin _ _ lk) rfl S.co S.gen rfl (PySem.W.codeRec_of kin hcd) (hb _ _ _ _ ?_)
  refine wpAny_newFunctionEnv_cells S.kind kinds fun env he s1 hx => ?_
  subst he
  refine ⟨lim.keeps hx.toInCall.keep, codeAny_func ?_⟩
  obtain ⟨t, body, q2⟩ := hbody cd A outer s H vs Q E (room.deeper _) hG q
  have inv : Inv (bodyX P w K mg base N qual (defScope st) f cd A outer s H E) [] (L2.start N vs) H s1 := inv_start S room.hd e0 hps rv hx
  refine wpAny_mono (body.run [] s1 (L2.start N vs) H _ inv q2) (fun fl s' hs => ?_) fun e s' hs => hs
  cases fl with
  | ret u => exact let ⟨v, σ', H', J, rv, z⟩ := hs; ⟨v, H', J.os, J.bare, J.base, J.hok, rv, z⟩
  | next => exact let ⟨σ', H', J, z⟩ := hs; ⟨.non, H', J.os, J.bare, J.base, J.hok, rfl, z⟩
  | brk => obtain ⟨_, _, _, z⟩ := hs; exact False.elim z
  | cont => obtain ⟨_, _, _, z⟩ := hs; exact False.elim z
end

/-! ### the first kind of source -/
def drawA (cells : List Int) (a b many : Int) : Int × List Int × Int :=
  if many < 2 then (0, cells, b) else match cells.reverse with
    | cell :: rest => (cell % many, if cell ≥ many then rest.reverse ++ [cell / many] else rest.reverse, b)
    | [] =>
      let b1 := b + 1
      let n1 := (a + b1 * 2654435761) % 4294967279
      let n2 := (n1 * n1 + b1 * 40503 + 5) % 4294967231
      let n3 := (n2 * n2 + a) % 4294967291
      (n3 / 256 % many, [], b1)
def drawFA : Fm := fun ms => match ms with
  | [.rs 0 cells a b, .fz (.int many)] => if many < 1073741824 ∧ cells.length ≤ 1000 then .ok (.fz (.int (drawA cells a b many).1)) [some (.rs 0 (drawA cells a b many).2.1 a (drawA cells a b many).2.2), some (.fz (.int many))] else .no
  | _ => .no
theorem drawFA_len : ∀ ms, ms.length ≠ 2 → drawFA ms = .no := by
  intro ms h
  unfold drawFA
  split
  · exact absurd rfl h
  · rfl
theorem drawFA_inv (ms : List Mv) : drawFA ms = .no ∨ ∃ cells a b many, ms = [.rs 0 cells a b, .fz (.int many)] ∧ many < 1073741824 ∧ cells.length ≤ 1000 ∧
    drawFA ms = .ok (.fz (.int (drawA cells a b many).1)) [some (.rs 0 (drawA cells a b many).2.1 a (drawA cells a b many).2.2), some (.fz (.int many))] := by
  unfold drawFA
  split
  · rename_i cells a b many
    by_cases h : many < 1073741824 ∧ cells.length ≤ 1000
    · exact .inr ⟨cells, a, b, many, rfl, h.1, h.2, by rw [if_pos h]⟩
    · exact .inl (by rw [if_neg h])
  · exact .inl rfl
theorem shaped_ints (ns : List Int) : SeqAt.shaped (.list (ns.map PyData.int)) = true := by
  have h1 : ∀ ns : List Int, PyData.canLayAll0 (ns.map PyData.int) = true := by
    intro ns
    induction ns with
    | nil => rfl
    | cons n r ih => simp only [List.map_cons, PyData.canLayAll0, ih, Bool.and_true]; rfl
  have h2 : ∀ ns : List Int, PyData.depthAll (ns.map PyData.int) = 0 := by
    intro ns
    induction ns with
    | nil => rfl
    | cons n r ih => simp only [List.map_cons, PyData.depthAll, ih]; rfl
  unfold SeqAt.shaped
  simp only [PyData.canLay0, h1, PyData.depth, h2, Bool.true_and]
  decide
end PyE

/-! PyE: lists that change; a source of draws made; two names at once -/
namespace PyE
open PySem PySem.Spec PyProof.Rows
open L2

abbrev Gm := List PyData → List PyData → Option (PyData × List PyData)
def mutE (i : Nat) (g : Gm) (fs : List (Ev Rv)) : Ev Rv := fun m => match m[i]? with
  | some (some (.ol _)) => (argsD fs m).bind fun ds m1 => match m1[i]? with
    | some (some (.ol xs)) => match g xs ds with
      | some (r, ys) => .ok (.d r) (m1.set i (some (.ol ys)))
      | none => .no
    | _ => .no
  | _ => .no
def MutOk (K : PySem.W.Frag) (r : V → List V → Hp → VK → Prop) (g : Gm) : Prop := ∀ (H : Hp) (p : Addr) (ys : List V) (xs : List PyData) (vs : List V) (ds : List PyData) (z : PyData) (xs' : List PyData) (Q : VK), H p = some (.lst ys) → FzAll K H ys xs → FzAll K H vs ds →
  g xs ds = some (z, xs') → (∀ v ys', Fz K H v z → FzAll K H ys' xs' → Q v (upd H p (.lst ys'))) → r (.ref p) vs H Q
section
variable {xr : XR} {W : WX} {X : Cx} {e : Expr} {es : List Expr} {fs : List (Ev Rv)} {g : Gm} {r : V → List V → Hp → VK → Prop} {i : Nat} {x name : Str} {id : String} {pos apos cpos : Pos}
theorem mut_end {K : PySem.W.Frag} (o : MutOk K r g) {σ : St} {H H1 : Hp} {fp fp1 : Fp} {m1 : Sm} {vs : List V} {ds : List PyData} {v : V} {Q : VK} (hv : σ[i]? = some (some v)) (r1 : RelS K H1 m1 σ fp1) (s1 : Step fp fp1 H H1) (gv : FzAll K H1 vs ds)
    (p : Post xr K W (RelR K) σ H fp Q (match m1[i]? with
      | some (some (.ol xs)) => match g xs ds with
        | some (r, ys) => .ok (.d r) (m1.set i (some (.ol ys)))
        | none => .no
      | _ => .no)) : r v vs H1 Q := by
  cases e1 : m1[i]? with
  | none => simp only [e1] at p; exact p.elim
  | some oo =>
    cases oo with
    | none => simp only [e1] at p; exact p.elim
    | some mv =>
      obtain ⟨w, e2, rm⟩ := r1.at_ i mv e1
      rw [hv] at e2; cases e2
      generalize ef : fp1 i = f0 at rm
      cases rm with
      | @ol xs a ys ha ga =>
        simp only [e1] at p
        cases eg : g xs ds with
        | none => simp only [eg] at p; exact p.elim
        | some q =>
          obtain ⟨z, xs'⟩ := q
          simp only [eg] at p
          refine o H1 a ys xs vs ds z xs' Q ha ga gv eg fun u ys' hz gz => ?_
          have k : Keep H1 (upd H1 a (.lst ys')) := keep_upd (by rw [ha]; exact trivial)
          have ha1 : a ∈ fp1 i := by rw [ef]; simp
          refine p u _ (fun j => if j = i then [a] else fp1 j) (r1.put (nth_lt e1) k (fun j hj b hb => upd_ne fun q => hj (r1.dis j i a (by rw [← q]; exact hb) ha1)) hv (.ol upd_same (gz.keep k)) fun b hb j hj hb2 => ?_) ?_ (hz.keep k)
          · simp only [List.mem_singleton] at hb
            subst hb
            exact hj (r1.dis j i b hb2 ha1)
          · refine s1.trans ⟨fun j b hb => ?_, fun b u hb hn => ?_, fun b hb => upd_trk hb⟩
            · by_cases hj : j = i
              · simp only [if_pos hj, List.mem_singleton] at hb
                exact .inl ⟨i, by rw [hb]; exact ha1⟩
              · simp only [if_neg hj] at hb; exact .inl ⟨j, hb⟩
            · rw [upd_ne (fun q => hn i (by rw [q]; exact ha1))]; exact hb
      | _ => simp only [e1] at p; exact p.elim
theorem slot_list {K : PySem.W.Frag} {σ : St} {H : Hp} {m : Sm} {fp : Fp} {xs : List PyData} (r : RelS K H m σ fp) (e : m[i]? = some (some (.ol xs))) : ∃ a ys, σ[i]? = some (some (.ref a)) ∧ H a = some (.lst ys) ∧ FzAll K H ys xs := by
  obtain ⟨v, e1, rm⟩ := r.at_ i _ e
  generalize fp i = f0 at rm
  cases rm with
  | ol ha ga => exact ⟨_, _, e1, ha, ga⟩
/-- x.name(e, ..), x a list that changes -/
theorem sd_mut (slot : Slot "list" name id) (hty : typeOf (.builtin id) = pure (.type "method_descriptor")) (hm : MtR X id r) (o : MutOk X.K r g) (hN : X.N[i]? = some x) (hv : Vis X.env.scope x) (ha : PA X (e :: es) (tAD xr X.K W (argsD fs))) (hd : (x == ("__debug__" : Str)) = false := by decide) (hcd : (x == ("__classdict__" : Str)) = false := by decide)
    (hbase : attributeBase (.Name x pos) name X.env (eval (.Name x pos) X.env) = eval (.Name x pos) X.env := by rfl)
    (hfew : ((backTo cpos (starEach (e :: es) X.env)).all (fun x => !x.1) && (backToKw cpos (keywordEach [] X.env)).all (fun x => x.1.isSome) && decide ((e :: es).length + ([] : List Keyword).length + (if ([] : List Keyword).isEmpty then 0 else 1) < 30)) = true := by rfl)
    (hline : (apos.endLine == cpos.line) = true := by rfl) (hs : starEach (e :: es) X.env = (false, eval e X.env) :: starEach es X.env := by rfl) (hplain : (backTo cpos (starEach es X.env)).any (·.1) = false := by rfl) :
    PE X (.Call (.Attribute (.Name x pos) name apos) (e :: es) [] cpos) (tE xr X.K W (mutE i g fs)) := by
  refine pe_imp (pe_bm PySem.F.plainAttrs_list slot hty hm (pe_var (i := i) hN hv hd hcd) ha hbase hfew hline hs hplain) fun σ H Q h => ?_
  obtain ⟨m, fp, r0, p⟩ := h
  unfold mutE at p
  cases e1 : m[i]? with
  | none => simp only [e1] at p; exact p.elim
  | some oo =>
    cases oo with
    | none => simp only [e1] at p; exact p.elim
    | some mv =>
      cases mv with
      | ol xs =>
        simp only [e1] at p
        obtain ⟨a, ys, hv2, ha2, ga⟩ := slot_list r0 e1
        refine ⟨.ref a, hv2, .inl ⟨rfl, _, .of ha2⟩, ?_⟩
        have p2 : tE xr X.K W (bnd (argsD fs) fun ds m1 => match m1[i]? with
          | some (some (.ol xs)) => match g xs ds with
            | some (r, ys) => .ok (.d r) (m1.set i (some (.ol ys)))
            | none => .no
          | _ => .no) σ H Q := ⟨m, fp, r0, p⟩
        exact tG_bind p2 fun m fp ds m1 vs H1 fp1 _ r1 s1 gv p3 => mut_end o hv2 r1 s1 gv p3
      | _ => simp only [e1] at p; exact p.elim
theorem sd_mut0 (slot : Slot "list" name id) (hty : typeOf (.builtin id) = pure (.type "method_descriptor")) (hm : MtR X id r) (o : MutOk X.K r g) (hN : X.N[i]? = some x) (hv : Vis X.env.scope x) (hd : (x == ("__debug__" : Str)) = false := by decide) (hcd : (x == ("__classdict__" : Str)) = false := by decide)
    (hbase : attributeBase (.Name x pos) name X.env (eval (.Name x pos) X.env) = eval (.Name x pos) X.env := by rfl) (hline : (apos.endLine == cpos.line) = true := by rfl) : PE X (.Call (.Attribute (.Name x pos) name apos) [] [] cpos) (tE xr X.K W (mutE i g [])) := by
  refine pe_imp (pe_bm0 PySem.F.plainAttrs_list slot hty hm (pe_var (i := i) hN hv hd hcd) hbase hline) fun σ H Q h => ?_
  obtain ⟨m, fp, r0, p⟩ := h
  unfold mutE at p
  cases e1 : m[i]? with
  | none => simp only [e1] at p; exact p.elim
  | some oo =>
    cases oo with
    | none => simp only [e1] at p; exact p.elim
    | some mv =>
      cases mv with
      | ol xs =>
        simp only [e1] at p
        obtain ⟨a, ys, hv2, ha2, ga⟩ := slot_list r0 e1
        exact ⟨.ref a, hv2, .inl ⟨rfl, _, .of ha2⟩, mut_end (vs := []) (ds := []) o hv2 r0 (.refl _ _) .nil (by simp only [argsD, Res.bind, e1] at p; simp only [e1]; exact p)⟩
      | _ => simp only [e1] at p; exact p.elim
end
def appendG : Gm := fun xs ds => match ds with
  | [d] => if xs.length < 1000000 then some (.none, xs ++ [d]) else none
  | _ => none
def extendG : Gm := fun xs ds => match ds with
  | [.list ys] => if xs.length + ys.length ≤ 1000000 then some (.none, xs ++ ys) else none
  | _ => none
def popG : Gm := fun xs ds => match ds with
  | [] => match xs[xs.length - 1]? with
    | some d => some (d, xs.dropLast)
    | none => none
  | _ => none
def popAtG : Gm := fun xs ds => match ds with
  | [.int i] => if -1000000 ≤ i ∧ i ≤ 1000000 then match seqIndex? i xs.length with
    | some k => match xs[k]? with
      | some d => some (d, xs.eraseIdx k)
      | none => none
    | none => none
  else none
  | _ => none
def insertG : Gm := fun xs ds => match ds with
  | [.int i, d] => if xs.length < 1000000 ∧ 0 ≤ i ∧ i ≤ 1000000 then some (.none, xs.take i.toNat ++ [d] ++ xs.drop i.toNat) else none
  | _ => none
section
variable {X : Cx} {K : PySem.W.Frag}
/-- list.extend of a list that may be read -/
def rExtR (K : PySem.W.Frag) : V → List V → Hp → VK → Prop := fun x vs H Q => ∃ l b xs zs, x = .ref l ∧ vs = [.ref b] ∧ H l = some (.lst xs) ∧ RL K H b zs ∧ xs.length + zs.length ≤ sizeLine ∧ Q .non (upd H l (.lst (xs ++ zs)))
theorem mtr_extend : MtR X "list.extend" (rExtR X.K) := by
  intro pins s σ H x vs v us Q I rx rv h
  obtain ⟨l, b, xs, zs, rfl, rfl, h1, h2, hz, q⟩ := h
  cases rx
  obtain ⟨u, rfl, ru⟩ := rv.one
  cases ru
  obtain ⟨z, its, n, r, hl, e⟩ := I.lstM h1
  obtain ⟨its2, n2, r2, _, e2⟩ := RL.exact I h2
  have hl2 := r2.length
  have hsz : its.toArray.size + its2.toArray.size ≤ sizeLine := by rw [List.size_toArray, List.size_toArray]; omega
  refine call_meets F.slot_list_extend ⟨_, e, rfl⟩ F.entry_list_extend (F.args_list_extend_2 _ _) (AutoSeq1.list_extend_list_list_0 l its.toArray n b its2.toArray n2 (by rw [notLongL hsz, Bool.and_false]; exact Bool.false_ne_true) (by rw [List.size_toArray]; omega) (by omega)) ⟨e, e2, ?_⟩
  exact ⟨.non, _, I.lset (its' := its ++ its2) h1 e (by simp) (r.append r2) (by rw [List.length_append]; omega), rfl, q⟩
theorem mto_append : MutOk K rAppend appendG := by
  intro H p ys xs vs ds z xs' Q hp ga gv e q
  unfold appendG at e
  split at e
  · split at e
    · rename_i hl
      cases e
      cases gv with
      | cons hz g =>
        cases g
        have hlen : ys.length = xs.length := ga.length
        exact ⟨p, ys, _, rfl, rfl, hp, by rw [sizeLine_eq]; omega, q _ _ .non (ga.append (.cons hz .nil))⟩
    · cases e
  · cases e
theorem fz_list1 {H : Hp} {vs : List V} {ys : List PyData} (g : FzAll K H vs [.list ys]) : ∃ b zs, vs = [.ref b] ∧ RL K H b zs ∧ FzAll K H zs ys := by
  cases g with
  | cons h g => cases g; cases h with
    | lst h g => exact ⟨_, _, rfl, .inr h, g⟩
theorem mto_extend : MutOk K (rExtR K) extendG := by
  intro H p ys xs vs ds z xs' Q hp ga gv e q
  unfold extendG at e
  split at e
  · split at e
    · rename_i hl
      cases e
      obtain ⟨b, zs, rfl, h2, g2⟩ := fz_list1 gv
      have h1 : ys.length = xs.length := ga.length
      have h3 := g2.length
      exact ⟨p, b, ys, zs, rfl, rfl, hp, h2, by rw [sizeLine_eq]; omega, q _ _ .non (ga.append g2)⟩
    · cases e
  · cases e
theorem FzAll.dropLast {H : Hp} {ys : List V} {xs : List PyData} (g : FzAll K H ys xs) : FzAll K H ys.dropLast xs.dropLast := by
  rw [List.dropLast_eq_take, List.dropLast_eq_take, g.length]
  exact g.take _
theorem FzAll.eraseIdx {H : Hp} : ∀ {ys : List V} {xs : List PyData} (k : Nat), FzAll K H ys xs → FzAll K H (ys.eraseIdx k) (xs.eraseIdx k)
  | _, _, _, .nil => .nil
  | _, _, 0, .cons _ g => g
  | _, _, k + 1, .cons h g => .cons h (FzAll.eraseIdx k g)
theorem mto_pop : MutOk K rPop popG := by
  intro H p ys xs vs ds z xs' Q hp ga gv e q
  unfold popG at e
  split at e
  · cases gv
    cases e1 : xs[xs.length - 1]? with
    | none => rw [e1] at e; cases e
    | some d =>
      rw [e1] at e; cases e
      obtain ⟨v, e2, hz⟩ := ga.get e1
      rw [← ga.length] at e2
      exact ⟨p, ys, v, rfl, rfl, hp, e2, q _ _ hz ga.dropLast⟩
  · cases e
theorem mto_popAt : MutOk K rPopAt popAtG := by
  intro H p ys xs vs ds z xs' Q hp ga gv e q
  unfold popAtG at e
  split at e
  · rename_i i
    split at e
    · rename_i hi
      cases e1 : seqIndex? i xs.length with
      | none => rw [e1] at e; cases e
      | some k =>
        rw [e1] at e
        cases e2 : xs[k]? with
        | none => simp only [e2] at e; cases e
        | some d =>
          simp only [e2] at e; cases e
          obtain ⟨v, e3, hz⟩ := ga.get e2
          cases gv with
          | cons hw g =>
            cases g
            cases fz_int hw
            rw [← ga.length] at e1
            exact ⟨p, ys, i, k, v, rfl, rfl, hp, by omega, by omega, e1, e3, q _ _ hz (ga.eraseIdx k)⟩
    · cases e
  · cases e
theorem mto_insert : MutOk K (fun x vs H Q => ∃ (l : Addr) (xs : List V) (i : Int) (y : V), x = .ref l ∧ vs = [.int i, y] ∧ H l = some (.lst xs) ∧ xs.length < sizeLine ∧ 0 ≤ i ∧ i < 2 ^ 63 ∧ Q .non (upd H l (.lst (xs.take i.toNat ++ [y] ++ xs.drop i.toNat)))) insertG := by
  intro H p ys xs vs ds z xs' Q hp ga gv e q
  unfold insertG at e
  split at e
  · rename_i i d
    split at e
    · rename_i hi
      cases e
      cases gv with
      | cons hw g =>
        cases g with
        | cons hz g =>
          cases g
          cases fz_int hw
          have h1 : ys.length = xs.length := ga.length
          exact ⟨p, ys, i, _, rfl, rfl, hp, by rw [sizeLine_eq]; omega, hi.2.1, by omega, q _ _ .non (((ga.take _).append (.cons hz .nil)).append (ga.drop _))⟩
    · cases e
  · cases e
end

/-! ### x[i] = e -/
theorem tS_at {xr : XR} {K : PySem.W.Frag} {W : WX} {ro : List Nat} {σ0 σ : St} {D : Ends} {H H0 : Hp} {fp fp0 : Fp} {m : Sm} {α β : Type} {Ra : RelT α β} {f : Ev α} {g : α → Sf} {Q1 : β → Hp → Prop} (r : RelS K H m σ fp) (k : Kept ro σ0 σ) (s0 : Step fp0 fp H0 H) (p : PostS xr K W ro σ0 D H0 fp0 ((f m).bind g))
    (h1 : ∀ a m1 v H1 fp1, RelS K H1 m1 σ fp1 → Step fp fp1 H H1 → Ra H H1 σ fp1 a v → PostS xr K W ro σ0 D H0 fp0 (g a m1) → Q1 v H1) : tG xr K W Ra f σ H Q1 := by
  refine ⟨m, fp, r, ?_⟩
  generalize f m = q at p
  cases q with
  | no => exact p
  | ex x m' => exact fun c d H' fp' rs st x => p c d σ H' fp' rs (s0.trans st) k x
  | ok a m1 => exact fun v H1 fp1 r1 s1 ra => h1 a m1 v H1 fp1 r1 s1 ra p
def setIx (i : Nat) (fi fe : Ev Rv) : Sf := bnd (frzE fe) fun d m => match m[i]? with
  | some (some (.ol _)) => (frzE fi m).bind fun k m1 => match k, m1[i]? with
    | .int k, some (some (.ol xs)) => match ixN xs.length k with
      | some j => .ok .nx (m1.set i (some (.ol (xs.set j d))))
      | none => .no
    | _, _ => .no
  | _ => .no
section
variable {xr : XR} {W : WX} {X : Cx} {ro : List Nat} {σ0 : St} {e ie : Expr} {fe fi : Ev Rv} {i : Nat} {x : Str} {pos npos spos : Pos}
theorem ss_setIx (he : PE X e (tE xr X.K W fe)) (hi : PE X ie (tE xr X.K W fi)) (hN : X.N[i]? = some x) (hv : Vis X.env.scope x) (hd : (x == ("__debug__" : Str)) = false := by decide) (hcd : (x == ("__classdict__" : Str)) = false := by decide)
    (ha : ∀ v, assign (.Subscript (.Name x npos) ie spos) X.env v = (do
      let ov ← holding [v] (eval (.Name x npos) X.env)
      let iv ← holding [v, ov] (eval ie X.env)
      standAt spos
      holding [v, ov, iv] (setItem ov iv v)
      release [v, ov, iv] []) := by intro _; rfl)
    (hs : swapsWithSole [.Subscript (.Name x npos) ie spos] e pos.line X.env = pure false := by rfl) (hw : swappedStores [.Subscript (.Name x npos) ie spos] e X.env = pure none := by rfl)
    (h1 : (assignEach [.Subscript (.Name x npos) ie spos] X.env).map (·.2) = [assign (.Subscript (.Name x npos) ie spos) X.env] := by rfl) : PS X (.Assign [.Subscript (.Name x npos) ie spos] e pos) (tS xr X.K W ro σ0 (setIx i fi fe)) := by
  refine ps_imp (ps_asg (sd_frz he) (pg_sub (pe_var (i := i) hN hv hd hcd) (sd_frz hi) set_list ha) hs hw h1) fun D σ H q => ?_
  refine tS_bind (Ra := RelD X.K) q fun fp d m1 v H1 fp1 r1 s1 k z p => ?_
  cases e1 : m1[i]? with
  | none => simp only [e1] at p; exact p.elim
  | some oo =>
    cases oo with
    | none => simp only [e1] at p; exact p.elim
    | some mv =>
      cases mv with
      | ol xs0 =>
        simp only [e1] at p
        obtain ⟨a, ys, hv2, ha2, ga⟩ := slot_list r1 e1
        refine ⟨.ref a, hv2, ?_⟩
        refine tS_at (D := D) (ro := ro) (σ0 := σ0) (Ra := RelD X.K) (g := fun k m1 => match k, m1[i]? with
          | .int k, some (some (.ol xs)) => match ixN xs.length k with
            | some j => .ok .nx (m1.set i (some (.ol (xs.set j d))))
            | none => .no
          | _, _ => .no) r1 k (.refl _ _) p fun kk m2 u H2 fp3 r2 s2 zk p2 => ?_
        cases kk with
        | int kk =>
          cases fz_int zk
          cases e2 : m2[i]? with
          | none => simp only [e2] at p2; exact p2.elim
          | some oo =>
            cases oo with
            | none => simp only [e2] at p2; exact p2.elim
            | some mv =>
              cases mv with
              | ol xs =>
                simp only [e2] at p2
                cases e3 : ixN xs.length kk with
                | none => simp only [e3] at p2; exact p2.elim
                | some j =>
                  simp only [e3] at p2
                  obtain ⟨w, e4, rm⟩ := r2.at_ i _ e2
                  rw [hv2] at e4; cases e4
                  generalize ef : fp3 i = f0 at rm
                  cases rm with
                  | @ol _ _ ys2 hp g2 =>
                    have k3 : Keep H2 (upd H2 a (.lst (ys2.set j v))) := keep_upd (by rw [hp]; exact trivial)
                    have ha1 : a ∈ fp3 i := by rw [ef]; simp
                    have kv : Keep H1 H2 := r1.keepOf s2
                    refine ⟨a, ys2, kk, j, rfl, rfl, hp, by rw [g2.length]; exact e3, p2 σ _ (fun l => if l = i then [a] else fp3 l) (r2.put (nth_lt e2) k3 (fun l hl b hb => upd_ne fun q => hl (r2.dis l i a (by rw [← q]; exact hb) ha1)) hv2 (.ol upd_same ((FzAll.set (Fz.keep kv z) j g2).keep k3)) fun b hb l hl hb2 => ?_) (s2.trans ⟨fun l b hb => ?_, fun b u hb hn => ?_, fun b hb => upd_trk hb⟩) k⟩
                    · simp only [List.mem_singleton] at hb
                      subst hb
                      exact hl (r2.dis l i b hb2 ha1)
                    · by_cases hl : l = i
                      · simp only [if_pos hl, List.mem_singleton] at hb
                        exact .inl ⟨i, by rw [hb]; exact ha1⟩
                      · simp only [if_neg hl] at hb; exact .inl ⟨l, hb⟩
                    · rw [upd_ne (fun q => hn i (by rw [q]; exact ha1))]; exact hb
              | _ => simp only [e2] at p2; exact p2.elim
        | _ => exact p2.elim
      | _ => simp only [e1] at p; exact p.elim
/-! ### a, b = e, e' with plain local names -/
def parS (i j : Nat) (f1 f2 : Ev Rv) : Sf := bnd (ownF f1) fun r1 => bnd (ownF f2) fun r2 m => (putM i r1 m).bind fun _ m1 => putM j r2 m1
theorem put_at {K : PySem.W.Frag} {H0 H : Hp} {m : Sm} {σ : St} {fp : Fp} {r : Rv} {v : V} (s : RelS K H m σ fp) (rr : RelR K H0 H σ fp r v) (hr : ∀ i, r ≠ .s i) : ∃ mv f, (∀ i (m : Sm), putM i r m = .ok .nx (m.set i (some mv))) ∧ RelM K H mv v f ∧ (∀ b ∈ f, H0 b = none) ∧ (∀ b ∈ f, ∀ i, b ∉ fp i) := by
  cases r with
  | d x => exact ⟨.fz x, [], fun _ _ => rfl, .fz rr, (fun b hb => by cases hb), fun b hb => by cases hb⟩
  | s i => exact absurd rfl (hr i)
  | nl xs =>
    obtain ⟨a, ys, rfl, ha, g, n, nf⟩ := rr
    exact ⟨.ol xs, [a], fun _ _ => rfl, .ol ha g, (fun b hb => by simp only [List.mem_singleton] at hb; subst hb; exact n), fun b hb => by simp only [List.mem_singleton] at hb; subst hb; exact nf⟩
  | nd kvs =>
    obtain ⟨a, rfl, ha, n, nf⟩ := rr
    exact ⟨.od kvs, [a], fun _ _ => rfl, .od ha, (fun b hb => by simp only [List.mem_singleton] at hb; subst hb; exact n), fun b hb => by simp only [List.mem_singleton] at hb; subst hb; exact nf⟩
  | nr k c a b =>
    obtain ⟨f, h, q⟩ := rr
    exact ⟨.rs k c a b, f, fun _ _ => rfl, .rs h, fun b hb => (q b hb).1, fun b hb => (q b hb).2⟩
theorem RelM.some_ {K : PySem.W.Frag} {H : Hp} {mv : Mv} {v : V} {f : List Addr} (h : RelM K H mv v f) {b : Addr} (hb : b ∈ f) : H b ≠ none := fun e => by
  have := h.mut b hb; rw [e] at this; exact this
theorem ss_par {j : Nat} {y : Str} {a b : Expr} {f1 f2 : Ev Rv} {px py pt : Pos} {kt k2 : Nat} {pt2 : Pos} (hc : X.calm = true) (hN : X.N.Nodup) (hi : X.N[i]? = some x) (hj : X.N[j]? = some y) (hij : i ≠ j) (hx : X.env.scope.names.lookup x = some .local) (hy : X.env.scope.names.lookup y = some .local)
    (ha : PE X a (tE xr X.K W f1)) (hb : PE X b (tE xr X.K W f2)) (hri : i ∉ ro) (hrj : j ∉ ro) (hw : swappedStores [.Tuple [.Name x px, .Name y py] kt pt] (.Tuple [a, b] k2 pt2) X.env = pure (some [x, y]))
    (hs1 : starEach [a, b] X.env = (false, eval a X.env) :: starEach [b] X.env := by rfl) (hs2 : starEach [b] X.env = (false, eval b X.env) :: starEach [] X.env := by rfl)
    (hs : swapsWithSole [.Tuple [.Name x px, .Name y py] kt pt] (.Tuple [a, b] k2 pt2) pos.line X.env = pure false := by rfl) : PS X (.Assign [.Tuple [.Name x px, .Name y py] kt pt] (.Tuple [a, b] k2 pt2) pos) (tS xr X.K W ro σ0 (parS i j f1 f2)) := by
  refine ps_imp (ps_par hc hN hi hj hij hx hy (pa_cons (sd_own ha) (pa_cons (sd_own hb) pa_nil hs2) hs1) hw hs) fun D σ H q => ?_
  refine tS_bind0 (Ra := RelR X.K) q fun fp r1 m1 v H1 fp1 rs1 s1 k rr1 p => ?_
  unfold bnd at p
  refine tS_at (D := D) (ro := ro) (σ0 := σ0) (Ra := RelR X.K) rs1 k s1 p fun r2 m2 u H2 fp2 rs2 s2 rr2 p2 => ?_
  by_cases n1 : ∃ l, r1 = .s l
  · obtain ⟨l, rfl⟩ := n1; exact p2.elim
  by_cases n2 : ∃ l, r2 = .s l
  · obtain ⟨l, rfl⟩ := n2
    cases hq : putM i r1 m2 with
    | no => simp only [hq, Res.bind] at p2; exact p2.elim
    | ex x m' => cases r1 <;> cases hq
    | ok o m' => simp only [hq, Res.bind] at p2; exact p2.elim
  obtain ⟨mv1, g1, e1, rm0, a0, b0⟩ := put_at rs1 rr1 fun l e => n1 ⟨l, e⟩
  have hs1 : ∀ b ∈ g1, H1 b ≠ none := fun b hb => rm0.some_ hb
  have b1 : ∀ b ∈ g1, ∀ l, b ∉ fp2 l := fun b hb => s2.out (hs1 b hb) (b0 b hb)
  have rm1 : RelM X.K H2 mv1 v g1 := rm0.keep (rs1.keepOf s2) fun b hb => by
    cases e : H1 b with
    | none => exact absurd e (hs1 b hb)
    | some o => exact s2.keep b o e (b0 b hb)
  obtain ⟨mv2, g2, e2, rm2, a2, b2⟩ := put_at rs2 rr2 fun l e => n2 ⟨l, e⟩
  rw [e1 i m2] at p2
  simp only [Res.bind] at p2
  rw [e2 j] at p2
  have own1 := rs2.own (i := i) rm1 b1
  have own2 := own1.own (i := j) (mv := mv2) (v := u) (f := g2) rm2 (fun b hb l hl => by
    have hl : b ∈ (if l = i then (if i < m2.length then g1 else []) else fp2 l) := hl
    split at hl
    · split at hl
      · exact hs1 b hl (a2 b hb)
      · cases hl
    · exact b2 b hb l hl)
  refine ⟨v, u, rfl, p2 _ H2 _ own2 ?_ fun l hl => ?_⟩
  · exact own_step (own_step (s1.trans s2) (fun b hb => a0 b hb) _) (fun b hb => s1.trk b (a2 b hb)) _
  · rw [List.getElem?_set_ne (fun e => hrj (by rw [e]; exact hl)), List.getElem?_set_ne (fun e => hri (by rw [e]; exact hl))]
    exact k l hl
end
end PyE

/-! PyE: slices; list times int; a source of draws made; small helpers -/
namespace PyE
open PySem PySem.Spec PyProof.Rows
open L2

theorem blk_takes {X : Cx} {s : Shared} {H : Hp} {scope : Scope} {env : Env} {fp : List Addr} : Takes (X.blk s H scope env fp) wF := fun u s' ⟨_, _, _, _, _, _, _, _, _, _, _, _, _, _, _, _, w⟩ => w
section
variable {xr : XR} {K : PySem.W.Frag} {W : WX} {α β γ δ : Type} {σ : St} {H H1 : Hp} {fp fp1 : Fp} {m1 : Sm}
theorem post_bind {Ra : RelT α β} {Rc : RelT γ δ} {f : Ev α} {g : α → Ev γ} {Q : δ → Hp → Prop} {Q1 : β → Hp → Prop} (r1 : RelS K H1 m1 σ fp1) (s1 : Step fp fp1 H H1) (p : Post xr K W Rc σ H fp Q ((f m1).bind g))
    (h : ∀ a m2 v H2 fp2, RelS K H2 m2 σ fp2 → Step fp1 fp2 H1 H2 → Ra H1 H2 σ fp2 a v → Post xr K W Rc σ H fp Q (g a m2) → Q1 v H2) : tG xr K W Ra f σ H1 Q1 := by
  refine ⟨m1, fp1, r1, ?_⟩
  generalize f m1 = q at p
  cases q with
  | no => exact p
  | ex x m' => exact fun c d H' fp' rs st x => p c d H' fp' rs (s1.trans st) x
  | ok b m2 => exact fun u H2 fp2 r2 s2 rb => h b m2 u H2 fp2 r2 s2 rb p
end
/-! ### slices -/
def partE : Option (Ev Rv) → Ev (Option Int)
  | none => fun m => .ok none m
  | some f => bnd f fun r m => match r with
    | .d (.int i) => .ok (some i) m
    | _ => .no
def cutP (xs : List PyData) (lo hi : Option Int) : List PyData := (xs.drop (HT.sIx xs.length 0 lo)).take (HT.sIx xs.length xs.length hi - HT.sIx xs.length 0 lo)
def sliceD : PyData → Option Int → Option Int → Option Rv
  | .list xs, lo, hi => some (.nl (cutP xs lo hi))
  | .tuple xs, lo, hi => some (.d (.tuple (cutP xs lo hi)))
  | .str z, lo, hi => if z.length ≤ sizeLine then some (.d (.str (cutS z lo hi))) else none
  | _, _, _ => none
def sliceE (f : Ev Rv) (lo hi : Option (Ev Rv)) : Ev Rv := bnd f fun x => bnd (partE lo) fun l => bnd (partE hi) fun u m => match deref m x with
  | some a => fin1 (sliceD a l u) m
  | none => .no
abbrev tO (xr : XR) (K : PySem.W.Frag) (W : WX) (f : Ev (Option Int)) : TO := fun σ H Q => tG xr K W (fun _ _ _ _ x y => x = y) f σ H Q
section
variable {xr : XR} {W : WX} {X : Cx} {e b : Expr} {lo hi : Option Expr} {f fb : Ev Rv} {fl fh : Option (Ev Rv)} {p2 pos : Pos}
theorem po_imp {o : Option Expr} {t t' : TO} (h : PO X o t) (i : ∀ σ H Q, t' σ H Q → t σ H Q) : PO X o t' := ⟨fun pins s σ H Q I q => h.run pins s σ H Q I (i σ H Q q)⟩
theorem sp_none : PO X none (tO xr X.K W (partE none)) := po_imp po_none fun σ H Q ⟨m, fp, r, p⟩ => p none H fp r (.refl _ _) rfl
theorem sp_some (h : PE X b (tE xr X.K W fb)) : PO X (some b) (tO xr X.K W (partE (some fb))) := by
  refine po_imp (po_some h) fun σ H Q q => tG_bind (Rc := fun _ _ _ _ x y => x = y) q fun m fp a m1 v H1 fp1 r r1 s1 ra p => ?_
  cases a with
  | d d =>
    cases d with
    | int i =>
      have ra : Fz X.K H1 v (.int i) := ra
      exact ⟨i, fz_int ra, p (some i) H1 fp1 r1 s1 rfl⟩
    | _ => exact p.elim
  | _ => exact p.elim
theorem fz_cut {K : PySem.W.Frag} {H : Hp} {xs : List V} {ds : List PyData} (g : FzAll K H xs ds) (lo hi : Option Int) : FzAll K H (cutV xs lo hi) (cutP ds lo hi) := by
  unfold cutV cutP
  rw [g.length]
  exact (g.drop _).take _
theorem cutP_whole {ds : List PyData} {lo hi : Option Int} (h : HT.sIx ds.length 0 lo = 0 ∧ HT.sIx ds.length ds.length hi = ds.length) : cutP ds lo hi = ds := by
  unfold cutP; rw [h.1, h.2]; simp
/-- t[lo:hi] of a tuple -/
def rSlF (K : PySem.W.Frag) : V → Option Int → Option Int → Hp → VK → Prop := fun x lo hi H Q => ∃ a xs, x = .ref a ∧ SqT K H a xs ∧
  (HT.sIx xs.length 0 lo = 0 ∧ HT.sIx xs.length xs.length hi = xs.length → Q (.ref a) H) ∧ (¬ (HT.sIx xs.length 0 lo = 0 ∧ HT.sIx xs.length xs.length hi = xs.length) → ∀ p o, H p = none → o.dict = none → Q (.ref p) (upd H p (.frz o (.tup (cutV xs lo hi)))))
theorem sl_tupF : SlR X (rSlF X.K) := by
  intro pins s σ H x v vl vu lo hi sl Q I rx hs pl pu ⟨a, xs, ex, hx, q1, q2⟩
  subst ex
  cases rx
  obtain ⟨its, r, ht, hz⟩ := I.tuple hx
  have hlen : its.toArray.size = xs.length := by rw [List.size_toArray]; exact r.length.symm
  refine ⟨"tuple", _, PyProof.Rows.slot_tuple_getitem.lookup, ht.typeIs, ?_⟩
  by_cases hw : HT.sIx xs.length 0 lo = 0 ∧ HT.sIx xs.length xs.length hi = xs.length
  · exact getItem_tuple_whole ht hs pl pu (by rw [hlen]; exact hw) ⟨.ref a, H, I, rfl, q1 hw⟩
  · refine HT.getItem_tuple_cut ht hs pl pu (by rw [hlen]; exact hw) ?_ (by rw [hlen]; exact hz)
    rw [hlen]
    have e := Heap.get?_push_size s.heap (o := { cls := .type "tuple", data := .seq ((its.drop (HT.sIx xs.length 0 lo)).take (HT.sIx xs.length xs.length hi - HT.sIx xs.length 0 lo)).toArray }) rfl
    exact ⟨.ref s.heap.objs.size, _, I.laid (t' := s.toks) (o := .frz _ (.tup (cutV xs lo hi))) (fun b ob q => Heap.get?_push_of_some _ q) (Nat.le_refl _) ⟨e, Nat.le_trans (cutV_length xs lo hi) hz, _, (r.drop (HT.sIx xs.length 0 lo)).take (HT.sIx xs.length xs.length hi - HT.sIx xs.length 0 lo), IsTup.new _ _⟩, rfl, q2 hw _ _ (I.hok.fresh (Nat.le_refl _)) rfl⟩
abbrev rSl (K : PySem.W.Frag) : V → Option Int → Option Int → Hp → VK → Prop := fun x lo hi H Q => rSlL K x lo hi H Q ∨ (fun x lo hi H Q => rSlF K x lo hi H Q ∨ rSlS x lo hi H Q) x lo hi H Q
theorem sl_any : SlR X (rSl X.K) := sl_list.or (sl_tupF.or sl_str)
theorem slice_ok {K : PySem.W.Frag} {H : Hp} {v : V} {a : PyData} {l u : Option Int} {z : Rv} {Q : VK} (rb : Rb K H v a) (e : sliceD a l u = some z) (q : ∀ w H', Same H H' → NewR K H H' z w → Q w H') : rSl K v l u H Q := by
  have up : ∀ {p : Addr} {o : HO}, H p = none → Same H (upd H p o) := fun hp b o e => by rw [upd_ne (ne_of_none e hp)]; exact e
  unfold sliceD at e
  split at e
  · cases e
    cases rb with
    | fz h =>
      cases h with
      | lst h g => exact .inl ⟨_, _, rfl, h.seq, fun p hp => q _ _ (up hp) ⟨p, _, rfl, upd_same, (fz_cut g l u).keep (PyE.Same.toKeep (up hp)), hp⟩⟩
    | lst h g => exact .inl ⟨_, _, rfl, .of h, fun p hp => q _ _ (up hp) ⟨p, _, rfl, upd_same, (fz_cut g l u).keep (PyE.Same.toKeep (up hp)), hp⟩⟩
  · cases e
    cases rb with
    | fz h =>
      cases h with
      | tup h g =>
        have hl := g.length
        refine .inr (.inl ⟨_, _, rfl, h.sq, fun hw => ?_, fun hw p o hp ho => ?_⟩)
        · refine q _ _ (fun _ _ h => h) (.tup h ?_)
          rw [cutP_whole (by rw [← hl]; exact hw)]
          exact g
        · exact q _ _ (up hp) (.tup ⟨o, upd_same, ho⟩ ((fz_cut g l u).keep (PyE.Same.toKeep (up hp))))
  · split at e
    · rename_i hz
      cases e
      cases rb with
      | fz h => cases h; exact .inr (.inr ⟨_, rfl, hz, q _ _ (fun _ _ h => h) (.str _)⟩)
    · cases e
  · cases e
/-- e[lo:hi] -/
theorem sd_slice (he : PE X e (tE xr X.K W f)) (hl : PO X lo (tO xr X.K W (partE fl))) (hh : PO X hi (tO xr X.K W (partE fh))) : PE X (.Subscript e (.Slice lo hi none p2) pos) (tE xr X.K W (sliceE f fl fh)) := by
  refine pe_imp (pe_slice sl_any he hl hh) fun σ H Q h => tG_bind (Rc := RelR X.K) h fun m fp a m1 v H1 fp1 r r1 s1 ra p => ?_
  refine post_bind (Rc := RelR X.K) r1 s1 p fun l m2 l' H2 fp2 r2 s2 e1 p => ?_
  cases (show l = l' from e1)
  refine post_bind (Rc := RelR X.K) r2 (s1.trans s2) p fun u m3 u' H3 fp3 r3 s3 e2 p => ?_
  cases (show u = u' from e2)
  have ra3 := (ra.step r1 s2).step r2 s3
  cases e3 : deref m3 a with
  | none => simp only [e3] at p; exact p.elim
  | some d =>
    simp only [e3] at p
    obtain ⟨z, hz, q⟩ := fin_ok ((s1.trans s2).trans s3) r3 p
    exact slice_ok (ra3.rb r3 e3) hz q
end
/-! ### times: ints, or a list by an int -/
section
variable {X : Cx} {K : PySem.W.Frag}
def rRepL (K : PySem.W.Frag) : R2 := fun x y H Q => ∃ l k xs, x = .ref l ∧ y = .int k ∧ RL K H l xs ∧ -(2 ^ 63) ≤ k ∧ k < 2 ^ 63 ∧ xs.length * k.toNat ≤ sizeLine ∧ ∀ p, H p = none → Q (.ref p) (upd H p (.lst (List.replicate k.toNat xs).flatten))
theorem opr_rep : OpR X (binaryOp .Mult) (rRepL X.K) := by
  intro pins s σ H x y v u Q I rx ry h
  obtain ⟨l, k, xs, rfl, rfl, hH, h1, h2, hz, q⟩ := h
  cases rx
  obtain ⟨t, rfl⟩ := ry
  obtain ⟨its, n, r, hl, e⟩ := RL.exact I hH
  have hx := r.length
  have hlen : its.toArray.size * k.toNat ≤ sizeLine := by rw [List.size_toArray, ← hx]; exact hz
  have hcap : ¬ its.toArray.size * k.toNat > (2 ^ 63 - 1) / 8 := by have : (sizeLine : Nat) ≤ (2 ^ 63 - 1) / 8 := by decide
                                                                    omega
  have hnew : List.foldl (fun x1 x2 => x1 ++ x2) #[] (List.replicate (if its.toArray.isEmpty = true then 0 else k.toNat) its.toArray) = (List.replicate k.toNat its).flatten.toArray := by
    have f0 : ∀ m : Nat, List.foldl (fun x1 x2 => x1 ++ x2) #[] (List.replicate m its.toArray) = (List.replicate m its).flatten.toArray := fun m => (foldl_rep its m []).trans (by simp)
    rw [f0]; cases its with
             | nil => simp
             | cons a r' => rw [if_neg (by simp)]
  have m1 := AutoListH.list___mul___list_int_3 l its.toArray n k t (by rw [fitsIndex_both h1 h2]; exact Bool.false_ne_true) hcap (by rw [notLongL hlen]; exact Bool.false_ne_true)
  have m2 := PySem.int___rmul___int_list k t l its.toArray n
  refine wpAny_binaryOp_repeat_ref (T := "list") (U := "int") (by decide) ⟨_, e, rfl⟩ (fun s' => typeIs_int s' k t) noFill_list_mul F.fills_int_mul F.slot_int_rmul repeat_list F.slot_int_index.lookup (call_meets F.slot_int_rmul (typeIs_int s k t) F.entry_int_rmul (F.args_int_rmul_2 _ _) m2 ⟨e, rfl, ⟨_, e, rfl⟩, call_meets F.slot_list_mul ⟨_, e, rfl⟩ F.entry_list_mul (F.args_list_mul_2 _ _) m1 ⟨e, ?_⟩⟩)
  rw [hnew]; exact ⟨.ref _, _, I.lnew (t' := s.toks) (r.rep k.toNat) (by rw [PyProof.Rows.lm_len_rep_flat, Nat.mul_comm]; exact hz), rfl, q _ I.fresh⟩
theorem tup_same (l : Addr) (its : Array Value) (n : Nat) (dd : Option Addr) (sl : Array (Option Value)) (k : Int) (u : Tok) (c0 : (decide (k < -(2 ^ 63)) || decide (k ≥ 2 ^ 63)) = false) (c1 : (its.isEmpty || k == 1) = true) :
    Meets (Builtin.«tuple.__mul__» ⟨[.ref l, .int k u], []⟩) (fun _ R s => s.heap.get? l = some { cls := .type "tuple", dict := dd, data := .seq its n, slots := sl } ∧ R (.ok (.ret (Value.ref l))) s) :=
  .of_wp fun prog w A R s h => by
    obtain ⟨hp, g, d, tk, os⟩ := s
    obtain ⟨hl, h⟩ := h
    have idx := AutoSeq1.idx_int
    wp_walk using wpAny_loadPart' hl
    repeat (first
      | (refine wpAny_ite_false (decide_eq_false (by rw [c0]; simp)) ?_; wp_walk using wpAny_loadPart' hl)
      | (refine wpAny_ite_true (decide_eq_true c1) ?_; wp_walk using wpAny_loadPart' hl))
    all_goals exact ⟨_, rfl, h⟩
theorem tup_none (l : Addr) (its : Array Value) (n : Nat) (dd : Option Addr) (sl : Array (Option Value)) (k : Int) (u : Tok) (c0 : (decide (k < -(2 ^ 63)) || decide (k ≥ 2 ^ 63)) = false) (c1 : (its.isEmpty || k == 1) = false) (c2 : (decide (k ≤ 0) || its.isEmpty) = true) :
    Meets (Builtin.«tuple.__mul__» ⟨[.ref l, .int k u], []⟩) (fun _ R s => s.heap.get? l = some { cls := .type "tuple", dict := dd, data := .seq its n, slots := sl } ∧
      R (.ok (.ret (Value.ref s.heap.objs.size))) { s with heap := s.heap.push { cls := Value.type "tuple", data := Data.seq #[] }, toks := s.toks }) :=
  .of_wp fun prog w A R s h => by
    obtain ⟨hp, g, d, tk, os⟩ := s
    obtain ⟨hl, h⟩ := h
    have idx := AutoSeq1.idx_int
    wp_walk using wpAny_loadPart' hl
    repeat (first
      | (refine wpAny_ite_false (decide_eq_false (by rw [c0]; simp)) ?_; wp_walk using wpAny_loadPart' hl)
      | (refine wpAny_ite_false (decide_eq_false (by rw [c1]; simp)) ?_; wp_walk using wpAny_loadPart' hl)
      | (refine wpAny_ite_true (decide_eq_true c2) ?_; wp_walk using wpAny_loadPart' hl))
    all_goals exact ⟨_, rfl, h⟩
def rRepF (K : PySem.W.Frag) : R2 := fun x y H Q => ∃ l k xs, x = .ref l ∧ y = .int k ∧ TupF H l xs ∧ -1000 ≤ k ∧ k ≤ 1000 ∧ xs.length ≤ 1000 ∧ ((xs = [] ∨ k = 1) → Q (.ref l) H) ∧
  (¬ (xs = [] ∨ k = 1) → ∀ p o, H p = none → o.dict = none → Q (.ref p) (upd H p (.frz o (.tup (List.replicate k.toNat xs).flatten))))
theorem opr_repF : OpR X (binaryOp .Mult) (rRepF X.K) := by
  intro pins s σ H x y v u Q I rx ry h
  obtain ⟨l, k, xs, rfl, rfl, hT, h1, h2, hz, q1, q2⟩ := h
  cases rx
  obtain ⟨t, rfl⟩ := ry
  obtain ⟨its, r, ⟨⟨cls, dd, data, sl⟩, ho, hc, n, hd⟩, hs⟩ := I.tuple hT.sq
  simp only at hc hd
  subst hc hd
  have len := r.length
  have c0 : (decide (k < -(2 ^ 63)) || decide (k ≥ 2 ^ 63)) = false := by
    rw [decide_eq_false (by omega), decide_eq_false (by omega)] <;> rfl
  have he : its.toArray.isEmpty = decide (xs = []) := by
    cases its with
    | nil => cases r; rfl
    | cons a b => cases r; rfl
  have fin : Meets (Builtin.«tuple.__mul__» ⟨[.ref l, .int k t], []⟩) (fun _ R s' => s' = s ∧ ∀ s'', (∃ v H', Inv X pins σ H' s'' ∧ RelV v (if xs = [] ∨ k = 1 then Value.ref l else Value.ref s.heap.objs.size) ∧ Q v H') → R (.ok (.ret (if xs = [] ∨ k = 1 then Value.ref l else Value.ref s.heap.objs.size))) s'') := by
    by_cases hq : xs = [] ∨ k = 1
    · have c1 : (its.toArray.isEmpty || k == 1) = true := by
        rw [he]
        rcases hq with z | z
        · rw [decide_eq_true z, Bool.true_or]
        · rw [z]; simp
      refine fun pr w' A R s' hh => tup_same l its.toArray n dd sl k t c0 c1 pr w' A R s' ?_
      obtain ⟨es, hR⟩ := hh
      subst es
      refine ⟨ho, ?_⟩
      have := hR s' ⟨.ref l, H, I, by rw [if_pos hq]; rfl, q1 hq⟩
      rw [if_pos hq] at this
      exact this
    · have c1 : (its.toArray.isEmpty || k == 1) = false := by
        rw [he, decide_eq_false (fun z => hq (.inl z)), Bool.false_or]
        exact beq_eq_false_iff_ne.mpr fun z => hq (.inr z)
      have res : ∀ (its' : List Value) (n' : Nat), Vals (List.replicate k.toNat xs).flatten its' → (List.replicate k.toNat xs).flatten.length ≤ sizeLine → ∀ s'', s'' = { s with heap := s.heap.push { cls := Value.type "tuple", data := Data.seq its'.toArray n' }, toks := s.toks } →
          ∃ v H', Inv X pins σ H' s'' ∧ RelV v (if xs = [] ∨ k = 1 then Value.ref l else Value.ref s.heap.objs.size) ∧ Q v H' := by
        intro its' n' rv hlen s'' es
        subst es
        have e := Heap.get?_push_size s.heap (o := { cls := Value.type "tuple", data := Data.seq its'.toArray n' }) rfl
        exact ⟨.ref s.heap.objs.size, _, I.laid (t' := s.toks) (o := .frz { cls := Value.type "tuple", data := Data.seq its'.toArray n' } (.tup (List.replicate k.toNat xs).flatten)) (fun b ob q => Heap.get?_push_of_some _ q) (Nat.le_refl _) ⟨e, hlen, its', rv, ⟨_, e, rfl, _, rfl⟩⟩, by rw [if_neg hq]; rfl, q2 hq _ _ (I.hok.fresh (Nat.le_refl _)) rfl⟩
      by_cases hk : k ≤ 0
      · have c2 : (decide (k ≤ 0) || its.toArray.isEmpty) = true := by rw [decide_eq_true hk, Bool.true_or]
        refine fun pr w' A R s' hh => tup_none l its.toArray n dd sl k t c0 c1 c2 pr w' A R s' ?_
        obtain ⟨es, hR⟩ := hh
        subst es
        refine ⟨ho, ?_⟩
        have e0 : (List.replicate k.toNat xs).flatten = [] := by rw [show k.toNat = 0 by omega]; rfl
        have := hR _ (res [] 0 (by rw [e0]; exact .nil) (by rw [e0]; exact Nat.zero_le _) _ rfl)
        rw [if_neg hq] at this
        exact this
      · have c2 : (decide (k ≤ 0) || its.toArray.isEmpty) = false := by
          rw [he, decide_eq_false hk, decide_eq_false (fun z => hq (.inl z))]; rfl
        have hm : ((its.toArray.size : Nat) : Int) * k ≤ 1000000 := by
          rw [List.size_toArray, ← len]
          have a1 : ((xs.length : Nat) : Int) * k ≤ 1000 * k := Int.mul_le_mul_of_nonneg_right (by omega) (by omega)
          omega
        have c4 : Builtin.Tuple.tupleTooMany (((its.toArray.size : Nat) : Int) * k) = false := by
          unfold Builtin.Tuple.tupleTooMany
          rw [sizeLine_eq]
          exact decide_eq_false (by omega)
        have fl : ∀ (α : Type) (l : List α), l.length ≤ 1000 → (List.replicate k.toNat l).flatten.length ≤ sizeLine := fun α l hl => by
          rw [PyProof.Rows.lm_len_rep_flat, sizeLine_eq]
          have a1 : k.toNat * l.length ≤ 1000 * 1000 := Nat.mul_le_mul (by omega) hl
          omega
        refine fun pr w' A R s' hh => tuple_mulW l its.toArray n dd sl k t c0 c1 c2 (by omega) c4 (by rw [size_rep, List.size_toArray]; exact fl _ _ (by omega)) pr w' A R s' ?_
        obtain ⟨es, hR⟩ := hh
        subst es
        refine ⟨ho, ?_⟩
        have := hR _ (res _ 0 (r.rep k.toNat) (fl _ _ hz) _ rfl)
        rw [if_neg hq] at this
        rw [size_rep]
        exact this
  refine wpAny_binaryOp_repeat_ref (T := "tuple") (U := "int") (by decide) ⟨_, ho, rfl⟩ (fun s' => typeIs_int s' k t) noFill_tuple_mul F.fills_int_mul F.slot_int_rmul repeat_tuple F.slot_int_index.lookup
    (call_meets F.slot_int_rmul (typeIs_int s k t) F.entry_int_rmul (F.args_int_rmul_2 _ _) (int_rmul_tuple k t l its.toArray n dd sl)
      ⟨ho, rfl, ⟨_, ho, rfl⟩, call_meets F.slot_tuple_mul ⟨_, ho, rfl⟩ F.entry_tuple_mul (F.args_tuple_mul_2 _ _) fin ⟨rfl, fun s'' h => h⟩⟩)
theorem opr_mul : OpR X (binaryOp .Mult) (fun x y H Q => rI CMul (fun i j => .int (i * j)) x y H Q ∨ (fun x y H Q => rRepL X.K x y H Q ∨ rRepF X.K x y H Q) x y H Q) := op_mul.or (opr_rep.or opr_repF)
theorem opd_mulD : Op2 K (fun x y H Q => rI CMul (fun i j => .int (i * j)) x y H Q ∨ (fun x y H Q => rRepL K x y H Q ∨ rRepF K x y H Q) x y H Q) mulD := by
  intro H x y a b z Q rx ry e q
  have up : ∀ {p : Addr} {o : HO}, H p = none → Same H (upd H p o) := fun hp b o e => by rw [upd_ne (ne_of_none e hp)]; exact e
  unfold mulD at e
  split at e
  · split at e
    · rename_i h
      cases e; cases rb_int rx; cases rb_int ry
      exact .inl ⟨_, _, rfl, rfl, cmul_of h, q _ _ (fun _ _ h => h) (.int _)⟩
    · cases e
  · split at e
    · rename_i h
      cases e; cases rb_int ry
      obtain ⟨l, ys, rfl, hl, g⟩ : ∃ l ys, x = .ref l ∧ RL K H l ys ∧ FzAll K H ys _ := by
        cases rx with
        | fz h => cases h with
          | lst h g => exact ⟨_, _, rfl, .inr h, g⟩
        | lst h g => exact ⟨_, _, rfl, .inl h, g⟩
      exact .inr (.inl ⟨_, _, ys, rfl, rfl, hl, by omega, by omega, by rw [g.length]; exact h.2.2, fun p hp => q _ _ (up hp) ⟨p, _, rfl, upd_same, (fz_rep g _).keep (PyE.Same.toKeep (up hp)), hp⟩⟩)
    · cases e
  · split at e
    · rename_i xs k h
      cases e; cases rb_int ry
      obtain ⟨l, ys, rfl, hl, g⟩ := rb_tup rx
      refine .inr (.inr ⟨l, _, ys, rfl, rfl, hl, h.1, h.2.1, by rw [g.length]; exact h.2.2, fun hq => q _ _ (fun _ _ h => h) ?_, fun hq p o hp ho => q _ _ (up hp) (.tup ⟨o, upd_same, ho⟩ ((fz_rep g _).keep (PyE.Same.toKeep (up hp))))⟩)
      have e0 : (List.replicate k.toNat xs).flatten = xs := by
        rcases hq with z | z
        · have : xs = [] := by have := g.length; rw [z] at this; exact List.eq_nil_of_length_eq_zero this.symm
          rw [this]; simp
        · rw [z]; simp
      rw [e0]
      exact .tup hl g
    · cases e
  · cases e
end
/-! ### a source of draws of the first kind is made -/
def potK (rs : List Rv) : Ev Rv := fun m => match rs with
  | [.nl xs, .d (.int a), .d (.int b)] => match intsOf xs with
    | some ns => .ok (.nr 0 ns a b) m
    | none => .no
  | _ => .no
def potE (fs : List (Ev Rv)) : Ev Rv := bnd (argsE fs) potK
section
variable {xr : XR} {W : WX} {X : Cx} {es : List Expr} {fs : List (Ev Rv)} {pos : Pos}
theorem potE_inv {m1 : Sm} {rs : List Rv} {P : Res Rv → Prop} (hn : P .no → False) (p : P (potK rs m1)) : ∃ ns a b, rs = [.nl (ns.map PyData.int), .d (.int a), .d (.int b)] ∧ P (.ok (.nr 0 ns a b) m1) := by
  unfold potK at p
  split at p
  · rename_i xs a b
    cases e : intsOf xs with
    | none => rw [e] at p; exact (hn p).elim
    | some ns => rw [e] at p; exact ⟨ns, a, b, by rw [intsOf_some e], p⟩
  · exact (hn p).elim
theorem sd_pot0 (h : PA X es (tA xr X.K W (argsE fs))) : PE X (.List es pos) (tE xr X.K W (potE fs)) := by
  refine pe_imp (pe_lst h) fun σ H Q q => tG_bind (Rc := RelR X.K) q fun m fp rs m1 vs H1 fp1 r r1 s1 ra p => ?_
  obtain ⟨ns, a, b, rfl, pp⟩ := potE_inv (P := Post xr X.K W (RelR X.K) σ H fp Q) (fun z => z) p
  match vs, ra with
  | [v, w, u], ⟨⟨c, ys, e1, hc, g, hn, hf⟩, z1, z2, _⟩ =>
    have z1 : Fz X.K H1 w (.int a) := z1
    have z2 : Fz X.K H1 u (.int b) := z2
    subst e1
    cases fz_int z1
    cases fz_int z2
    cases fz_vints g
    refine ⟨Nat.le_trans (show 3 ≤ 100 by decide) (by decide), fun o ho => ?_⟩
    have sm : Same H1 (upd H1 o (.lst [.ref c, .int a, .int b])) := fun b o e => by rw [upd_ne (ne_of_none e ho)]; exact e
    have co : c ≠ o := ne_of_none hc ho
    refine pp _ _ fp1 (r1.same sm) (s1.trans (.same sm)) ⟨[o, c], .k0 co.symm upd_same (by rw [upd_ne co]; exact hc), fun x hx => ?_⟩
    simp only [List.mem_cons, List.not_mem_nil, or_false] at hx
    rcases hx with rfl | rfl
    · exact ⟨s1.trk _ ho, fun i hi => r1.some_ hi ho⟩
    · exact ⟨hn, hf⟩
end
end PyE

/-! PyE: small helpers that the printed texts name -/
namespace PyE
open PySem PySem.Spec PyProof.Rows
open L2

theorem _root_.L2.Room.units65 {k : Nat} {A : Around} (r : Room k A) : A.units + 65 < cLine := by have := r.un; omega
/-- how a def's keywords bind, by its own binding -/
theorem kb_mk {K : PySem.W.Frag} {x qual : Str} {st : Stmt} {f : Addr} {fd : FuncData} {ps ks : List Str} {n : Nat} {perm : List Nat} (F : Fun K x qual st f fd)
    (h : ∀ (kV doc pm : Value) (an : Option Addr) (cdv ct : Value) (us ws : List Value), us.length = n → ws.length = ks.length → bindArgs (PySem.W.fnOf x qual (defArgs st) (defBody st) (defScope st) .none kV doc pm an cdv ct) ⟨us, ks.zip ws⟩ = pure (ps.zip (permL n ks.length perm .none us ws))) : KBp K fd ps ks n perm := by
  obtain ⟨oc, od, kV, doc, pm, an, cdv, ct, osl, rfl, lk, hcd⟩ := F.ex
  exact fun s us ws _ h1 h2 => .of_eq (h kV doc pm an cdv ct us ws h1 h2)
def isD (neg : Bool) (a b : PyData) : Option Rv := match b with
  | .none => isND neg a
  | _ => none
end PyE

/-! PyE: what is never reached; chains; isinstance; min, max, sorted of data -/
namespace PyE
open PySem PySem.Spec PyProof.Rows
open L2
/-! ### never reached -/
section
variable {xr : XR} {W : WX} {X : Cx} {ro : List Nat} {σ0 : St} {e : Expr} {st : Stmt} {sts : List Stmt}
def noE {α : Type} : Ev α := fun _ => .no
theorem sd_no : PE X e (tE xr X.K W noE) := ⟨fun pins s σ H Q I h => by obtain ⟨m, fp, r, p⟩ := h; exact p.elim⟩
theorem sd_noT : PT X e (tT xr X.K W noE) := ⟨fun pins s σ H Q I h => by obtain ⟨m, fp, r, p⟩ := h; exact p.elim⟩
theorem ss_no : PS X st (tS xr X.K W ro σ0 noE) := ⟨fun pins s σ H D I h => by obtain ⟨m, fp, r, k, p⟩ := h; exact p.elim⟩
end
/-! ### a < b < c -/
def chK2 (g' : PyData → PyData → Option Rv) (y : Rv) : Rv → Ev Rv := fun z m => match deref m y, deref m z with
  | some b, some c => fin1 (g' b c) m
  | _, _ => .no
def chK1 (g g' : PyData → PyData → Option Rv) (fc : Ev Rv) (x y : Rv) : Ev Rv := fun m => match deref m x, deref m y with
  | some a, some b => match g a b with
    | some (.d (.bool k)) => if k = true then (fc m).bind (chK2 g' y) else .ok (.d (.bool false)) m
    | _ => .no
  | _, _ => .no
def chainE (g g' : PyData → PyData → Option Rv) (fa fb fc : Ev Rv) : Ev Rv := bnd fa fun x => bnd fb fun y => chK1 g g' fc x y
section
variable {xr : XR} {W : WX} {X : Cx} {a b c : Expr} {fa fb fc : Ev Rv} {pos : Pos} {r r' : R2} {g g' : PyData → PyData → Option Rv} {op op' : CmpOp}
theorem chain_ok {K : PySem.W.Frag} {σ : St} {H : Hp} {Q : VK} (og : Op2 K r g) (og' : Op2 K r' g') (h : tE xr K W (chainE g g' fa fb fc) σ H Q) : tChain r r' (tE xr K W fa) (tE xr K W fb) (tE xr K W fc) σ H Q := by
  refine tG_bind2 (Rc := RelR K) h fun fp fp1 m1 x y m2 v u H1 H2 fp2 s1 r1 ra r2 s2 rb p => ?_
  have ra2 := ra.step r1 s2
  unfold chK1 at p
  cases e1 : deref m2 x with
  | none => simp only [e1] at p; exact p.elim
  | some dx =>
    cases e2 : deref m2 y with
    | none => simp only [e1, e2] at p; exact p.elim
    | some dy =>
      simp only [e1, e2] at p
      cases e3 : g dx dy with
      | none => simp only [e3] at p; exact p.elim
      | some z =>
        refine og H2 v u dx dy z _ (ra2.rb r2 e1) (rb.rb r2 e2) e3 fun w H3 sm n => ?_
        have r3 := r2.same sm
        have s3 := (s1.trans s2).trans (Step.same (fp := fp2) sm)
        cases z with
        | d z =>
          cases z with
          | bool k =>
            refine ⟨k, fz_bool n, ?_⟩
            simp only [e3] at p
            cases k with
            | true =>
              refine iteT ?_
              simp only [if_true] at p
              refine post_bind (Rc := RelR K) r3 s3 p fun t m4 u4 H4 fp4 r4 s4 rc p => ?_
              have rb4 : RelR K H1 H4 σ fp4 y u := (rb.step r2 (Step.same sm)).step r3 s4
              unfold chK2 at p
              cases e4 : deref m4 y with
              | none => simp only [e4] at p; exact p.elim
              | some d1 =>
                cases e5 : deref m4 t with
                | none => simp only [e4, e5] at p; exact p.elim
                | some d2 =>
                  simp only [e4, e5] at p
                  obtain ⟨z2, hz2, q⟩ := fin_ok (s3.trans s4) r4 p
                  exact og' H4 u u4 d1 d2 z2 Q (rb4.rb r4 e4) (rc.rb r4 e5) hz2 q
            | false =>
              refine iteF ?_
              exact p _ H3 fp2 r3 s3 (.bl false)
          | _ => simp only [e3] at p; exact p.elim
        | _ => simp only [e3] at p; exact p.elim
theorem sd_chain (o : OpR X (compareOp op) r) (o' : OpR X (compareOp op') r') (og : Op2 X.K r g) (og' : Op2 X.K r' g') (ha : PE X a (tE xr X.K W fa)) (hb : PE X b (tE xr X.K W fb)) (hc : PE X c (tE xr X.K W fc)) (hm : lastMarks [op, op'] [b, c] = false := by with_unfolding_all rfl) :
    PE X (.Compare a [op, op'] [b, c] pos) (tE xr X.K W (chainE g g' fa fb fc)) := pe_imp (pe_chain o o' ha hb hc hm) fun σ H Q h => chain_ok og og' h
theorem sd_chainT (o : OpR X (compareOp op) r) (o' : OpR X (compareOp op') r') (og : Op2 X.K r g) (og' : Op2 X.K r' g') (ha : PE X a (tE xr X.K W fa)) (hb : PE X b (tE xr X.K W fb)) (hc : PE X c (tE xr X.K W fc)) (hm : lastMarks [op, op'] [b, c] = false := by with_unfolding_all rfl) :
    PT X (.Compare a [op, op'] [b, c] pos) (tT xr X.K W (boolE (chainE g g' fa fb fc))) := pt_imp (pt_chain o o' ha hb hc hm) fun σ H Q h => chain_ok og og' (boolE_ok h)
end
/-! ### isinstance(x, T), T a type that is built in -/
def tyD : PyData → String
  | .none => "NoneType"
  | .bool _ => "bool"
  | .int _ => "int"
  | .str _ => "str"
  | .list _ => "list"
  | .tuple _ => "tuple"
  | .dict _ => "dict"
def isDic : PyData → Bool
  | .dict _ => true
  | _ => false
theorem rb_ty {K : PySem.W.Frag} {H : Hp} {v : V} {d : PyData} (h : Rb K H v d) (hn : isDic d = false) : TyX K H v (.type (tyD d)) := by
  cases h with
  | fz h =>
    cases h with
    | non => exact .base .non
    | bl b => exact .base (.bl b)
    | int i => exact .base (.int i)
    | str x => exact .base (.str x)
    | lst h g =>
      rcases h with ⟨o, h⟩ | ⟨its, n, h, _⟩
      · exact .base (.frz h)
      · exact .kList h rfl
    | tup h g =>
      obtain ⟨o, h, _⟩ := h
      exact .fTuple h
    | dik => cases hn
    | dit => cases hn
  | lst h g => exact .base (.lst h)
  | dic h => cases hn
/-- isinstance of data -/
def rIsiR (K : PySem.W.Frag) : List V → Hp → VK → Prop := fun xs H Q => ∃ x d T b, xs = [x, .ty T] ∧ Rb K H x d ∧ kitB (tyD d) T = some b ∧ Q (.bl b) H
theorem call_isiR {X : Cx} : CallR X (.builtin "isinstance") (rIsiR X.K) := by
  intro pins s σ H xs us Q I r h
  obtain ⟨x, d, T, b, rfl, rb, e, q⟩ := h
  cases e0 : isDic d with
  | false => exact call_isi pins s σ H _ us Q I r ⟨x, .ty T, _, _, b, rfl, .ty T, rb_ty rb e0, kit_ty e, q⟩
  | true =>
    obtain ⟨u1, u2, rfl, r1, r2⟩ := vals2 r
    have e2 := (ClsV.ty T).eq r2
    subst e2
    cases d with
    | dict kvs =>
      obtain ⟨a, rfl, hd⟩ := rb_dict rb
      cases (show u1 = Value.ref a from r1)
      have ex : ∃ o, s.heap.get? a = some o ∧ o.cls = .type "dict" := by
        have viaK : ∀ {l : List (Key × V)}, Rd H a (.dK l) → ∃ o, s.heap.get? a = some o ∧ o.cls = .type "dict" := fun {l} h => by
          obtain ⟨_, z, vs, kv, o, es, ep, ho, hx, hd, _, pr, _⟩ := (show ObjOk X.prog X.w H s.heap a (.dK l) from h.ok I.hok)
          exact ⟨o, ho, hx.1⟩
        have viaT : ∀ {l : Xs}, Rd H a (DXo l a) → ∃ o, s.heap.get? a = some o ∧ o.cls = .type "dict" := fun {l} h => by
          obtain ⟨⟨h1, h2, o', es, ep, h3, h4, h5, h6, _⟩, _, _⟩ := (show ObjOk X.prog X.w H s.heap a (DXo l a) from h.ok I.hok)
          exact ⟨o', h3, h4.1⟩
        cases hd with
        | nil h => exact h.elim viaK fun h => viaT (.of h)
        | k h => exact viaK h
        | t h => exact viaT h
      exact PySem.W.kia_one PySem.W.kitx_dict I.kIn ex (kit_ty e) (fun z => nomatch z) fun tk => ⟨.bl b, H, I.tok tk, rfl, q⟩
    | _ => cases e0
def isiD (T : String) (d : PyData) : Option Rv := match kitB (tyD d) T with
  | some b => bD b
  | none => none
def isiE (T : String) (f : Ev Rv) : Ev Rv := op1E (isiD T) f
section
variable {xr : XR} {W : WX} {X : Cx} {e : Expr} {f : Ev Rv} {x : Str} {p p2 pos : Pos} {T : String}
theorem sd_isi (hg : Gl X "isinstance") (hm : X.mg "isinstance" = none) (hgT : Gl X x) (hmT : X.mg x = none) (hv : bootBuiltins x = some (.type T)) (he : PE X e (tE xr X.K W f)) (hn : x ≠ "__name__" := by decide) (hdb : (x == ("__debug__" : Str)) = false := by decide)
    (hs : starEach [e, .Name x p2] X.env = (false, eval e X.env) :: starEach [.Name x p2] X.env := by rfl) (hs2 : starEach [.Name x p2] X.env = (false, eval (.Name x p2) X.env) :: starEach [] X.env := by rfl)
    (hpl : (backTo pos (starEach [.Name x p2] X.env)).any (·.1) = false := by rfl) : PE X (.Call (.Name "isinstance" p) [e, .Name x p2] [] pos) (tE xr X.K W (isiE T f)) := by
  have ht : PE X (.Name x p2) (tC (.ty T)) := pe_bltn hgT hmT hv rfl hn hdb
  refine pe_imp (pe_callB call_isiR hg hm (by rfl) (pa_cons he (pa_cons ht pa_nil hs2) hs) (by decide) (by decide) hs hpl) fun σ H Q h => tG_bind (Rc := RelR X.K) h fun m fp a m1 v H1 fp1 r r1 s1 ra q => ?_
  cases e1 : deref m1 a with
  | none => simp only [e1] at q; exact q.elim
  | some d =>
    simp only [e1] at q
    obtain ⟨z, hz, q2⟩ := fin_ok s1 r1 q
    unfold isiD at hz
    cases e2 : kitB (tyD d) T with
    | none => rw [e2] at hz; cases hz
    | some b =>
      rw [e2] at hz; cases hz
      exact ⟨v, d, T, b, rfl, ra.rb r1 e1, e2, q2 _ _ (fun _ _ h => h) (.bl b)⟩
end
theorem isi_of {T : String} {d : PyData} {b : Bool} (h : kitB (tyD d) T = some b) (hd : isDic d = false := by rfl) : isiD T d = some (.d (.bool b)) := by unfold isiD; rw [h]; rfl
theorem isi_int_none : isiD "int" .none = some (.d (.bool false)) := isi_of (show kitB "NoneType" "int" = some false by decide +kernel)
theorem isi_int_bool {b : Bool} : isiD "int" (.bool b) = some (.d (.bool true)) := isi_of (show kitB "bool" "int" = some true by decide +kernel)
theorem isi_int_int {i : Int} : isiD "int" (.int i) = some (.d (.bool true)) := isi_of (show kitB "int" "int" = some true by decide +kernel)
theorem isi_int_str {x : Str} : isiD "int" (.str x) = some (.d (.bool false)) := isi_of (show kitB "str" "int" = some false by decide +kernel)
theorem isi_int_list {xs : List PyData} : isiD "int" (.list xs) = some (.d (.bool false)) := isi_of (show kitB "list" "int" = some false by decide +kernel)
theorem isi_int_tuple {xs : List PyData} : isiD "int" (.tuple xs) = some (.d (.bool false)) := isi_of (show kitB "tuple" "int" = some false by decide +kernel)
theorem isi_bool_none : isiD "bool" .none = some (.d (.bool false)) := isi_of (show kitB "NoneType" "bool" = some false by decide +kernel)
theorem isi_bool_bool {b : Bool} : isiD "bool" (.bool b) = some (.d (.bool true)) := isi_of (show kitB "bool" "bool" = some true by decide +kernel)
theorem isi_bool_int {i : Int} : isiD "bool" (.int i) = some (.d (.bool false)) := isi_of (show kitB "int" "bool" = some false by decide +kernel)
theorem isi_bool_str {x : Str} : isiD "bool" (.str x) = some (.d (.bool false)) := isi_of (show kitB "str" "bool" = some false by decide +kernel)
theorem isi_bool_list {xs : List PyData} : isiD "bool" (.list xs) = some (.d (.bool false)) := isi_of (show kitB "list" "bool" = some false by decide +kernel)
theorem isi_bool_tuple {xs : List PyData} : isiD "bool" (.tuple xs) = some (.d (.bool false)) := isi_of (show kitB "tuple" "bool" = some false by decide +kernel)
theorem isi_str_none : isiD "str" .none = some (.d (.bool false)) := isi_of (show kitB "NoneType" "str" = some false by decide +kernel)
theorem isi_str_bool {b : Bool} : isiD "str" (.bool b) = some (.d (.bool false)) := isi_of (show kitB "bool" "str" = some false by decide +kernel)
theorem isi_str_int {i : Int} : isiD "str" (.int i) = some (.d (.bool false)) := isi_of (show kitB "int" "str" = some false by decide +kernel)
theorem isi_str_str {x : Str} : isiD "str" (.str x) = some (.d (.bool true)) := isi_of (show kitB "str" "str" = some true by decide +kernel)
theorem isi_str_list {xs : List PyData} : isiD "str" (.list xs) = some (.d (.bool false)) := isi_of (show kitB "list" "str" = some false by decide +kernel)
theorem isi_str_tuple {xs : List PyData} : isiD "str" (.tuple xs) = some (.d (.bool false)) := isi_of (show kitB "tuple" "str" = some false by decide +kernel)
theorem isi_list_none : isiD "list" .none = some (.d (.bool false)) := isi_of (show kitB "NoneType" "list" = some false by decide +kernel)
theorem isi_list_bool {b : Bool} : isiD "list" (.bool b) = some (.d (.bool false)) := isi_of (show kitB "bool" "list" = some false by decide +kernel)
theorem isi_list_int {i : Int} : isiD "list" (.int i) = some (.d (.bool false)) := isi_of (show kitB "int" "list" = some false by decide +kernel)
theorem isi_list_str {x : Str} : isiD "list" (.str x) = some (.d (.bool false)) := isi_of (show kitB "str" "list" = some false by decide +kernel)
theorem isi_list_list {xs : List PyData} : isiD "list" (.list xs) = some (.d (.bool true)) := isi_of (show kitB "list" "list" = some true by decide +kernel)
theorem isi_list_tuple {xs : List PyData} : isiD "list" (.tuple xs) = some (.d (.bool false)) := isi_of (show kitB "tuple" "list" = some false by decide +kernel)
theorem isi_tuple_none : isiD "tuple" .none = some (.d (.bool false)) := isi_of (show kitB "NoneType" "tuple" = some false by decide +kernel)
theorem isi_tuple_bool {b : Bool} : isiD "tuple" (.bool b) = some (.d (.bool false)) := isi_of (show kitB "bool" "tuple" = some false by decide +kernel)
theorem isi_tuple_int {i : Int} : isiD "tuple" (.int i) = some (.d (.bool false)) := isi_of (show kitB "int" "tuple" = some false by decide +kernel)
theorem isi_tuple_str {x : Str} : isiD "tuple" (.str x) = some (.d (.bool false)) := isi_of (show kitB "str" "tuple" = some false by decide +kernel)
theorem isi_tuple_list {xs : List PyData} : isiD "tuple" (.list xs) = some (.d (.bool false)) := isi_of (show kitB "list" "tuple" = some false by decide +kernel)
theorem isi_tuple_tuple {xs : List PyData} : isiD "tuple" (.tuple xs) = some (.d (.bool true)) := isi_of (show kitB "tuple" "tuple" = some true by decide +kernel)
theorem isi_dict_none : isiD "dict" .none = some (.d (.bool false)) := isi_of (show kitB "NoneType" "dict" = some false by decide +kernel)
theorem isi_dict_bool {b : Bool} : isiD "dict" (.bool b) = some (.d (.bool false)) := isi_of (show kitB "bool" "dict" = some false by decide +kernel)
theorem isi_dict_int {i : Int} : isiD "dict" (.int i) = some (.d (.bool false)) := isi_of (show kitB "int" "dict" = some false by decide +kernel)
theorem isi_dict_str {x : Str} : isiD "dict" (.str x) = some (.d (.bool false)) := isi_of (show kitB "str" "dict" = some false by decide +kernel)
theorem isi_dict_list {xs : List PyData} : isiD "dict" (.list xs) = some (.d (.bool false)) := isi_of (show kitB "list" "dict" = some false by decide +kernel)
theorem isi_dict_tuple {xs : List PyData} : isiD "dict" (.tuple xs) = some (.d (.bool false)) := isi_of (show kitB "tuple" "dict" = some false by decide +kernel)
theorem isi_int_dict {kvs : Kvs} : isiD "int" (.dict kvs) = some (.d (.bool false)) := by unfold isiD; rw [show kitB (tyD (.dict kvs)) "int" = some false by show kitB "dict" "int" = _; decide +kernel]; rfl
theorem isi_bool_dict {kvs : Kvs} : isiD "bool" (.dict kvs) = some (.d (.bool false)) := by unfold isiD; rw [show kitB (tyD (.dict kvs)) "bool" = some false by show kitB "dict" "bool" = _; decide +kernel]; rfl
theorem isi_str_dict {kvs : Kvs} : isiD "str" (.dict kvs) = some (.d (.bool false)) := by unfold isiD; rw [show kitB (tyD (.dict kvs)) "str" = some false by show kitB "dict" "str" = _; decide +kernel]; rfl
theorem isi_list_dict {kvs : Kvs} : isiD "list" (.dict kvs) = some (.d (.bool false)) := by unfold isiD; rw [show kitB (tyD (.dict kvs)) "list" = some false by show kitB "dict" "list" = _; decide +kernel]; rfl
theorem isi_tuple_dict {kvs : Kvs} : isiD "tuple" (.dict kvs) = some (.d (.bool false)) := by unfold isiD; rw [show kitB (tyD (.dict kvs)) "tuple" = some false by show kitB "dict" "tuple" = _; decide +kernel]; rfl
theorem isi_dict_dict {kvs : Kvs} : isiD "dict" (.dict kvs) = some (.d (.bool true)) := by unfold isiD; rw [show kitB (tyD (.dict kvs)) "dict" = some true by show kitB "dict" "dict" = _; decide +kernel]; rfl
theorem vals_back : ∀ {xs : List V} {us : List Value} {i : Nat} {u : Value}, Vals xs us → us[i]? = some u → ∃ x, xs[i]? = some x ∧ RelV x u
  | _, _, _, _, .nil, e => by simp at e
  | _, _, 0, _, .cons r _, e => by simp at e; subst e; exact ⟨_, rfl, r⟩
  | _, _, i + 1, u, .cons _ r, e => by
    obtain ⟨x, e1, h⟩ := vals_back (i := i) (u := u) r (by simpa using e)
    exact ⟨x, by simpa using e1, h⟩
/-! ### min, max, sorted of alike data -/
open PySem.W (alike AlikeAll AllAlike Sortable minD maxD dataLe)
def notN : PyData → Bool
  | .none => false
  | _ => true
def notTup : PyData → Bool
  | .tuple _ => false
  | .none => false
  | _ => true
def tup1 : PyData → Bool
  | .tuple (_ :: _) => true
  | _ => false
def alikeB (xs : List PyData) : Bool := (xs.all fun x => xs.all fun y => alike x y) && xs.all notN && decide (PyData.depthAll xs ≤ 60)
mutual
theorem alike_nd : ∀ {d : PyData}, alike d d = true → d.hasDict = false
  | .none, _ => by simp only [PyData.hasDict]
  | .bool _, _ => by simp only [PyData.hasDict]
  | .int _, _ => by simp only [PyData.hasDict]
  | .str _, _ => by simp only [PyData.hasDict]
  | .list xs, h => by
    simp only [PySem.W.alike] at h
    simp only [PyData.hasDict]
    exact alikeAll_nd h
  | .tuple xs, h => by
    simp only [PySem.W.alike] at h
    simp only [PyData.hasDict]
    exact alikeAll_nd h
  | .dict kvs, h => by simp only [PySem.W.alike] at h; cases h
theorem alikeAll_nd : ∀ {ds : List PyData}, PySem.W.alikeAll ds ds = true → PyData.hasDictAll ds = false
  | [], _ => by simp only [PyData.hasDictAll]
  | d :: ds, h => by
    simp only [PySem.W.alikeAll, Bool.and_eq_true] at h
    simp only [PyData.hasDictAll, alike_nd h.1, alikeAll_nd h.2, Bool.or_self]
end
theorem nd_all : ∀ {ds : List PyData}, (∀ d ∈ ds, alike d d = true) → PyData.hasDictAll ds = false
  | [], _ => by simp only [PyData.hasDictAll]
  | d :: ds, h => by simp only [PyData.hasDictAll, alike_nd (h d (List.mem_cons_self ..)), nd_all fun e he => h e (List.mem_cons_of_mem _ he), Bool.or_self]
theorem alikeB_all {xs : List PyData} (h : alikeB xs = true) : AlikeAll xs ∧ PyData.depthAll xs ≤ 60 := by
  unfold alikeB at h
  simp only [Bool.and_eq_true, List.all_eq_true, decide_eq_true_eq] at h
  refine ⟨⟨fun x hx y hy => h.1.1 x hx y hy, fun x hx e => ?_⟩, h.2⟩
  have := h.1.2 x hx
  rw [e] at this; cases this
def bestD (g : PyData → List PyData → PyData) : List PyData → Option Rv
  | [.list (x :: xs)] => if alikeB (x :: xs) = true then some (.d (g x xs)) else none
  | [.tuple (x :: xs)] => if alikeB (x :: xs) = true then some (.d (g x xs)) else none
  | _ => none
abbrev minLD : List PyData → Option Rv := bestD minD
abbrev maxLD : List PyData → Option Rv := bestD maxD
def rBest (K : PySem.W.Frag) (g : PyData → List PyData → PyData) : List V → Hp → VK → Prop := fun xs H Q => ∃ (p : Addr) (ys : List V) (x : PyData) (ds : List PyData), xs = [.ref p] ∧ (SqL K H p ys ∨ SqT K H p ys) ∧ FzAll K H ys (x :: ds) ∧ alikeB (x :: ds) = true ∧ ∀ v, Fz K H v (g x ds) → Q v H
section
variable {X : Cx} {K : PySem.W.Frag}
theorem opd_best {g : PyData → List PyData → PyData} : OpN K (rBest K g) (bestD g) := by
  intro H xs as z Q h e q
  unfold bestD at e
  split at e
  · split at e
    · rename_i ha
      cases e
      obtain ⟨v, rfl, rb⟩ := rba1 h
      obtain ⟨p, ys, rfl, hp, g⟩ : ∃ p ys, v = .ref p ∧ SqL K H p ys ∧ FzAll K H ys _ := by
        cases rb with
        | fz h1 => cases h1 with
          | lst h2 g => exact ⟨_, _, rfl, h2.seq, g⟩
        | lst h2 g => exact ⟨_, _, rfl, .of h2, g⟩
      exact ⟨p, ys, _, _, rfl, .inl hp, g, ha, fun v hv => q _ _ (fun _ _ h => h) hv⟩
    · cases e
  · split at e
    · rename_i ha
      cases e
      obtain ⟨v, rfl, rb⟩ := rba1 h
      obtain ⟨p, ys, rfl, hp, g⟩ : ∃ p ys, v = .ref p ∧ SqT K H p ys ∧ FzAll K H ys _ := by
        cases rb with
        | fz h1 => cases h1 with
          | tup h2 g => exact ⟨_, _, rfl, h2.sq, g⟩
      exact ⟨p, ys, _, _, rfl, .inr hp, g, ha, fun v hv => q _ _ (fun _ _ h => h) hv⟩
    · cases e
  · cases e
theorem reads_fz {pins : List (Addr × Obj)} {σ : St} {H : Hp} {s : Shared} (I : Inv X pins σ H s) {ys : List V} {ds : List PyData} {its : List Value} (g : FzAll X.K H ys ds) (rv : Vals ys its) {i : Nat} {u : Value} (e : its[i]? = some u) {d : PyData} {h' : Heap} {bs : List Addr}
    (r : Reads h' u d bs) (k : ∀ b o, s.heap.get? b = some o → h'.get? b = some o) (ha : ∀ x ∈ ds, alike x d = true) (hs : ∀ x ∈ ds, alike x x = true) : ∃ v, RelV v u ∧ Fz X.K H v d := by
  obtain ⟨v, e1, rl⟩ := vals_back rv e
  obtain ⟨d', e2, z⟩ := g.getV e1
  obtain ⟨as, r1⟩ := Dp.reads I d' v u (z.dp (alike_nd (hs d' (List.mem_of_getElem? e2)))) rl
  have e3 := PySem.W.alike_unique _ _ _ _ _ (ha d' (List.mem_of_getElem? e2)) (PyProof.Rows.Reads.keeps k r1) r
  exact ⟨v, rl, e3 ▸ z⟩
theorem minD_mem : ∀ (xs : List PyData) (x : PyData), minD x xs ∈ x :: xs
  | [], x => by simp [minD]
  | y :: ys, x => by
    have h := minD_mem ys (if PySem.W.dataLt y x then y else x)
    have e : minD x (y :: ys) = minD (if PySem.W.dataLt y x then y else x) ys := rfl
    rw [e]
    rcases List.mem_cons.mp h with h | h
    · rw [h]; split <;> simp
    · exact List.mem_cons_of_mem _ (List.mem_cons_of_mem _ h)
theorem maxD_mem : ∀ (xs : List PyData) (x : PyData), maxD x xs ∈ x :: xs
  | [], x => by simp [maxD]
  | y :: ys, x => by
    have h := maxD_mem ys (if PySem.W.dataLt x y then y else x)
    have e : maxD x (y :: ys) = maxD (if PySem.W.dataLt x y then y else x) ys := rfl
    rw [e]
    rcases List.mem_cons.mp h with h | h
    · rw [h]; split <;> simp
    · exact List.mem_cons_of_mem _ (List.mem_cons_of_mem _ h)
theorem opr_min (hc : X.calm = true) (hu : X.A.units + 64 < cLine) : CallR X (.builtin "min") (rBest X.K minD) := by
  intro pins s σ H vs us Q I r h
  obtain ⟨p, ys, x, ds, rfl, hp, g, ha, q⟩ := h
  obtain ⟨hal, hd⟩ := alikeB_all ha
  rw [Vals.ref1 r]
  rcases hp with hp | hp
  · obtain ⟨its, rv, hl, _⟩ := I.list hp
    obtain ⟨as, hr⟩ := Dp.readsAll I _ _ _ (g.dp (nd_all fun d hd => hal.1 d hd d hd)) rv
    refine PySem.W.min_list_data (I.ok.hd hc) hl.isList (by simpa using hr) hal (by omega) fun i v h' tk bs e1 e2 k => ?_
    obtain ⟨w, rl, z⟩ := reads_fz I g rv (by simpa using e1) e2 k (fun d hd => hal.1 d hd _ (minD_mem ds x)) (fun d hd => hal.1 d hd d hd)
    exact ⟨w, H, I.kept k, rl, q w z⟩
  · obtain ⟨its, rv, hl, _⟩ := I.tuple hp
    obtain ⟨as, hr⟩ := Dp.readsAll I _ _ _ (g.dp (nd_all fun d hd => hal.1 d hd d hd)) rv
    refine PySem.W.min_tuple_data (I.ok.hd hc) hl (by simpa using hr) hal (by omega) fun i v h' tk bs e1 e2 k => ?_
    obtain ⟨w, rl, z⟩ := reads_fz I g rv (by simpa using e1) e2 k (fun d hd => hal.1 d hd _ (minD_mem ds x)) (fun d hd => hal.1 d hd d hd)
    exact ⟨w, H, I.kept k, rl, q w z⟩
theorem opr_max (hc : X.calm = true) (hu : X.A.units + 64 < cLine) : CallR X (.builtin "max") (rBest X.K maxD) := by
  intro pins s σ H vs us Q I r h
  obtain ⟨p, ys, x, ds, rfl, hp, g, ha, q⟩ := h
  obtain ⟨hal, hd⟩ := alikeB_all ha
  rw [Vals.ref1 r]
  rcases hp with hp | hp
  · obtain ⟨its, rv, hl, _⟩ := I.list hp
    obtain ⟨as, hr⟩ := Dp.readsAll I _ _ _ (g.dp (nd_all fun d hd => hal.1 d hd d hd)) rv
    refine PySem.W.max_list_data (I.ok.hd hc) hl.isList (by simpa using hr) hal (by omega) fun i v h' tk bs e1 e2 k => ?_
    obtain ⟨w, rl, z⟩ := reads_fz I g rv (by simpa using e1) e2 k (fun d hd => hal.1 d hd _ (maxD_mem ds x)) (fun d hd => hal.1 d hd d hd)
    exact ⟨w, H, I.kept k, rl, q w z⟩
  · obtain ⟨its, rv, hl, _⟩ := I.tuple hp
    obtain ⟨as, hr⟩ := Dp.readsAll I _ _ _ (g.dp (nd_all fun d hd => hal.1 d hd d hd)) rv
    refine PySem.W.max_tuple_data (I.ok.hd hc) hl (by simpa using hr) hal (by omega) fun i v h' tk bs e1 e2 k => ?_
    obtain ⟨w, rl, z⟩ := reads_fz I g rv (by simpa using e1) e2 k (fun d hd => hal.1 d hd _ (maxD_mem ds x)) (fun d hd => hal.1 d hd d hd)
    exact ⟨w, H, I.kept k, rl, q w z⟩
end
end PyE

/-! PyE: sorted; range by steps; lists turned round; three names at once -/
namespace PyE
open PySem PySem.Spec PyProof.Rows
open L2
open PySem.W (alike AlikeAll AllAlike Sortable dataLe)
def sortB (ds : List PyData) : Bool := (ds.all fun x => ds.all fun y => alike x y) && (ds.all tup1 || ds.all notTup) && decide (PyData.depthAll ds ≤ 60)
def sortL (ds : List PyData) : List PyData := ds.mergeSort (dataLe false id)
def sortedD : List PyData → Option Rv
  | [.list xs] => if sortB xs = true then some (.nl (sortL xs)) else none
  | [.tuple xs] => if sortB xs = true then some (.nl (sortL xs)) else none
  | _ => none
theorem depth_mem : ∀ {ds : List PyData} {d : PyData}, d ∈ ds → d.depth ≤ PyData.depthAll ds
  | x :: xs, d, h => by
    simp only [PyData.depthAll]
    rcases List.mem_cons.mp h with h | h
    · rw [h]; omega
    · have := depth_mem h; omega
theorem sortB_all {ds : List PyData} (h : sortB ds = true) : AllAlike ds ∧ Sortable ds ∧ ∀ d ∈ ds, d.depth ≤ 60 := by
  unfold sortB at h
  simp only [Bool.and_eq_true, Bool.or_eq_true, List.all_eq_true, decide_eq_true_eq] at h
  obtain ⟨⟨h1, h2⟩, h3⟩ := h
  refine ⟨fun d hd d' hd' => h1 d hd d' hd', ?_, fun d hd => Nat.le_trans (depth_mem hd) h3⟩
  rcases h2 with h2 | h2
  · refine .inl fun d hd => ?_
    have := h2 d hd
    unfold tup1 at this
    split at this
    · exact ⟨_, _, rfl⟩
    · cases this
  · refine .inr fun d hd => ⟨fun e => ?_, fun xs e => ?_⟩
    · have := h2 d hd; rw [e] at this; cases this
    · have := h2 d hd; rw [e] at this; cases this
def rSortD (K : PySem.W.Frag) : List V → Hp → VK → Prop := fun vs H Q => ∃ (a : Addr) (ys : List V) (ds : List PyData), vs = [.ref a] ∧ (SqL K H a ys ∨ SqT K H a ys) ∧ FzAll K H ys ds ∧ sortB ds = true ∧ ∀ zs p, FzAll K H zs (sortL ds) → H p = none → Q (.ref p) (upd H p (.lst zs))
section
variable {X : Cx} {K : PySem.W.Frag}
theorem fz_zip {H : Hp} : ∀ {ys : List V} {ds : List PyData}, FzAll K H ys ds → (ys.zip ds).map (·.2) = ds ∧ (ys.zip ds).map (·.1) = ys ∧ ∀ b ∈ ys.zip ds, Fz K H b.1 b.2
  | _, _, .nil => ⟨rfl, rfl, fun b hb => by cases hb⟩
  | _, _, .cons h g => by
    obtain ⟨e1, e2, e3⟩ := fz_zip g
    refine ⟨by rw [List.zip_cons_cons, List.map_cons, e1], by rw [List.zip_cons_cons, List.map_cons, e2], fun b hb => ?_⟩
    rw [List.zip_cons_cons] at hb
    rcases List.mem_cons.mp hb with z | z
    · rw [z]; exact h
    · exact e3 b z
theorem fz_unzip {H : Hp} : ∀ {bs : List (V × PyData)}, (∀ b ∈ bs, Fz K H b.1 b.2) → FzAll K H (bs.map (·.1)) (bs.map (·.2))
  | [], _ => .nil
  | b :: bs, h => .cons (h b (List.mem_cons_self ..)) (fz_unzip fun c hc => h c (List.mem_cons_of_mem _ hc))
theorem each_zip : ∀ {ys : List V} {ds : List PyData} {us : List Value}, ys.length = ds.length → Vals ys us → PySem.W.EachIs (fun v (b : V × PyData) => RelV b.1 v) us (ys.zip ds)
  | [], [], _, _, .nil => .nil
  | y :: ys, d :: ds, _, h, .cons r rs => .cons r (each_zip (by simpa using h) rs)
  | [], _ :: _, _, h, _ => by cases h
  | _ :: _, [], _, h, _ => by cases h
theorem each_reads {h : Heap} : ∀ {ys : List V} {ds : List PyData} {us : List Value} {as : List Addr}, ys.length = ds.length → ReadsAll h us ds as → PySem.W.EachIs (fun v (b : V × PyData) => ∃ as, Reads h v b.2 as) us (ys.zip ds)
  | [], [], _, _, _, r => by cases r; exact .nil
  | y :: ys, d :: ds, _, _, h, r => by cases r with
    | cons r1 r2 => exact .cons ⟨_, r1⟩ (each_reads (by simpa using h) r2)
  | [], _ :: _, _, _, h, _ => by cases h
  | _ :: _, [], _, _, h, _ => by cases h
theorem vals_each {us : List Value} {bs : List (V × PyData)} (e : PySem.W.EachIs (fun v (b : V × PyData) => RelV b.1 v) us bs) : Vals (bs.map (·.1)) us := by
  induction e with
  | nil => exact .nil
  | cons h _ ih => exact .cons h ih
/-- what a tuple collects into -/
theorem collect_tup {prog : Program} {w : World} {A : Around} {s : Shared} {l : Addr} {vs : List Value} {E : Value → Shared → Prop} {Q : List Value → Shared → Prop} (hl : IsTup s.heap l vs.toArray)
    (h : Q vs { s with heap := (s.heap.push (seqObj "list" #[] 0)).update s.heap.objs.size (Obj.mapSeq (· ++ vs.toArray)) }) (hsz : vs.length ≤ sizeLine) :
    wpAny (model prog w) A (collect (.ref l)) Q E s := by
  obtain ⟨o, ho, hc, n, hd⟩ := id hl
  unfold collect
  refine wpAny_bind (wpAny_runValue (codeAny_builtin entry_proto_collect' ?_))
  show wpAny _ _ (do again (.builtin "list.__iadd__" ⟨[← newList [], .ref l], []⟩)) _ _ s
  refine wpAny_bind (wpAny_newList (wpAny_pure ⟨Code.quiet_builtin _ (by decide +kernel), codeAny_builtin entry_list_iadd' ?_⟩))
  show wpAny _ _ (Builtin.List.listExtendWith (.ref s.heap.objs.size) (.ref l) (.ref s.heap.objs.size)) _ _ { s with heap := s.heap.push (seqObj "list" #[] 0) }
  unfold Builtin.List.listExtendWith
  have ho' : (s.heap.push (seqObj "list" #[] 0)).get? l = some o := Heap.get?_push_of_some _ ho
  refine wpAny_bind (wpAny_typeOf (T := "tuple") ⟨o, ho', hc⟩ ?_)
  have ht : (Value.type "tuple" == Value.type "tuple") = true := by rfl
  rw [if_pos (by rw [ht]; simp)]
  refine wpAny_bind (listItems_at ho' hd ?_)
  refine wpAny_bind (listItems_at (xs := #[]) (n := 0) (Heap.get?_push_size _ rfl) rfl ?_)
  rw [if_neg (by simp)]
  refine wpAny_bind (listUpdate_at (xs := #[]) (n := 0) (Heap.get?_push_size _ rfl) rfl ?_ (Nat.zero_le _) (by show (#[] ++ vs.toArray).size ≤ sizeLine + 1; simp only [Array.size_append, List.size_toArray, List.length_nil]; omega))
  refine wpAny_pure ?_
  show wpAny (model prog w) A (do
      let o ← load s.heap.objs.size
      match o.data with
      | .seq xs _ => pure xs.toList
      | _ => unsupported "internal:collect") Q E { s with heap := (s.heap.push (seqObj "list" #[] 0)).update s.heap.objs.size (Obj.mapSeq (· ++ vs.toArray)) }
  refine wpAny_bind (wpAny_load (get?_update_seq (Heap.get?_push_size _ rfl) _) ?_)
  show wpAny _ _ (pure ((#[] : Array Value) ++ vs.toArray).toList) Q E _
  rw [show ((#[] : Array Value) ++ vs.toArray).toList = vs by simp]
  exact wpAny_pure h
theorem sortedT_of_sort {prog : Program} {w : World} {A : Around} {E : Value → Shared → Prop} {s : Shared} {l : Addr} {vs : List Value} {kw : List (Str × Value)} {Q : Value → Shared → Prop} (hl : IsTup s.heap l vs.toArray) (hL : vs.length ≤ sizeLine) (ha1 : argsOk "sorted" ⟨[.ref l], kw⟩) (ha2 : ∀ x, argsOk "list.sort" ⟨[.ref x], kw⟩)
    (body : ∀ E' : Value → Shared → Prop, wpAny (model prog w) A.in1.in1 (Builtin.«list.sort» ⟨[.ref (s.heap.objs.size + 1)], kw⟩) (fun f s' => f = .done (.ret .none) ∧ Q (.ref (s.heap.objs.size + 1)) s') E' { s with heap := PySem.W.copyHeap s.heap vs }) :
    wpAny (model prog w) A (call (.builtin "sorted") [.ref l] kw) Q E s := by
  refine call_function_entry_kw kind_sorted plain_sorted entry_sorted ha1 ?_
  unfold Builtin.«sorted»
  refine wpAny_bind (m := checkCount "sorted" 1 1 _) (wpAny_pure ?_)
  refine wpAny_bind (collect_tup hl ?_ hL)
  refine wpAny_bind (wpAny_newList ?_ hL)
  have hsz : ((s.heap.push (seqObj "list" #[] 0)).update s.heap.objs.size (Obj.mapSeq (· ++ vs.toArray))).objs.size = s.heap.objs.size + 1 := by
    rw [Heap.size_update, Heap.size_push]
  show wpAny _ _ _ _ _ { s with heap := PySem.W.copyHeap s.heap vs }
  rw [hsz]
  refine wpAny_bind (wpAny_holding (wpAny_call_entry_kw slot_list_sort ⟨_, PySem.W.copyHeap_at s.heap vs, rfl⟩ entry_list_sort ?body (ha2 _)))
  case body =>
    show wpAny (model prog w) A.in1.in1 (Builtin.«list.sort» ⟨[.ref (s.heap.objs.size + 1)], kw⟩) _ _ _
    refine wpAny_mono (body _) (fun f s' hf => ?_) fun _ _ e => e
    obtain ⟨rfl, hq⟩ := hf
    exact ⟨_, rfl, wpAny_pure ⟨_, rfl, hq⟩⟩
theorem sorted_dataT {prog : Program} {w : World} {A : Around} {E : Value → Shared → Prop} {s : Shared} {β : Type} {vs : List Value} {bs : List β} {enc : β → PyData} {R : Value → β → Prop} {l : Addr} {Q : Value → Shared → Prop} (hl : IsTup s.heap l vs.toArray) (e : PySem.W.EachIs R vs bs) (er : PySem.W.EachIs (fun v b => ∃ as, Reads s.heap v (enc b) as) vs bs) (hal : AllAlike (bs.map enc)) (hk : Sortable (bs.map enc)) (hL : bs.length ≤ sizeLine)
    (hu : ∀ b, b ∈ bs → A.units + 2 + (enc b).depth < cLine) (h : ∀ out, out.length = bs.length → PySem.W.EachIs R out (bs.mergeSort (dataLe false enc)) → Q (.ref (s.heap.objs.size + 1)) { s with heap := sortedAll s.heap vs (List.toArray out) }) :
    wpAny (model prog w) A (call (.builtin "sorted") [.ref l]) Q E s := by
  have er' : PySem.W.EachIs (fun v b => ∃ as, Reads (PySem.W.sortingHeap (PySem.W.copyHeap s.heap vs) (s.heap.objs.size + 1) vs) v (enc b) as) vs bs := er.mono fun _ _ ⟨as, r⟩ => ⟨as, PyProof.Rows.Reads.keeps (fun _ _ => PySem.W.sorting_copy_old) r⟩
  have S := PySem.W.SortsAt.data (prog := prog) (w := w) (A := A.in1.in1) (s := { s with heap := PySem.W.sortingHeap (PySem.W.copyHeap s.heap vs) (s.heap.objs.size + 1) vs }) (PySem.W.each_map (R := fun v d => ∃ as, Reads (PySem.W.sortingHeap (PySem.W.copyHeap s.heap vs) (s.heap.objs.size + 1) vs) v d as) enc er') hal hk (PySem.W.bound_map hu)
  refine sortedT_of_sort hl (by rw [e.length]; exact hL) (args_sorted1 _) (fun _ => args_list_sort _) fun _ => PySem.W.list_sort_vals (s := { s with heap := PySem.W.copyHeap s.heap vs }) (PySem.W.copyHeap_at s.heap vs) S (by rw [e.length]; exact hL) ⟨rfl, ?_⟩
  exact h _ (by rw [PySem.W.sortVals_length false rfl]; exact e.length) (PySem.W.sortVals_data false e er' hal)
theorem opr_sorted (hu : X.A.units + 64 < cLine) : CallR X (.builtin "sorted") (rSortD X.K) := by
  intro pins s σ H vs us Q I r h
  obtain ⟨a, ys, ds, rfl, hp, g, hb, q⟩ := h
  obtain ⟨h1, h2, h3⟩ := sortB_all hb
  obtain ⟨its, rv, hlt, hz⟩ : ∃ its : List Value, Vals ys its ∧ (PlainL s.heap a its.toArray ∨ IsTup s.heap a its.toArray) ∧ ys.length ≤ sizeLine := by
    rcases hp with hp | hp
    · obtain ⟨its, rv, hl, hz⟩ := I.list hp; exact ⟨its, rv, .inl hl, hz⟩
    · obtain ⟨its, rv, hl, hz⟩ := I.tuple hp; exact ⟨its, rv, .inr hl, hz⟩
  rw [Vals.ref1 r]
  obtain ⟨as, hr⟩ := Dp.readsAll I _ _ _ (g.dp (nd_all fun d hd => h1 d hd d hd)) rv
  have hlen := g.length
  obtain ⟨e1, e2, e3⟩ := fz_zip g
  have el : (ys.zip ds).length = ds.length := by rw [List.length_zip]; omega
  have hud : ∀ b, b ∈ ys.zip ds → X.A.units + 2 + b.2.depth < cLine := fun b hb => by
    have := h3 b.2 (List.of_mem_zip hb).2
    omega
  have key : ∀ out : List Value, out.length = (ys.zip ds).length → PySem.W.EachIs (fun v (b : V × PyData) => RelV b.1 v) out ((ys.zip ds).mergeSort (dataLe false Prod.snd)) → EP X pins σ Q (.ref (s.heap.objs.size + 1)) { s with heap := sortedAll s.heap its (List.toArray out) } := fun out ho eo => by
    have ev := vals_each eo
    have em : ((ys.zip ds).mergeSort (dataLe false Prod.snd)).map (·.2) = sortL ds := by
      have z := List.map_mergeSort (f := Prod.snd) (r := dataLe false (Prod.snd : V × PyData → PyData)) (s := dataLe false id) (l := ys.zip ds) (fun a _ b _ => rfl)
      rw [show List.map Prod.snd (ys.zip ds) = ds from e1] at z
      exact z
    have gz : FzAll X.K H (((ys.zip ds).mergeSort (dataLe false Prod.snd)).map (·.1)) (sortL ds) := by
      rw [← em]
      exact fz_unzip fun b hb => e3 b ((List.mergeSort_perm _ _).mem_iff.mp hb)
    obtain ⟨ep, he'⟩ := PyProof.Rows.sortedAll_at s.heap its out.toArray
    have hlen2 : (((ys.zip ds).mergeSort (dataLe false Prod.snd)).map (·.1)).length ≤ sizeLine := by
      rw [List.length_map, List.length_mergeSort]; omega
    exact ⟨.ref _, upd H (s.heap.objs.size + 1) (.lst _), I.laid (t' := s.toks) (fun _ _ => PyProof.Rows.sortedAll_old) (Nat.le_succ _) ⟨hlen2, out, ep, ev, he'⟩, rfl, q _ _ gz (I.hok.fresh (Nat.le_succ _))⟩
  rcases hlt with hl | hl
  · exact PySem.W.sorted_data (β := V × PyData) (bs := ys.zip ds) (enc := Prod.snd) (R := fun v b => RelV b.1 v) hl.isList (each_zip hlen rv) (each_reads hlen hr) (by rw [show List.map Prod.snd (ys.zip ds) = ds from e1]; exact h1) (by rw [show List.map Prod.snd (ys.zip ds) = ds from e1]; exact h2) (by omega) hud key
  · exact sorted_dataT (β := V × PyData) (bs := ys.zip ds) (enc := Prod.snd) (R := fun v b => RelV b.1 v) hl (each_zip hlen rv) (each_reads hlen hr) (by rw [show List.map Prod.snd (ys.zip ds) = ds from e1]; exact h1) (by rw [show List.map Prod.snd (ys.zip ds) = ds from e1]; exact h2) (by omega) hud key
theorem opd_sorted : OpN K (rSortD K) sortedD := by
  intro H xs as z Q h e q
  have fin : ∀ (p : Addr) (ys : List V) (ds : List PyData), (SqL K H p ys ∨ SqT K H p ys) → FzAll K H ys ds → xs = [.ref p] → sortB ds = true → z = .nl (sortL ds) → rSortD K xs H Q := fun p ys ds hp g ex ha ez => by
    subst ez
    refine ⟨p, ys, _, ex, hp, g, ha, fun zs l gz hl => q _ _ ?_ ⟨l, zs, rfl, upd_same, gz.keep (PyE.Same.toKeep ?_), hl⟩⟩
    · exact fun b o e => by rw [upd_ne (ne_of_none e hl)]; exact e
    · exact fun b o e => by rw [upd_ne (ne_of_none e hl)]; exact e
  unfold sortedD at e
  split at e
  · split at e
    · rename_i ha
      cases e
      obtain ⟨v, rfl, rb⟩ := rba1 h
      obtain ⟨p, ys, rfl, hp, g⟩ : ∃ p ys, v = .ref p ∧ SqL K H p ys ∧ FzAll K H ys _ := by
        cases rb with
        | fz h1 => cases h1 with
          | lst h2 g => exact ⟨_, _, rfl, h2.seq, g⟩
        | lst h2 g => exact ⟨_, _, rfl, .of h2, g⟩
      exact fin p ys _ (.inl hp) g rfl ha rfl
    · cases e
  · split at e
    · rename_i ha
      cases e
      obtain ⟨v, rfl, rb⟩ := rba1 h
      obtain ⟨p, ys, rfl, hp, g⟩ := rb_tup rb
      exact fin p ys _ (.inr hp.sq) g rfl ha rfl
    · cases e
  · cases e
end

/-! ### list(range(..)), tuple(range(..)) -/
def rg1K (tp : Bool) : Rv → Ev Rv := fun r m => match r with
  | .d (.int n) => if okRg 0 n = true then .ok (if tp = true then .d (.tuple (rangeD 0 n)) else .nl (rangeD 0 n)) m else .no
  | _ => .no
def rg2K (tp : Bool) (x : Rv) : Rv → Ev Rv := fun y m => match x, y with
  | .d (.int a), .d (.int b) => if okRg a b = true then .ok (if tp = true then .d (.tuple (rangeD a b)) else .nl (rangeD a b)) m else .no
  | _, _ => .no
def rgE1 (tp : Bool) (f : Ev Rv) : Ev Rv := bnd f (rg1K tp)
def rgE2 (tp : Bool) (f g : Ev Rv) : Ev Rv := bnd f fun x => bnd g (rg2K tp x)
section
variable {xr : XR} {W : WX} {X : Cx} {a b : Expr} {f g : Ev Rv} {p p2 pos pos2 : Pos}
theorem fz_rg {K : PySem.W.Frag} {H : Hp} (a b : Int) : FzAll K H (rgV a b) (rangeD a b) := by
  unfold rgV rangeD
  induction List.range (b - a).toNat with
  | nil => exact .nil
  | cons i r ih => exact .cons (.int _) ih
theorem rgOk_of {a b : Int} (h : okRg a b = true) : RgOk a b := by
  have := okRg_at h
  exact ⟨by omega, by omega, by omega, by omega, by omega⟩
theorem newL_ok {K : PySem.W.Frag} {σ : St} {H H1 : Hp} {fp fp1 : Fp} {m1 : Sm} {Q : VK} {ys : List V} {ds : List PyData} (s1 : Step fp fp1 H H1) (r1 : RelS K H1 m1 σ fp1) (g : FzAll K H1 ys ds) (p : Post xr K W (RelR K) σ H fp Q (.ok (.nl ds) m1)) (o : Addr) (ho : H1 o = none) : Q (.ref o) (upd H1 o (.lst ys)) := by
  have sm : Same H1 (upd H1 o (.lst ys)) := fun b u e => by rw [upd_ne (ne_of_none e ho)]; exact e
  exact p _ _ fp1 (r1.same sm) (s1.trans (.same sm)) ⟨o, ys, rfl, upd_same, g.keep (PyE.Same.toKeep sm), s1.trk o ho, fun i hi => r1.some_ hi ho⟩
theorem newT_ok {K : PySem.W.Frag} {σ : St} {H H1 : Hp} {fp fp1 : Fp} {m1 : Sm} {Q : VK} {ys : List V} {ds : List PyData} (s1 : Step fp fp1 H H1) (r1 : RelS K H1 m1 σ fp1) (g : FzAll K H1 ys ds) (p : Post xr K W (RelR K) σ H fp Q (.ok (.d (.tuple ds)) m1)) (o : Addr) (ob : Obj) (ho : H1 o = none) (hd : ob.dict = none) : Q (.ref o) (upd H1 o (.frz ob (.tup ys))) := by
  have sm : Same H1 (upd H1 o (.frz ob (.tup ys))) := fun b u e => by rw [upd_ne (ne_of_none e ho)]; exact e
  exact p _ _ fp1 (r1.same sm) (s1.trans (.same sm)) (.tup ⟨ob, upd_same, hd⟩ (g.keep (PyE.Same.toKeep sm)))
/-- tuple(range(..)) -/
def tTupRgF (te : St → Hp → (Int → Int → Hp → Prop) → Prop) : TE := fun σ H Q => te σ H fun a b H1 => RgOk a b ∧ ∀ q o, H1 q = none → o.dict = none → Q (.ref q) (upd H1 q (.frz o (.tup (rgV a b))))
theorem pe_tupRgF {e : Expr} {te : St → Hp → (Int → Int → Hp → Prop) → Prop} (hc : X.calm = true) (hg : Gl X "tuple") (hm : X.mg "tuple" = none) (he : PRg X e te) (na : starEach [e] X.env = (false, eval e X.env) :: starEach [] X.env := by rfl) : PE X (.Call (.Name "tuple" p) [e] [] pos) (tTupRgF te) := by
  refine ⟨fun pins s σ H Q I h => Call_ (ld_blt I hg hm boot_tuple (PyProof.Rows.callWith_type1 (args_cons (thn (he pins s σ H _ I h) fun x s1 ⟨r, a, b, t, u, v, H1, ex, hr, I1, ok, q⟩ => args_nil ?_) na) na))⟩
  subst ex
  have ok2 := ok
  obtain ⟨b1, b2, b3, b4, b5⟩ := ok
  refine call_tuple_range (n := (b - a).toNat) (I1.ok.hd hc) hr (small_one b1 b2 b3 b4) (rangeSize_nat a b) b5 fun h' tk acc hk hi => ?_
  have I2 : Inv X pins σ H1 { s1 with heap := h', toks := tk } := I1.kept hk
  have e := Heap.get?_push_size h' (o := { cls := .type "tuple", data := .seq acc }) rfl
  have hz : (rgV a b).length ≤ sizeLine := by rw [rgV_length, sizeLine_eq]; omega
  exact ⟨.ref h'.objs.size, _, I2.laid (t' := tk) (o := .frz _ (.tup (rgV a b))) (fun c o e => Heap.get?_push_of_some _ e) (Nat.le_refl _) ⟨e, hz, acc.toList, vals_rg hi, by rw [Array.toArray_toList]; exact IsTup.new _ _⟩, rfl, q _ _ (I2.hok.fresh (Nat.le_refl _)) rfl⟩
theorem rg1_ok {tp : Bool} {σ : St} {H : Hp} {Q : Int → Int → Hp → Prop} {Q2 : VK} (h : tE xr X.K W (rgE1 tp f) σ H Q2)
    (hq : ∀ fp fp1 m1 n H1, Step fp fp1 H H1 → RelS X.K H1 m1 σ fp1 → okRg 0 n = true → Post xr X.K W (RelR X.K) σ H fp Q2 (.ok (if tp = true then .d (.tuple (rangeD 0 n)) else .nl (rangeD 0 n)) m1) → Q 0 n H1) : tRg1 (tE xr X.K W f) σ H Q := by
  refine tG_bind (Rc := RelR X.K) h fun m fp r m1 v H1 fp1 r0 r1 s1 ra p => ?_
  unfold rg1K at p
  split at p
  · rename_i n
    split at p
    · rename_i hr
      have ra : Fz X.K H1 v (.int n) := ra
      exact ⟨n, fz_int ra, hq fp fp1 m1 n H1 s1 r1 hr p⟩
    · exact p.elim
  · exact p.elim
theorem rg2_ok {tp : Bool} {σ : St} {H : Hp} {Q : Int → Int → Hp → Prop} {Q2 : VK} (h : tE xr X.K W (rgE2 tp f g) σ H Q2)
    (hq : ∀ fp fp1 m1 a b H1, Step fp fp1 H H1 → RelS X.K H1 m1 σ fp1 → okRg a b = true → Post xr X.K W (RelR X.K) σ H fp Q2 (.ok (if tp = true then .d (.tuple (rangeD a b)) else .nl (rangeD a b)) m1) → Q a b H1) : tRg2 (tE xr X.K W f) (tE xr X.K W g) σ H Q := by
  refine tG_bind2 (Rc := RelR X.K) h fun fp fp1 m1 x y m2 v u H1 H2 fp2 s1 r1 ra r2 s2 rb p => ?_
  have ra2 := ra.step r1 s2
  unfold rg2K at p
  split at p
  · rename_i a b
    split at p
    · rename_i hr
      have ra2 : Fz X.K H2 v (.int a) := ra2
      have rb : Fz X.K H2 u (.int b) := rb
      exact ⟨a, b, fz_int ra2, fz_int rb, hq fp fp2 m2 a b H2 (s1.trans s2) r2 hr p⟩
    · exact p.elim
  · exact p.elim
theorem sd_listRg1 (hg : Gl X "list") (hm : X.mg "list" = none) (hg2 : Gl X "range") (hm2 : X.mg "range" = none) (ha : PE X a (tE xr X.K W f)) (na : starEach [.Call (.Name "range" p2) [a] [] pos2] X.env = (false, eval (.Call (.Name "range" p2) [a] [] pos2) X.env) :: starEach [] X.env := by rfl)
    (nb : starEach [a] X.env = (false, eval a X.env) :: starEach [] X.env := by rfl) (hc : X.calm = true := by rfl) : PE X (.Call (.Name "list" p) [.Call (.Name "range" p2) [a] [] pos2] [] pos) (tE xr X.K W (rgE1 false f)) :=
  pe_imp (pe_listRg hc hg hm (prg_1 hg2 hm2 ha nb) na) fun σ H Q h => rg1_ok h fun fp fp1 m1 n H1 s1 r1 hr p => ⟨rgOk_of hr, newL_ok s1 r1 (fz_rg 0 n) p⟩
theorem sd_tupRg1 (hg : Gl X "tuple") (hm : X.mg "tuple" = none) (hg2 : Gl X "range") (hm2 : X.mg "range" = none) (ha : PE X a (tE xr X.K W f)) (na : starEach [.Call (.Name "range" p2) [a] [] pos2] X.env = (false, eval (.Call (.Name "range" p2) [a] [] pos2) X.env) :: starEach [] X.env := by rfl)
    (nb : starEach [a] X.env = (false, eval a X.env) :: starEach [] X.env := by rfl) (hc : X.calm = true := by rfl) : PE X (.Call (.Name "tuple" p) [.Call (.Name "range" p2) [a] [] pos2] [] pos) (tE xr X.K W (rgE1 true f)) :=
  pe_imp (pe_tupRgF hc hg hm (prg_1 hg2 hm2 ha nb) na) fun σ H Q h => rg1_ok h fun fp fp1 m1 n H1 s1 r1 hr p => ⟨rgOk_of hr, newT_ok s1 r1 (fz_rg 0 n) p⟩
theorem sd_listRg2 (hg : Gl X "list") (hm : X.mg "list" = none) (hg2 : Gl X "range") (hm2 : X.mg "range" = none) (ha : PE X a (tE xr X.K W f)) (hb : PE X b (tE xr X.K W g)) (na : starEach [.Call (.Name "range" p2) [a, b] [] pos2] X.env = (false, eval (.Call (.Name "range" p2) [a, b] [] pos2) X.env) :: starEach [] X.env := by rfl)
    (nb : starEach [a, b] X.env = (false, eval a X.env) :: starEach [b] X.env := by rfl) (nb2 : starEach [b] X.env = (false, eval b X.env) :: starEach [] X.env := by rfl) (hpl : (backTo pos2 (starEach [b] X.env)).any (·.1) = false := by rfl) (hc : X.calm = true := by rfl) : PE X (.Call (.Name "list" p) [.Call (.Name "range" p2) [a, b] [] pos2] [] pos) (tE xr X.K W (rgE2 false f g)) :=
  pe_imp (pe_listRg hc hg hm (prg_2 hg2 hm2 ha hb nb nb2 hpl) na) fun σ H Q h => rg2_ok h fun fp fp1 m1 a b H1 s1 r1 hr p => ⟨rgOk_of hr, newL_ok s1 r1 (fz_rg a b) p⟩
/-- e[::-1], a list -/
def revK : Rv → Ev Rv := fun r m => match deref m r with
  | some (.list xs) => .ok (.nl xs.reverse) m
  | _ => .no
def revE (f : Ev Rv) : Ev Rv := bnd f revK
theorem sd_revL {k : Nat} {p1 p2 p3 : Pos} (he : PE X a (tE xr X.K W f)) : PE X (.Subscript a (.Slice none none (some (.UnaryOp .USub (.Constant (.int 1) k p1) p2)) p3) pos) (tE xr X.K W (revE f)) := by
  refine pe_imp (pe_revL he) fun σ H Q h => tG_bind (Rc := RelR X.K) h fun m fp r m1 v H1 fp1 r0 r1 s1 ra p => ?_
  unfold revK at p
  cases e1 : deref m1 r with
  | none => simp only [e1] at p; exact p.elim
  | some d =>
    cases d with
    | list xs =>
      simp only [e1] at p
      have rb := ra.rb r1 e1
      obtain ⟨a, ys, rfl, hp, g⟩ : ∃ p ys, v = .ref p ∧ SqL X.K H1 p ys ∧ FzAll X.K H1 ys xs := by
        cases rb with
        | fz h1 => cases h1 with
          | lst h2 g => exact ⟨_, _, rfl, h2.seq, g⟩
        | lst h2 g => exact ⟨_, _, rfl, .of h2, g⟩
      exact ⟨a, ys, rfl, hp, newL_ok s1 r1 g.reverse p⟩
    | _ => simp only [e1] at p; exact p.elim
end
/-! ### a, b, c = e, e', e'' with plain local names -/
def par3S (i j l : Nat) (f1 f2 f3 : Ev Rv) : Sf := bnd (ownF f1) fun r1 => bnd (ownF f2) fun r2 => bnd (ownF f3) fun r3 m => (putM i r1 m).bind fun _ m1 => (putM j r2 m1).bind fun _ m2 => putM l r3 m2
theorem put_s {r : Rv} {i l : Nat} {m : Sm} (h : r = .s l) : putM i r m = .no := by subst h; rfl
section
variable {xr : XR} {W : WX} {X : Cx} {ro : List Nat} {σ0 : St} {i j l : Nat} {x y z : Str} {a b c : Expr} {f1 f2 f3 : Ev Rv} {px py pz pt pos pt2 : Pos} {kt k2 : Nat}
theorem ss_par3 (hc : X.calm = true) (hN : X.N.Nodup) (hi : X.N[i]? = some x) (hj : X.N[j]? = some y) (hl : X.N[l]? = some z) (hij : i ≠ j) (hil : i ≠ l) (hjl : j ≠ l) (hx : X.env.scope.names.lookup x = some .local) (hy : X.env.scope.names.lookup y = some .local) (hz : X.env.scope.names.lookup z = some .local)
    (ha : PE X a (tE xr X.K W f1)) (hb : PE X b (tE xr X.K W f2)) (hcc : PE X c (tE xr X.K W f3)) (hri : i ∉ ro) (hrj : j ∉ ro) (hrl : l ∉ ro) (hw : swappedStores [.Tuple [.Name x px, .Name y py, .Name z pz] kt pt] (.Tuple [a, b, c] k2 pt2) X.env = pure (some [x, y, z]))
    (hs1 : starEach [a, b, c] X.env = (false, eval a X.env) :: starEach [b, c] X.env := by rfl) (hs2 : starEach [b, c] X.env = (false, eval b X.env) :: starEach [c] X.env := by rfl) (hs3 : starEach [c] X.env = (false, eval c X.env) :: starEach [] X.env := by rfl)
    (hs : swapsWithSole [.Tuple [.Name x px, .Name y py, .Name z pz] kt pt] (.Tuple [a, b, c] k2 pt2) pos.line X.env = pure false := by rfl) : PS X (.Assign [.Tuple [.Name x px, .Name y py, .Name z pz] kt pt] (.Tuple [a, b, c] k2 pt2) pos) (tS xr X.K W ro σ0 (par3S i j l f1 f2 f3)) := by
  refine ps_imp (ps_par3 hc hN hi hj hl hij hil hjl hx hy hz (pa_cons (sd_own ha) (pa_cons (sd_own hb) (pa_cons (sd_own hcc) pa_nil hs3) hs2) hs1) hw hs) fun D σ H q => ?_
  refine tS_bind0 (Ra := RelR X.K) q fun fp r1 m1 v H1 fp1 rs1 s1 k rr1 p => ?_
  unfold bnd at p
  refine tS_at (D := D) (ro := ro) (σ0 := σ0) (Ra := RelR X.K) rs1 k s1 p fun r2 m2 u H2 fp2 rs2 s2 rr2 p2 => ?_
  refine tS_at (D := D) (ro := ro) (σ0 := σ0) (Ra := RelR X.K) rs2 k (s1.trans s2) p2 fun r3 m3 t H3 fp3 rs3 s3 rr3 p3 => ?_
  by_cases n1 : ∃ l, r1 = .s l
  · obtain ⟨l', rfl⟩ := n1; exact p3.elim
  obtain ⟨mv1, g1, e1, rm0, a0, b0⟩ := put_at rs1 rr1 fun l e => n1 ⟨l, e⟩
  rw [e1 i m3] at p3
  simp only [Res.bind] at p3
  by_cases n2 : ∃ l, r2 = .s l
  · obtain ⟨l', rfl⟩ := n2; exact p3.elim
  obtain ⟨mv2, g2, e2, rm2, a2, b2⟩ := put_at rs2 rr2 fun l e => n2 ⟨l, e⟩
  rw [e2 j] at p3
  simp only [Res.bind] at p3
  by_cases n3 : ∃ l, r3 = .s l
  · obtain ⟨l', rfl⟩ := n3; exact p3.elim
  obtain ⟨mv3, g3, e3, rm3, a3, b3⟩ := put_at rs3 rr3 fun l e => n3 ⟨l, e⟩
  rw [e3 l] at p3
  have hs1 : ∀ b ∈ g1, H1 b ≠ none := fun b hb => rm0.some_ hb
  have hs2 : ∀ b ∈ g2, H2 b ≠ none := fun b hb => rm2.some_ hb
  have s23 := s2.trans s3
  have c1 : ∀ b ∈ g1, ∀ l, b ∉ fp3 l := fun b hb => s23.out (hs1 b hb) (b0 b hb)
  have c2 : ∀ b ∈ g2, ∀ l, b ∉ fp3 l := fun b hb => s3.out (hs2 b hb) (b2 b hb)
  have q1 : RelM X.K H3 mv1 v g1 := rm0.keep (rs1.keepOf s23) fun b hb => by
    cases e : H1 b with
    | none => exact absurd e (hs1 b hb)
    | some o => exact s23.keep b o e (b0 b hb)
  have q2 : RelM X.K H3 mv2 u g2 := rm2.keep (rs2.keepOf s3) fun b hb => by
    cases e : H2 b with
    | none => exact absurd e (hs2 b hb)
    | some o => exact s3.keep b o e (b2 b hb)
  have sub : ∀ {P : Prop} [Decidable P] {g : List Addr} {b : Addr}, b ∈ (if P then g else []) → b ∈ g := fun {P _ g b} h => by
    split at h
    · exact h
    · cases h
  have own1 := rs3.own (i := i) q1 c1
  have own2 := own1.own (i := j) (mv := mv2) (v := u) (f := g2) q2 (fun b hb l' hl' => by
    have hl' : b ∈ (if l' = i then (if i < m3.length then g1 else []) else fp3 l') := hl'
    split at hl'
    · exact hs1 b (sub hl') (a2 b hb)
    · exact c2 b hb l' hl')
  have own3 := own2.own (i := l) (mv := mv3) (v := t) (f := g3) rm3 (fun b hb l' hl' => by
    have hl' : b ∈ (if l' = j then (if j < (m3.set i (some mv1)).length then g2 else []) else (if l' = i then (if i < m3.length then g1 else []) else fp3 l')) := hl'
    split at hl'
    · exact hs2 b (sub hl') (a3 b hb)
    · split at hl'
      · exact hs1 b (sub hl') (s2.trk b (a3 b hb))
      · exact b3 b hb l' hl')
  refine ⟨v, u, t, rfl, p3 _ H3 _ own3 ?_ fun l' hl' => ?_⟩
  · exact own_step (own_step (own_step ((s1.trans s2).trans s3) (fun b hb => a0 b hb) _) (fun b hb => s1.trk b (a2 b hb)) _) (fun b hb => s1.trk b (s2.trk b (a3 b hb))) _
  · rw [List.getElem?_set_ne (fun e => hrl (by rw [e]; exact hl')), List.getElem?_set_ne (fun e => hrj (by rw [e]; exact hl')), List.getElem?_set_ne (fun e => hri (by rw [e]; exact hl'))]
    exact k l' hl'
end
end PyE

/-! PyE: dicts -/
namespace PyE
open PySem PySem.Spec PyProof.Rows
open L2
/-! ### keys as data -/
theorem keyD_eq (a b : Key) : PyData.eqv (keyD a) (keyD b) = decide (a = b) := by
  cases a with
  | inl i => cases b with
    | inl j => simp only [keyD, PyData.eqv]; rw [Bool.eq_iff_iff]; simp
    | inr y => simp only [keyD, PyData.eqv]; simp
  | inr x => cases b with
    | inl j => simp only [keyD, PyData.eqv]; simp
    | inr y => simp only [keyD, PyData.eqv]; rw [Bool.eq_iff_iff]; simp
theorem keysI_all : ∀ a b : List Int, PyData.eqvAll (a.map PyData.int) (b.map PyData.int) = decide (a = b)
  | [], [] => by simp [PyData.eqvAll]
  | [], _ :: _ => by simp [PyData.eqvAll]
  | _ :: _, [] => by simp [PyData.eqvAll]
  | x :: a, y :: b => by
    simp only [List.map_cons, PyData.eqvAll, PyData.eqv, keysI_all a b]
    rw [Bool.eq_iff_iff]; simp
theorem keysI_eq (a b : List Int) : PyData.eqv (keysI a) (keysI b) = decide (a = b) := by
  unfold keysI
  simp only [PyData.eqv]
  exact keysI_all a b
def key1 : PyData → Option Key
  | .int i => some (.inl i)
  | .str x => some (.inr x)
  | _ => none
/-- false: an int, a text; true: a tuple of ints -/
def keyKind : PyData → Option Bool
  | .tuple ds => match intsOf ds with
    | some _ => some true
    | none => none
  | .int _ => some false
  | .str _ => some false
  | _ => none
theorem keyKind_f {d : PyData} (h : keyKind d = some false) : ∃ k, d = keyD k := by
  unfold keyKind at h
  split at h
  · split at h <;> cases h
  · exact ⟨.inl _, rfl⟩
  · exact ⟨.inr _, rfl⟩
  · cases h
theorem keyKind_t {d : PyData} (h : keyKind d = some true) : ∃ ks, d = keysI ks := by
  unfold keyKind at h
  split at h
  · split at h
    · rename_i ds ks e; exact ⟨ks, by unfold keysI; rw [← intsOf_some e]⟩
    · cases h
  · cases h
  · cases h
  · cases h
theorem kind_keyD (k : Key) : keyKind (keyD k) = some false := by cases k <;> rfl
theorem kind_keysI (ks : List Int) : keyKind (keysI ks) = some true := by
  show (match intsOf (ks.map .int) with | some _ => some true | none => none) = some true
  rw [intsOf_map]
def findP (kvs : Kvs) (k : PyData) : Option PyData := (kvs.find? fun p => PyData.eqv p.1 k).map (·.2)
def putP (kvs : Kvs) (k d : PyData) : Kvs := if (kvs.any fun p => PyData.eqv p.1 k) = true then kvs.map (fun p => if PyData.eqv p.1 k = true then (p.1, d) else p) else kvs ++ [(k, d)]
/-- such a key may be asked of such a dict -/
def keyOk (kvs : Kvs) (k : PyData) : Bool := match kvs with
  | [] => (keyKind k).isSome
  | (j, _) :: _ => (keyKind k).isSome && keyKind j == keyKind k
section
variable {K : PySem.W.Frag} {H : Hp} {κ : Type} [DecidableEq κ] {e : κ → PyData}
theorem KvR.find (he : ∀ a b, PyData.eqv (e a) (e b) = decide (a = b)) {l : List (κ × V)} {kvs : Kvs} (r : KvR K H e l kvs) (k : κ) : (findP kvs (e k) = none ∧ valV l k = none) ∨ ∃ v d, findP kvs (e k) = some d ∧ valV l k = some v ∧ Fz K H v d := by
  induction r with
  | nil => exact .inl ⟨rfl, rfl⟩
  | @cons j v d l kvs h r ih =>
    by_cases q : j = k
    · refine .inr ⟨v, d, ?_, valV_pos (p := (j, v)) q, h⟩
      unfold findP
      rw [List.find?_cons_of_pos (by show PyData.eqv (e j) (e k) = true; rw [he, decide_eq_true q])]; rfl
    · rw [valV_neg (p := (j, v)) q]
      have e1 : findP ((e j, d) :: kvs) (e k) = findP kvs (e k) := by
        unfold findP
        rw [List.find?_cons_of_neg (by show ¬ PyData.eqv (e j) (e k) = true; rw [he, decide_eq_false q]; simp)]
      rw [e1]; exact ih
theorem KvR.length {l : List (κ × V)} {kvs : Kvs} (r : KvR K H e l kvs) : l.length = kvs.length := by
  induction r with
  | nil => rfl
  | cons _ _ ih => simp [ih]
theorem KvR.any (he : ∀ a b, PyData.eqv (e a) (e b) = decide (a = b)) {l : List (κ × V)} {kvs : Kvs} (r : KvR K H e l kvs) (k : κ) : (kvs.any fun p => PyData.eqv p.1 (e k)) = (l.any fun p => decide (p.1 = k)) := by
  induction r with
  | nil => rfl
  | cons _ _ ih => rw [List.any_cons, List.any_cons, ih, he]
theorem KvR.append {l l' : List (κ × V)} {kvs kvs' : Kvs} (r : KvR K H e l kvs) (r' : KvR K H e l' kvs') : KvR K H e (l ++ l') (kvs ++ kvs') := by
  induction r with
  | nil => exact r'
  | cons h _ ih => exact .cons h ih
theorem KvR.put (he : ∀ a b, PyData.eqv (e a) (e b) = decide (a = b)) {l : List (κ × V)} {kvs : Kvs} (r : KvR K H e l kvs) (k : κ) {v : V} {d : PyData} (z : Fz K H v d) : KvR K H e (putK l k v) (putP kvs (e k) d) := by
  unfold putK putP
  rw [r.any he k]
  split
  · rename_i hh
    clear hh
    induction r with
    | nil => exact .nil
    | @cons j w c l kvs h r ih =>
      rw [List.map_cons, List.map_cons]
      by_cases q : j = k
      · rw [if_pos q, if_pos (by show PyData.eqv (e j) (e k) = true; rw [he, decide_eq_true q])]
        exact .cons z ih
      · rw [if_neg q, if_neg (by show ¬ PyData.eqv (e j) (e k) = true; rw [he, decide_eq_false q]; simp)]
        exact .cons h ih
  · exact r.append (.cons z .nil)
end
section
variable {K : PySem.W.Frag} {H : Hp}
theorem TxR.length {xs : Xs} {kvs : Kvs} (r : TxR K H xs kvs) : xs.length = kvs.length := by
  induction r with
  | nil => rfl
  | cons _ _ _ _ ih => simp [ih]
theorem TxR.find {xs : Xs} {kvs : Kvs} (r : TxR K H xs kvs) (k : List Int) : (findP kvs (keysI k) = none ∧ atKey xs k = none) ∨ ∃ b u v d, findP kvs (keysI k) = some d ∧ atKey xs k = some (b, u) ∧ RelV v u ∧ Fz K H v d := by
  induction r with
  | nil => exact .inl ⟨rfl, rfl⟩
  | @cons j b u v d xs kvs h1 h2 h3 r ih =>
    by_cases q : j = k
    · refine .inr ⟨b, u, v, d, ?_, ?_, h2, h3⟩
      · unfold findP
        rw [List.find?_cons_of_pos (by show PyData.eqv (keysI j) (keysI k) = true; rw [keysI_eq, decide_eq_true q])]; rfl
      · unfold atKey
        rw [List.find?_cons_of_pos (by simpa using q)]; rfl
    · have e1 : findP ((keysI j, d) :: kvs) (keysI k) = findP kvs (keysI k) := by
        unfold findP
        rw [List.find?_cons_of_neg (by show ¬ PyData.eqv (keysI j) (keysI k) = true; rw [keysI_eq, decide_eq_false q]; simp)]
      have e2 : atKey ((j, b, u) :: xs) k = atKey xs k := by
        unfold atKey
        rw [List.find?_cons_of_neg (by simpa using q)]
      rw [e1, e2]; exact ih
theorem TxR.append {xs xs' : Xs} {kvs kvs' : Kvs} (r : TxR K H xs kvs) (r' : TxR K H xs' kvs') : TxR K H (xs ++ xs') (kvs ++ kvs') := by
  induction r with
  | nil => exact r'
  | cons h1 h2 h3 _ ih => exact .cons h1 h2 h3 ih
theorem any_find {kvs : Kvs} {k : PyData} : (kvs.any fun p => PyData.eqv p.1 k) = (findP kvs k).isSome := by
  unfold findP
  induction kvs with
  | nil => rfl
  | cons p r ih =>
    rw [List.any_cons, ih]
    by_cases q : PyData.eqv p.1 k = true
    · rw [List.find?_cons_of_pos (p := fun z : PyData × PyData => PyData.eqv z.1 k) q, q]; rfl
    · rw [List.find?_cons_of_neg (p := fun z : PyData × PyData => PyData.eqv z.1 k) q, Bool.eq_false_iff.mpr q, Bool.false_or]
theorem TxR.put {xs : Xs} {kvs : Kvs} (r : TxR K H xs kvs) (k : List Int) {b : Addr} {u : Value} {v : V} {d : PyData} (hb : TupF H b (k.map V.int)) (hv : RelV v u) (hz : Fz K H v d) : TxR K H (storedH xs k b u) (putP kvs (keysI k) d) := by
  unfold storedH putP
  rw [any_find]
  have hs : (findP kvs (keysI k)).isSome = (atKey xs k).isSome := by
    rcases r.find k with ⟨h1, h2⟩ | ⟨_, _, _, _, h1, h2, _⟩ <;> rw [h1, h2] <;> rfl
  rw [hs]
  split
  · rename_i hh
    clear hh hs
    induction r with
    | nil => exact .nil
    | @cons j b' u' v' d' xs kvs h1 h2 h3 r ih =>
      rw [List.map_cons, List.map_cons]
      unfold putAt
      by_cases q : j = k
      · rw [if_pos q, if_pos (by show PyData.eqv (keysI j) (keysI k) = true; rw [keysI_eq, decide_eq_true q])]
        exact .cons h1 hv hz ih
      · rw [if_neg q, if_neg (by show ¬ PyData.eqv (keysI j) (keysI k) = true; rw [keysI_eq, decide_eq_false q]; simp)]
        exact .cons h1 h2 h3 ih
  · exact r.append (.cons hb hv hz .nil)
theorem put_keys {xs : Xs} {k : List Int} {b : Addr} {u : Value} (hn : (xs.map (·.1)).Nodup) : ((storedH xs k b u).map (·.1)).Nodup := by
  unfold storedH
  split
  · have e : (xs.map (putAt k u)).map (·.1) = xs.map (·.1) := by
      rw [List.map_map]
      refine List.map_congr_left fun x _ => ?_
      show (putAt k u x).1 = x.1
      unfold putAt; split <;> rfl
    rw [e]; exact hn
  · rename_i h
    have h : atKey xs k = none := by simpa using h
    rw [List.map_append]
    refine List.nodup_append.mpr ⟨hn, by simp, fun a ha b hb e => ?_⟩
    simp only [List.map_cons, List.map_nil, List.mem_singleton] at hb
    subst hb e
    obtain ⟨x, hx, rfl⟩ := List.mem_map.mp ha
    unfold atKey at h
    rw [Option.map_eq_none_iff, List.find?_eq_none] at h
    exact h x hx (by simp)
end
/-! ### the object of such a dict -/
section
variable {X : Cx} {pins : List (Addr × Obj)} {σ : St} {H : Hp} {s : Shared} {a : Addr}
theorem tup_key {b : Addr} {k : List Int} (I : Inv X pins σ H s) (h : TupF H b (k.map V.int)) : (tupleKind (intKind X.prog X.w)).is s.heap k b := by
  obtain ⟨o, e, _⟩ := h
  obtain ⟨e0, _, its, r, o', h1, h2, n, h3⟩ := (show ObjOk X.prog X.w H s.heap b (.frz o (.tup (k.map V.int))) from I.hok b _ e)
  refine ⟨o', its.toArray, n, h1, h2, h3, ?_⟩
  have : ∀ {k : List Int} {us : List Value}, Vals (k.map V.int) us → ItemsAre (intKind X.prog X.w) k us := by
    intro k
    induction k with
    | nil => intro us r; rw [List.map_nil] at r; cases r; exact .nil
    | cons i k ih =>
      intro us r
      rw [List.map_cons] at r
      cases r with
      | cons h t =>
        obtain ⟨tk, rfl⟩ := h
        exact .cons (by show Value.isInt i (.int i tk) = true; simp [Value.isInt]) (ih t)
  simpa using this r
theorem dx_of {xs : Xs} {kvs : Kvs} (I : Inv X pins σ H s) (e : Rd H a (DXo xs a)) (r : TxR X.K H xs kvs) : (a == sysModules) = false ∧ xs.length ≤ sizeLine ∧ s.heap.DictOfH (tupleKind (intKind X.prog X.w)) a xs := by
  obtain ⟨⟨h1, h2, o, es, ep, h3, h4, h5, h6, h7⟩, z1, z2⟩ := (show ObjOk X.prog X.w H s.heap a (DXo xs a) from e.ok I.hok)
  refine ⟨h1, h2, o, es, ep, h3, h4, h5, h6, ?_, h7⟩
  clear z1 z2 h6 h7 h2 e
  induction r with
  | nil => intro x hx; cases hx
  | cons k1 _ _ _ ih =>
    intro x hx
    rcases List.mem_cons.mp hx with z | z
    · rw [z]; exact tup_key I k1
    · exact ih x z
theorem dx_ok {P : Program} {w : World} {H' : Hp} {h' : Heap} {xs : Xs} (h1 : (a == sysModules) = false) (h2 : xs.length ≤ sizeLine) (h3 : h'.DictOfH (tupleKind (intKind P w)) a xs) : ObjOk P w H' h' a (DXo xs a) := by
  obtain ⟨o, es, ep, k1, k2, k3, k4, _, k6⟩ := h3
  refine ⟨⟨h1, h2, o, es, ep, k1, k2, k3, k4, k6⟩, ⟨o, k1⟩, fun g1 g2 ⟨_, _, o, es, ep, q1, q2, q3, q4, q5⟩ hk => ⟨h1, h2, o, es, ep, hk o q1, q2, q3, q4, q5⟩⟩
theorem flipT (I : Inv X pins σ H s) (e : H a = some (.dK [])) : Inv X pins σ (upd H a (DXo [] a)) s := by
  obtain ⟨z, hd, vs, rel, o, es, ep, h1, h2, h3, h4, h5, h6⟩ := (show ObjOk X.prog X.w H s.heap a (.dK []) from I.hok a _ e)
  cases rel
  refine d_write (h' := s.heap) (t' := s.toks) I (by rw [e]; exact trivial) (.refl _ _) ⟨o, h1⟩ (dx_ok hd (Nat.zero_le _) ⟨o, es, ep, h1, h2, h3, ?_, (fun x hx => by cases hx), List.nodup_nil⟩)
  generalize es.toList = q at h5
  cases h5
  rfl
theorem upd_back {H : Hp} {a : Addr} {o o' : HO} (e : H a = some o) : upd (upd H a o') a o = H := by
  funext b
  by_cases hb : b = a
  · subst hb; rw [upd_same, e]
  · rw [upd_ne hb, upd_ne hb]
variable {y : V}
theorem fz_key {K : PySem.W.Frag} {k : Key} (h : Fz K H y (keyD k)) : y = kV k := by
  cases k with
  | inl i => exact fz_int h
  | inr x => have h : Fz K H y (.str x) := h
             cases h; rfl
theorem fz_keys {K : PySem.W.Frag} {ks : List Int} (h : Fz K H y (keysI ks)) : ∃ b, y = .ref b ∧ TupF H b (ks.map V.int) := by
  have h : Fz K H y (.tuple (ks.map .int)) := h
  cases h with
  | tup h2 g => exact ⟨_, rfl, by rw [← fz_vints g]; exact h2⟩
/-- a dict and a key of its kind, either way -/
theorem dic_go {kvs : Kvs} {k : PyData} (I : Inv X pins σ H s) (hd : DictAt X.K H a kvs) (hk : Fz X.K H y k) (ok : keyOk kvs k = true) {P : Prop}
    (hK : ∀ (H1 : Hp) (l : List (Key × V)) (j : Key), Inv X pins σ H1 s → H1 a = some (.dK l) → KvR X.K H keyD l kvs → k = keyD j → y = kV j → (∀ ob, upd H1 a ob = upd H a ob) → (∀ s', Inv X pins σ H1 s' → Inv X pins σ H s') → P)
    (hT : ∀ (H1 : Hp) (xs : Xs) (j : List Int) (b : Addr), Inv X pins σ H1 s → H1 a = some (DXo xs a) → TxR X.K H xs kvs → TxR X.K H1 xs kvs → k = keysI j → y = .ref b → TupF H b (j.map V.int) → TupF H1 b (j.map V.int) → (∀ ob, upd H1 a ob = upd H a ob) → (∀ s', Inv X pins σ H1 s' → Inv X pins σ H s') → P) : P := by
  have km : ∀ o, Keep H (upd H a o) := fun o => keep_upd hd.mut
  cases hd with
  | nil hd =>
    have ok : (keyKind k).isSome = true := ok
    cases hk2 : keyKind k with
    | none => rw [hk2] at ok; cases ok
    | some b =>
      cases b with
      | false =>
        obtain ⟨j, ej⟩ := keyKind_f hk2
        subst ej
        rcases hd with hd | hd
        · exact hK H [] j I hd .nil rfl (fz_key hk) (fun _ => rfl) fun _ J => J
        · exact hK _ [] j (flipK I hd) upd_same .nil rfl (fz_key hk) (fun ob => upd_upd) fun s' J => by
            have := flipT J upd_same
            rw [upd_back hd] at this
            exact this
      | true =>
        obtain ⟨j, ej⟩ := keyKind_t hk2
        subst ej
        obtain ⟨b, eb, hb⟩ := fz_keys hk
        rcases hd with hd | hd
        · exact hT _ [] j b (flipT I hd) upd_same .nil .nil rfl eb hb (hb.keep (km _)) (fun ob => upd_upd) fun s' J => by
            have := flipK J upd_same
            rw [upd_back hd] at this
            exact this
        · exact hT H [] j b I hd .nil .nil rfl eb hb hb (fun _ => rfl) fun _ J => J
  | @k l _ hd r n =>
    cases r with
    | nil => exact absurd rfl n
    | @cons j w c l kvs hz r =>
      have ok : ((keyKind k).isSome && keyKind (keyD j) == keyKind k) = true := ok
      rw [Bool.and_eq_true, kind_keyD, beq_iff_eq] at ok
      obtain ⟨j', ej⟩ := keyKind_f ok.2.symm
      subst ej
      exact hK H _ j' I hd (.cons hz r) rfl (fz_key hk) (fun _ => rfl) fun _ J => J
  | @t xs _ hd r n =>
    cases r with
    | nil => exact absurd rfl n
    | @cons j b u w d xs kvs h1 h2 h3 r =>
      have ok : ((keyKind k).isSome && keyKind (keysI j) == keyKind k) = true := ok
      rw [Bool.and_eq_true, kind_keysI, beq_iff_eq] at ok
      obtain ⟨j', ej⟩ := keyKind_t ok.2.symm
      subst ej
      obtain ⟨b', eb, hb⟩ := fz_keys hk
      exact hT H _ j' b' I hd (.cons h1 h2 h3 r) (.cons h1 h2 h3 r) rfl eb hb hb (fun _ => rfl) fun _ J => J
/-- a dict that is read and a key of its kind, either way -/
theorem dic_rd {kvs : Kvs} {k : PyData} (I : Inv X pins σ H s) (hd : DictRd X.K H a kvs) (hk : Fz X.K H y k) (ok : keyOk kvs k = true) {P : Prop}
    (hK : ∀ (H1 : Hp) (l : List (Key × V)) (j : Key), Inv X pins σ H1 s → Rd H1 a (.dK l) → KvR X.K H keyD l kvs → k = keyD j → y = kV j → (∀ s', Inv X pins σ H1 s' → Inv X pins σ H s') → P)
    (hT : ∀ (xs : Xs) (j : List Int) (b : Addr), (a == sysModules) = false → s.heap.DictOfH (tupleKind (intKind X.prog X.w)) a xs → TxR X.K H xs kvs → k = keysI j → y = .ref b → TupF H b (j.map V.int) → P) : P := by
  cases hd with
  | nil hd =>
    have ok : (keyKind k).isSome = true := ok
    cases hk2 : keyKind k with
    | none => rw [hk2] at ok; cases ok
    | some b =>
      cases b with
      | false =>
        obtain ⟨j, ej⟩ := keyKind_f hk2
        subst ej
        rcases hd with hd | hd
        · exact hK H [] j I hd .nil rfl (fz_key hk) fun _ J => J
        · exact hK _ [] j (flipK I hd) (.of upd_same) .nil rfl (fz_key hk) fun s' J => by
            have := flipT J upd_same
            rw [upd_back hd] at this
            exact this
      | true =>
        obtain ⟨j, ej⟩ := keyKind_t hk2
        subst ej
        obtain ⟨b, eb, hb⟩ := fz_keys hk
        rcases hd with hd | hd
        · obtain ⟨_, z, vs, kv, o, es, ep, ho, hx, hdd, _, pr, _⟩ := (show ObjOk X.prog X.w H s.heap a (.dK []) from hd.ok I.hok)
          cases kv
          refine hT [] j b z ⟨o, es, ep, ho, hx, hdd, ?_, (fun x hx => by cases hx), List.nodup_nil⟩ .nil rfl eb hb
          generalize es.toList = q at pr
          cases pr
          rfl
        · obtain ⟨z1, _, z3⟩ := dx_of (kvs := []) I (.of hd) .nil
          exact hT [] j b z1 z3 .nil rfl eb hb
  | @k l _ hd r n =>
    cases r with
    | nil => exact absurd rfl n
    | @cons j w c l kvs hz r =>
      have ok : ((keyKind k).isSome && keyKind (keyD j) == keyKind k) = true := ok
      rw [Bool.and_eq_true, kind_keyD, beq_iff_eq] at ok
      obtain ⟨j', ej⟩ := keyKind_f ok.2.symm
      subst ej
      exact hK H _ j' I hd (.cons hz r) rfl (fz_key hk) fun _ J => J
  | @t xs _ hd r n =>
    have r0 := r
    cases r with
    | nil => exact absurd rfl n
    | @cons j b u w d xs kvs h1 h2 h3 r =>
      have ok : ((keyKind k).isSome && keyKind (keysI j) == keyKind k) = true := ok
      rw [Bool.and_eq_true, kind_keysI, beq_iff_eq] at ok
      obtain ⟨j', ej⟩ := keyKind_t ok.2.symm
      subst ej
      obtain ⟨b', eb, hb⟩ := fz_keys hk
      obtain ⟨z1, _, z3⟩ := dx_of I hd r0
      exact hT _ j' b' z1 z3 r0 rfl eb hb
theorem rb_key {K : PySem.W.Frag} {k : PyData} (h : Rb K H y k) (hk : (keyKind k).isSome = true) : Fz K H y k := by
  cases h with
  | fz h => exact h
  | lst h g => cases hk
  | dic h => cases hk
theorem keyOk_kind {kvs : Kvs} {k : PyData} (h : keyOk kvs k = true) : (keyKind k).isSome = true := by
  unfold keyOk at h
  split at h
  · exact h
  · exact (Bool.and_eq_true_iff.mp h).1
theorem dict_facts {kvs : Kvs} (I : Inv X pins σ H s) (hd : DictRd X.K H a kvs) : s.TypeIs (.ref a) "dict" ∧ (∀ b, Value.ref a = .ref b → ∃ ob, s.heap.get? b = some ob ∧ ob.dict = none) ∧ (a == sysModules) = false := by
  have viaK : ∀ {l : List (Key × V)}, Rd H a (.dK l) → s.TypeIs (.ref a) "dict" ∧ (∀ b, Value.ref a = .ref b → ∃ ob, s.heap.get? b = some ob ∧ ob.dict = none) ∧ (a == sysModules) = false := fun {l} h => by
    obtain ⟨_, z, vs, kv, o, es, ep, ho, hx, hd, _, pr, _⟩ := (show ObjOk X.prog X.w H s.heap a (.dK l) from h.ok I.hok)
    exact ⟨⟨o, ho, hx.1⟩, fun b q => by cases q; exact ⟨o, ho, hx.2.1⟩, z⟩
  have viaT : ∀ {xs : Xs}, Rd H a (DXo xs a) → s.TypeIs (.ref a) "dict" ∧ (∀ b, Value.ref a = .ref b → ∃ ob, s.heap.get? b = some ob ∧ ob.dict = none) ∧ (a == sysModules) = false := fun {xs} e => by
    obtain ⟨⟨h1, h2, o, es, ep, h3, h4, h5, h6, h7⟩, _, _⟩ := (show ObjOk X.prog X.w H s.heap a (DXo xs a) from e.ok I.hok)
    exact ⟨⟨o, h3, h4.1⟩, fun b q => by cases q; exact ⟨o, h3, h4.2.1⟩, h1⟩
  cases hd with
  | nil hd => exact hd.elim viaK fun h => viaT (.of h)
  | k hd => exact viaK hd
  | t hd => exact viaT hd
end
end PyE

/-! PyE: d[k], k in d, d.get, d[k] = v, {} -/
namespace PyE
open PySem PySem.Spec PyProof.Rows
open L2
def rIxDic (K : PySem.W.Frag) : R2 := fun x y H Q => ∃ a kvs k d, x = .ref a ∧ DictRd K H a kvs ∧ Fz K H y k ∧ keyOk kvs k = true ∧ findP kvs k = some d ∧ ∀ v, Fz K H v d → Q v H
def rInDic (K : PySem.W.Frag) (neg : Bool) : R2 := fun x y H Q => ∃ a kvs k, y = .ref a ∧ DictRd K H a kvs ∧ Fz K H x k ∧ keyOk kvs k = true ∧ Q (.bl (neg != (findP kvs k).isSome)) H
def ixDD (a b : PyData) : Option Rv := match a with
  | .dict kvs => if keyOk kvs b = true then (findP kvs b).map Rv.d else none
  | _ => ixD a b
def inDD (neg : Bool) (a b : PyData) : Option Rv := match b with
  | .dict kvs => if keyOk kvs a = true then bD (neg != (findP kvs a).isSome) else none
  | _ => inD neg a b
section
variable {X : Cx} {K : PySem.W.Frag}
theorem rel_ref {b : Addr} {u : Value} (h : RelV (.ref b) u) : u = .ref b := h
theorem ix_dict (hu : X.A.units + 64 < cLine) : IxR X (rIxDic X.K) := by
  intro value slice pins s σ H x y v u Q I rx ry h hs
  obtain ⟨a, kvs, k, d, rfl, hd, hk, ok, hf, q⟩ := h
  cases rx
  refine PyProof.Rows.tail_any (dict_facts I hd).1 PySem.F.slot_dict_getitem.lookup ?_ hs
  refine dic_rd I hd hk ok (fun H1 l j I1 e r ek ey back => ?_) fun xs j b z1 z3 r ek ey hb => ?_
  · subst ek
    rcases r.find keyD_eq j with ⟨h1, _⟩ | ⟨w, d', h1, h2, h3⟩
    · rw [h1] at hf; cases hf
    · rw [h1] at hf; cases hf
      exact d_getItem (by omega) I1 (.inl ⟨l, j, e, ey, h2.symm⟩) ry fun w' s' J rr => ⟨w, H, back s' J, rr, q w h3⟩
  · subst ek ey
    cases rel_ref ry
    rcases r.find j with ⟨h1, _⟩ | ⟨b', u', w, d', h1, h2, h3, h4⟩
    · rw [h1] at hf; cases hf
    · rw [h1] at hf; cases hf
      exact wpAny_getItem_heap (tupleKind_room_in1 (by omega)) (tup_key I hb) z3 h2 ⟨w, H, I.tok _, h3, q w h4⟩
theorem in_dict (hu : X.A.units + 64 < cLine) : OpR X (compareOp .In) (rInDic X.K false) := by
  intro pins s σ H x y v u Q I rx ry h
  obtain ⟨a, kvs, k, rfl, hd, hk, ok, q⟩ := h
  cases ry
  refine dic_rd I hd hk ok (fun H1 l j I1 e r ek ey back => ?_) fun xs j b z1 z3 r ek ey hb => ?_
  · subst ek
    refine d_in (by omega) I1 (.inl ⟨l, j, e, ey, rfl⟩) rx fun s' J => ⟨.bl _, H, back s' J, rfl, ?_⟩
    have : (valV l j).isSome = (findP kvs (keyD j)).isSome := by
      rcases r.find keyD_eq j with ⟨h1, h2⟩ | ⟨_, _, h1, h2, _⟩ <;> rw [h1, h2] <;> rfl
    rw [this]; rw [Bool.false_bne] at q; exact q
  · subst ek ey
    cases rel_ref rx
    refine wpAny_in_heap (tupleKind_room_in1 (by omega)) (tup_key I hb) z1 z3 ⟨.bl _, H, I.tok _, rfl, ?_⟩
    have : (atKey xs j).isSome = (findP kvs (keysI j)).isSome := by
      rcases r.find j with ⟨h1, h2⟩ | ⟨_, _, _, _, h1, h2, _⟩ <;> rw [h1, h2] <;> rfl
    rw [this]; rw [Bool.false_bne] at q; exact q
theorem notIn_dict (hu : X.A.units + 64 < cLine) : OpR X (compareOp .NotIn) (rInDic X.K true) := by
  intro pins s σ H x y v u Q I rx ry h
  obtain ⟨a, kvs, k, rfl, hd, hk, ok, q⟩ := h
  cases ry
  refine dic_rd I hd hk ok (fun H1 l j I1 e r ek ey back => ?_) fun xs j b z1 z3 r ek ey hb => ?_
  · subst ek
    refine d_notIn (by omega) I1 (.inl ⟨l, j, e, ey, rfl⟩) rx fun s' J => ⟨.bl _, H, back s' J, rfl, ?_⟩
    have : (valV l j).isSome = (findP kvs (keyD j)).isSome := by
      rcases r.find keyD_eq j with ⟨h1, h2⟩ | ⟨_, _, h1, h2, _⟩ <;> rw [h1, h2] <;> rfl
    rw [this]; rw [Bool.true_bne] at q; exact q
  · subst ek ey
    cases rel_ref rx
    refine wpAny_notIn_heap (tupleKind_room_in1 (by omega)) (tup_key I hb) z1 z3 ⟨.bl _, H, I.tok _, rfl, ?_⟩
    have : (atKey xs j).isSome = (findP kvs (keysI j)).isSome := by
      rcases r.find j with ⟨h1, h2⟩ | ⟨_, _, _, _, h1, h2, _⟩ <;> rw [h1, h2] <;> rfl
    rw [this]; rw [Bool.true_bne] at q; exact q
theorem ixr_any (hu : X.A.units + 64 < cLine) : IxR X (fun x y H Q => rIx X.K x y H Q ∨ rIxDic X.K x y H Q) := ix_seq.or (ix_dict hu)
theorem opd_ixD : Op2 K (fun x y H Q => rIx K x y H Q ∨ rIxDic K x y H Q) ixDD := by
  intro H x y a b z Q rx ry e q
  unfold ixDD at e
  split at e
  · rename_i kvs
    split at e
    · rename_i ok
      obtain ⟨p, rfl, hd⟩ := rb_dict rx
      cases hf : findP kvs b with
      | none => rw [hf] at e; cases e
      | some d =>
        rw [hf] at e; cases e
        exact .inr ⟨p, kvs, b, d, rfl, hd, rb_key ry (keyOk_kind ok), ok, hf, fun v hv => q _ _ (fun _ _ h => h) hv⟩
    · cases e
  · exact .inl (opd_ix H x y a b z Q rx ry e q)
theorem inr_any (hu : X.A.units + 65 < cLine) : OpR X (compareOp .In) (fun x y H Q => rInR X.K false x y H Q ∨ rInDic X.K false x y H Q) := (opr_in hu).or (in_dict (by omega))
theorem ninr_any (hu : X.A.units + 65 < cLine) : OpR X (compareOp .NotIn) (fun x y H Q => rInR X.K true x y H Q ∨ rInDic X.K true x y H Q) := (opr_notIn hu).or (notIn_dict (by omega))
theorem opd_inD (neg : Bool) : Op2 K (fun x y H Q => rInR K neg x y H Q ∨ rInDic K neg x y H Q) (inDD neg) := by
  intro H x y a b z Q rx ry e q
  unfold inDD at e
  split at e
  · rename_i kvs
    split at e
    · rename_i ok
      obtain ⟨p, rfl, hd⟩ := rb_dict ry
      cases e
      exact .inr ⟨p, kvs, a, rfl, hd, rb_key rx (keyOk_kind ok), ok, q _ _ (fun _ _ h => h) (.bl _)⟩
    · cases e
  · exact .inl (opd_in neg H x y a b z Q rx ry e q)
end
end PyE

/-! PyE: d.get, d[k] = v, {} -/
namespace PyE
open PySem PySem.Spec PyProof.Rows
open L2
/-! ### d.get(k), d.get(k, x) -/
def rGet1 (K : PySem.W.Frag) : V → List V → Hp → VK → Prop := fun x vs H Q => ∃ a y kvs k, x = .ref a ∧ vs = [y] ∧ DictRd K H a kvs ∧ Fz K H y k ∧ keyOk kvs k = true ∧ ∀ v, Fz K H v ((findP kvs k).getD .none) → Q v H
def rGet2 (K : PySem.W.Frag) : V → List V → Hp → VK → Prop := fun x vs H Q => ∃ a y c kvs k d, x = .ref a ∧ vs = [y, c] ∧ DictRd K H a kvs ∧ Fz K H y k ∧ keyOk kvs k = true ∧ Fz K H c d ∧ ∀ v, Fz K H v ((findP kvs k).getD d) → Q v H
/-- the receiver just now -/
def dictOf (m : Sm) (r : Rv) : Option Kvs := match deref m r with
  | some (.dict kvs) => some kvs
  | _ => none
def getK2 (x : Rv) : List PyData → Ev Rv := fun ds m => match dictOf m x, ds with
  | some kvs, [k] => if keyOk kvs k = true then .ok (.d ((findP kvs k).getD .none)) m else .no
  | some kvs, [k, d] => if keyOk kvs k = true then .ok (.d ((findP kvs k).getD d)) m else .no
  | _, _ => .no
def getK (fs : List (Ev Rv)) : Rv → Ev Rv := fun x m => match dictOf m x with
  | some _ => (argsD fs m).bind (getK2 x)
  | none => .no
def getE (f : Ev Rv) (fs : List (Ev Rv)) : Ev Rv := bnd f (getK fs)
section
variable {xr : XR} {W : WX} {X : Cx} {o e : Expr} {es : List Expr} {f : Ev Rv} {fs : List (Ev Rv)} {apos cpos : Pos}
theorem mt_get1 (hu : X.A.units + 64 < cLine) : MtR X "dict.get" (rGet1 X.K) := by
  intro pins s σ H x xs v us Q I rx rs h
  obtain ⟨a, y, kvs, k, rfl, rfl, hd, hk, ok, q⟩ := h
  cases rx
  obtain ⟨u, rfl, ru⟩ := vals1 rs
  refine dic_rd I hd hk ok (fun H1 l j I1 e r ek ey back => ?_) fun xs j b z1 z3 r ek ey hb => ?_
  · subst ek
    refine d_get1 (by omega) I1 (.inl ⟨l, j, e, ey, rfl⟩) ru fun w' s' J rr => ⟨_, H, back s' J, rr, q _ ?_⟩
    rcases r.find keyD_eq j with ⟨h1, h2⟩ | ⟨w, d, h1, h2, h3⟩
    · rw [h1, h2]; exact .non
    · rw [h1, h2]; exact h3
  · subst ek ey
    cases rel_ref ru
    refine call_meetsIn PySem.F.slot_dict_get z3.typeIs PySem.F.entry_dict_get (PySem.F.args_dict_get_2 _ _) (meetsH_dict_get (tupleKind (intKind X.prog X.w)) a b z1) ⟨tupleKind_room_in1 (by omega), j, xs, tup_key I hb, z3, ?_⟩
    rcases r.find j with ⟨h1, h2⟩ | ⟨b', u', w, d, h1, h2, h3, h4⟩
    · rw [h1] at q; rw [h2]
      exact ⟨.non, H, I.tok _, rfl, q _ .non⟩
    · rw [h1] at q; rw [h2]
      exact ⟨w, H, I.tok _, h3, q _ h4⟩
theorem mt_get2 (hu : X.A.units + 64 < cLine) : MtR X "dict.get" (rGet2 X.K) := by
  intro pins s σ H x xs v us Q I rx rs h
  obtain ⟨a, y, c, kvs, k, dd, rfl, rfl, hd, hk, ok, hc, q⟩ := h
  cases rx
  obtain ⟨u, z, rfl, ru, rz⟩ := vals2 rs
  refine dic_rd I hd hk ok (fun H1 l j I1 e r ek ey back => ?_) fun xs j b z1 z3 r ek ey hb => ?_
  · subst ek
    refine d_get2 (by omega) I1 (.inl ⟨l, j, e, ey, rfl⟩) ru rz fun w' s' J rr => ⟨_, H, back s' J, rr, q _ ?_⟩
    rcases r.find keyD_eq j with ⟨h1, h2⟩ | ⟨w, d, h1, h2, h3⟩
    · rw [h1, h2]; exact hc
    · rw [h1, h2]; exact h3
  · subst ek ey
    cases rel_ref ru
    refine call_meetsIn PySem.F.slot_dict_get z3.typeIs PySem.F.entry_dict_get (PySem.F.args_dict_get_3 _ _ _) (meetsH_dict_get_default (tupleKind (intKind X.prog X.w)) a b z1 z) ⟨tupleKind_room_in1 (by omega), j, xs, tup_key I hb, z3, ?_⟩
    rcases r.find j with ⟨h1, h2⟩ | ⟨b', u', w, d, h1, h2, h3, h4⟩
    · rw [h1] at q; rw [h2]
      exact ⟨c, H, I.tok _, rz, q _ hc⟩
    · rw [h1] at q; rw [h2]
      exact ⟨w, H, I.tok _, h3, q _ h4⟩
theorem dict_at {K : PySem.W.Frag} {H0 H : Hp} {σ : St} {fp : Fp} {m : Sm} {x : Rv} {v : V} {kvs : Kvs} (s : RelS K H m σ fp) (r : RelR K H0 H σ fp x v) (e : dictOf m x = some kvs) : ∃ a, v = .ref a ∧ DictRd K H a kvs := by
  unfold dictOf at e
  split at e
  · rename_i k' e1
    cases e
    exact rb_dict (r.rb s e1)
  · cases e
/-- a method of a dict, either kind -/
def tBD (K : PySem.W.Frag) (r : V → List V → Hp → VK → Prop) (to : TE) (t : TA) : TE := fun σ H Q => to σ H fun x H1 => (∃ a kvs, x = .ref a ∧ DictRd K H1 a kvs) ∧ t σ H1 fun vs H2 => r x vs H2 Q
theorem pe_bd {id name : String} {r : V → List V → Hp → VK → Prop} {to : TE} {t : TA} (slot : Slot "dict" (Str.ofString name) id) (hty : typeOf (.builtin id) = pure (.type "method_descriptor")) (hm : MtR X id r) (ho : PE X o to) (ha : PA X (e :: es) t)
    (hbase : attributeBase o (Str.ofString name) X.env (eval o X.env) = eval o X.env := by rfl)
    (hfew : ((backTo cpos (starEach (e :: es) X.env)).all (fun x => !x.1) && (backToKw cpos (keywordEach [] X.env)).all (fun x => x.1.isSome)
      && decide ((e :: es).length + ([] : List Keyword).length + (if ([] : List Keyword).isEmpty then 0 else 1) < 30)) = true := by rfl)
    (hline : (apos.endLine == cpos.line) = true := by rfl) (hs : starEach (e :: es) X.env = (false, eval e X.env) :: starEach es X.env := by rfl) (hplain : (backTo cpos (starEach es X.env)).any (·.1) = false := by rfl) :
    PE X (.Call (.Attribute o (Str.ofString name) apos) (e :: es) [] cpos) (tBD X.K r to t) := by
  refine ⟨fun pins s σ H Q I h => ?_⟩
  refine wpAny_Call_method_late hbase hfew hline rfl (thn (ho.run pins s σ H _ I h) fun v s1 ⟨x, H1, I1, r1, ty, q1⟩ => ?_)
  obtain ⟨a, kvs, rfl, hd⟩ := ty
  cases r1
  obtain ⟨h1, h2, _⟩ := dict_facts I1 hd
  refine ⟨"dict", id, PySem.F.plainAttrs_dict, slot, hty, h1, h2, ?_⟩
  have hA := ha.run cpos pins s1 σ H1 _ I1 q1
  rw [hs] at hA ⊢
  refine Calls.callWith_builtin (by show (false || (backTo cpos (starEach es X.env)).any (·.1)) = false; rw [hplain] <;> rfl) (Calls.evalArgs_plain ?_)
  exact thn hA fun us s2 ⟨vs, H2, I2, r2, q2⟩ => hm pins s2 σ H2 (.ref a) vs (.ref a) us Q I2 rfl r2 q2
theorem sd_get (hu : X.A.units + 64 < cLine) (ho : PE X o (tE xr X.K W f)) (ha : PA X (e :: es) (tAD xr X.K W (argsD fs)))
    (hbase : attributeBase o "get" X.env (eval o X.env) = eval o X.env := by rfl)
    (hfew : ((backTo cpos (starEach (e :: es) X.env)).all (fun x => !x.1) && (backToKw cpos (keywordEach [] X.env)).all (fun x => x.1.isSome) && decide ((e :: es).length + ([] : List Keyword).length + (if ([] : List Keyword).isEmpty then 0 else 1) < 30)) = true := by rfl)
    (hline : (apos.endLine == cpos.line) = true := by rfl) (hs : starEach (e :: es) X.env = (false, eval e X.env) :: starEach es X.env := by rfl) (hplain : (backTo cpos (starEach es X.env)).any (·.1) = false := by rfl) :
    PE X (.Call (.Attribute o "get" apos) (e :: es) [] cpos) (tE xr X.K W (getE f fs)) := by
  refine pe_imp (pe_bd (name := "get") PySem.F.slot_dict_get PySem.F.type_dict_get ((mt_get1 hu).or (mt_get2 hu)) ho ha hbase hfew hline hs hplain) fun σ H Q h => ?_
  refine tG_bind (Rc := RelR X.K) h fun m fp x m1 v H1 fp1 r0 r1 s1 rx p => ?_
  unfold getK at p
  cases e1 : dictOf m1 x with
  | none => simp only [e1] at p; exact p.elim
  | some kvs1 =>
    simp only [e1] at p
    obtain ⟨a, rfl, hd⟩ := dict_at r1 rx e1
    refine ⟨⟨a, _, rfl, hd⟩, ?_⟩
    refine post_bind (Ra := RelDs X.K) (Rc := RelR X.K) r1 s1 p fun ds m2 vs H2 fp2 r2 s2 g p => ?_
    have rx2 := rx.step r1 s2
    unfold getK2 at p
    cases e2 : dictOf m2 x with
    | none => simp only [e2] at p; exact p.elim
    | some kvs =>
      simp only [e2] at p
      obtain ⟨b, eb, hd2⟩ := dict_at r2 rx2 e2
      cases eb
      have g : FzAll X.K H2 vs ds := g
      have s12 := s1.trans s2
      match ds, vs, g, p with
      | [k], [y], .cons hk .nil, p =>
        simp only at p
        split at p
        · rename_i ok
          exact .inl ⟨a, y, kvs, k, rfl, rfl, hd2, hk, ok, fun v hv => p v H2 fp2 r2 s12 hv⟩
        · exact p.elim
      | [k, dd], [y, c], .cons hk (.cons hc .nil), p =>
        simp only at p
        split at p
        · rename_i ok
          exact .inr ⟨a, y, c, kvs, k, dd, rfl, rfl, hd2, hk, ok, hc, fun v hv => p v H2 fp2 r2 s12 hv⟩
        · exact p.elim
      | [], _, _, p => exact p.elim
      | _ :: _ :: _ :: _, _, _, p => exact p.elim
end
/-! ### d[k] = v -/
def rSetDic (K : PySem.W.Frag) : TSet := fun o i v H Q => ∃ (a : Addr) (kvs : Kvs) (k d : PyData), o = .ref a ∧ DictAt K H a kvs ∧ Fz K H i k ∧ keyOk kvs k = true ∧ Fz K H v d ∧ kvs.length < 1000000 ∧ ∀ ob, DictAt K (upd H a ob) a (putP kvs k d) → Q (upd H a ob)
theorem kvs_ne {kvs : Kvs} {k d : PyData} : putP kvs k d ≠ [] := by
  unfold putP
  split
  · rename_i h
    cases kvs with
    | nil => cases h
    | cons p r => simp
  · simp
section
variable {X : Cx}
theorem set_dic (hu : X.A.units + 64 < cLine) : PSet X (rSetDic X.K) := by
  intro pins s σ H o i v ov iv u Q I ro ri rv h
  obtain ⟨a, kvs, k, d, rfl, hd, hk, ok, hv, hl, q⟩ := h
  cases ro
  have big : ∀ n : Nat, n < 1000000 → n < sizeLine := fun n hn => by rw [sizeLine_eq]; omega
  refine dic_go I hd hk ok (fun H1 l j I1 e r ek ey eu back => ?_) fun H1 xs j b I1 e r r1 ek ey hb hb1 eu back => ?_
  · subst ek ey
    have hm : Mut (H a) := hd.mut
    refine d_setItem (by omega) I1 (.inl ⟨l, j, e, rfl, by rw [r.length]; exact big _ hl, rfl⟩) ri rv fun s' J => ?_
    rw [eu] at J
    exact ⟨_, J, q _ (.k upd_same ((r.put keyD_eq j hv).keep (keep_upd hm)) kvs_ne)⟩
  · subst ek ey
    cases rel_ref ri
    have hm : Mut (H a) := hd.mut
    obtain ⟨z1, z2, z3⟩ := dx_of I1 (.of e) r1
    refine wpAny_setItem_heap (hsz := z2) (tupleKind_room_in1 (by omega)) (tup_key I hb) z3 fun h' dd' hs => ?_
    have rp : TxR X.K H (storedH xs j b u) (putP kvs (keysI j) d) := r.put j hb rv hv
    have hlen : (storedH xs j b u).length ≤ sizeLine := by
      have h1 : (storedH xs j b u).length = (putP kvs (keysI j) d).length := rp.length
      have h2 : (putP kvs (keysI j) d).length ≤ kvs.length + 1 := by unfold putP; split <;> simp
      rw [h1, sizeLine_eq]; omega
    refine ⟨upd H a (DXo (storedH xs j b u) a), ?_, q _ (.t upd_same (rp.keep (keep_upd hm)) kvs_ne)⟩
    rw [← eu]
    exact d_write I1 (by rw [e]; exact trivial) hs (let ⟨q, _, _, hq, _⟩ := dd'; ⟨q, hq⟩) (dx_ok z1 hlen dd')
end
/-! ### x[k] = e, x a list or a dict -/
def setK2 (i : Nat) (d : PyData) : PyData → Sf := fun k m => match m[i]? with
  | some (some (.ol xs)) => match k with
    | .int k => match ixN xs.length k with
      | some j => .ok .nx (m.set i (some (.ol (xs.set j d))))
      | none => .no
    | _ => .no
  | some (some (.od kvs)) => if keyOk kvs k = true ∧ kvs.length < 1000000 then .ok .nx (m.set i (some (.od (putP kvs k d)))) else .no
  | _ => .no
def setK1 (i : Nat) (fi : Ev Rv) : PyData → Sf := fun d m => match m[i]? with
  | some (some (.ol _)) => (frzE fi m).bind (setK2 i d)
  | some (some (.od _)) => (frzE fi m).bind (setK2 i d)
  | _ => .no
def setX (i : Nat) (fi fe : Ev Rv) : Sf := bnd (frzE fe) (setK1 i fi)
theorem PSet.or {X : Cx} {t t' : TSet} (h : PSet X t) (h' : PSet X t') : PSet X (fun o i v H Q => t o i v H Q ∨ t' o i v H Q) := by
  intro pins s σ H o i v ov iv u Q I ro ri rv q
  rcases q with q | q
  · exact h pins s σ H o i v ov iv u Q I ro ri rv q
  · exact h' pins s σ H o i v ov iv u Q I ro ri rv q
section
variable {xr : XR} {W : WX} {X : Cx} {ro : List Nat} {σ0 : St} {e ie : Expr} {fe fi : Ev Rv} {i : Nat} {x : Str} {pos npos spos : Pos}
theorem put1 {K : PySem.W.Frag} {H H' : Hp} {m : Sm} {σ : St} {fp : Fp} {mv : Mv} {w : V} {a : Addr} (r : RelS K H m σ fp) (hi : i < m.length) (hv : σ[i]? = some (some w)) (ha : a ∈ fp i) (hm : Mut (H a)) {ob : HO} (eH : H' = upd H a ob) (rm : RelM K H' mv w [a]) :
    RelS K H' (m.set i (some mv)) σ (fun l => if l = i then [a] else fp l) ∧ Step fp (fun l => if l = i then [a] else fp l) H H' := by
  subst eH
  refine ⟨r.put hi (keep_upd hm) (fun l hl b hb => upd_ne fun q => hl (r.dis l i a (by rw [← q]; exact hb) ha)) hv rm fun b hb l hl hb2 => ?_, ⟨fun l b hb => ?_, fun b u hb hn => ?_, fun b hb => upd_trk hb⟩⟩
  · simp only [List.mem_singleton] at hb
    subst hb
    exact hl (r.dis l i b hb2 ha)
  · by_cases hl : l = i
    · simp only [if_pos hl, List.mem_singleton] at hb
      exact .inl ⟨i, by rw [hb]; exact ha⟩
    · simp only [if_neg hl] at hb; exact .inl ⟨l, hb⟩
  · rw [upd_ne (fun q => hn i (by rw [q]; exact ha))]; exact hb
theorem ss_setX (hu : X.A.units + 64 < cLine) (he : PE X e (tE xr X.K W fe)) (hi : PE X ie (tE xr X.K W fi)) (hN : X.N[i]? = some x) (hv : Vis X.env.scope x) (hd : (x == ("__debug__" : Str)) = false := by decide) (hcd : (x == ("__classdict__" : Str)) = false := by decide)
    (ha : ∀ v, assign (.Subscript (.Name x npos) ie spos) X.env v = (do
      let ov ← holding [v] (eval (.Name x npos) X.env)
      let iv ← holding [v, ov] (eval ie X.env)
      standAt spos
      holding [v, ov, iv] (setItem ov iv v)
      release [v, ov, iv] []) := by intro _; rfl)
    (hs : swapsWithSole [.Subscript (.Name x npos) ie spos] e pos.line X.env = pure false := by rfl) (hw : swappedStores [.Subscript (.Name x npos) ie spos] e X.env = pure none := by rfl)
    (h1 : (assignEach [.Subscript (.Name x npos) ie spos] X.env).map (·.2) = [assign (.Subscript (.Name x npos) ie spos) X.env] := by rfl) : PS X (.Assign [.Subscript (.Name x npos) ie spos] e pos) (tS xr X.K W ro σ0 (setX i fi fe)) := by
  refine ps_imp (ps_asg (sd_frz he) (pg_sub (pe_var (i := i) hN hv hd hcd) (sd_frz hi) (PSet.or set_list (set_dic hu)) ha) hs hw h1) fun D σ H q => ?_
  refine tS_bind (Ra := RelD X.K) q fun fp d m1 v H1 fp1 r1 s1 k z p => ?_
  unfold setK1 at p
  -- what the slot holds just now
  have main : ∀ (w : V), σ[i]? = some (some w) → PostS xr X.K W ro σ0 D H1 fp1 ((frzE fi m1).bind (setK2 i d)) → ∃ x, σ[i]? = some (some x) ∧ tD xr X.K W (frzE fi) σ H1 (fun y H2 => (fun o i v H Q => rSetL o i v H Q ∨ rSetDic X.K o i v H Q) x y v H2 fun H3 => D.nx σ H3) := by
    intro w hw2 p
    refine ⟨w, hw2, ?_⟩
    refine tS_at (D := D) (ro := ro) (σ0 := σ0) (Ra := RelD X.K) r1 k (.refl _ _) p fun kk m2 u H2 fp3 r2 s2 zk p2 => ?_
    have kv : Keep H1 H2 := r1.keepOf s2
    unfold setK2 at p2
    cases e2 : m2[i]? with
    | none => simp only [e2] at p2; exact p2.elim
    | some oo =>
      cases oo with
      | none => simp only [e2] at p2; exact p2.elim
      | some mv =>
        obtain ⟨w', e4, rm⟩ := r2.at_ i _ e2
        rw [hw2] at e4; cases e4
        generalize ef : fp3 i = f0 at rm
        cases mv with
        | ol xs =>
          simp only [e2] at p2
          cases kk with
          | int kk =>
            cases fz_int zk
            simp only at p2
            cases e3 : ixN xs.length kk with
            | none => simp only [e3] at p2; exact p2.elim
            | some j =>
              simp only [e3] at p2
              cases rm with
              | @ol _ a ys2 hp g2 =>
                have ha1 : a ∈ fp3 i := by rw [ef]; simp
                have k3 : Keep H2 (upd H2 a (.lst (ys2.set j v))) := keep_upd (by rw [hp]; exact trivial)
                obtain ⟨q1, q2⟩ := put1 r2 (nth_lt e2) hw2 ha1 (by rw [hp]; exact trivial) (mv := .ol (xs.set j d)) rfl (.ol upd_same ((FzAll.set (Fz.keep kv z) j g2).keep k3))
                exact .inl ⟨a, ys2, kk, j, rfl, rfl, hp, by rw [g2.length]; exact e3, p2 σ _ _ q1 (s2.trans q2) k⟩
          | _ => exact p2.elim
        | od kvs =>
          simp only [e2] at p2
          split at p2
          · rename_i ok
            cases rm with
            | @od _ a hp =>
              have ha1 : a ∈ fp3 i := by rw [ef]; simp
              refine .inr ⟨a, kvs, kk, d, rfl, hp, zk, ok.1, Fz.keep kv z, ok.2, fun ob hd2 => ?_⟩
              obtain ⟨q1, q2⟩ := put1 r2 (nth_lt e2) hw2 ha1 hp.mut (mv := .od (putP kvs kk d)) rfl (.od hd2)
              exact p2 σ _ _ q1 (s2.trans q2) k
          · exact p2.elim
        | _ => simp only [e2] at p2; exact p2.elim
  cases e1 : m1[i]? with
  | none => simp only [e1] at p; exact p.elim
  | some oo =>
    cases oo with
    | none => simp only [e1] at p; exact p.elim
    | some mv =>
      obtain ⟨w, hw2, _⟩ := r1.at_ i _ e1
      cases mv with
      | ol xs => simp only [e1] at p; exact main w hw2 p
      | od kvs => simp only [e1] at p; exact main w hw2 p
      | _ => simp only [e1] at p; exact p.elim
end
/-! ### {} -/
theorem sd_dict0 {xr : XR} {W : WX} {X : Cx} {pos : Pos} : PE X (.Dict [] [] pos) (tE xr X.K W (fun m => .ok (.nd []) m)) := by
  refine pe_imp pe_dnewK fun σ H Q ⟨m, fp, r, p⟩ => fun o ho => ?_
  have sm : Same H (upd H o (.dK [])) := fun b u e => by rw [upd_ne (ne_of_none e ho)]; exact e
  exact p _ _ fp (r.same sm) (.same sm) ⟨o, rfl, .nil (.inl upd_same), ho, fun i hi => r.some_ hi ho⟩
end PyE

/-! PyE: dict(pairs) -/
namespace PyE
open PySem PySem.Spec PyProof.Rows
open L2
def pairsOf : List PyData → Option Kvs
  | [] => some []
  | .tuple [k, d] :: r => match pairsOf r with
    | some q => some ((k, d) :: q)
    | none => none
  | _ => none
def putAll : Kvs → Kvs → Kvs
  | acc, [] => acc
  | acc, p :: r => putAll (putP acc p.1 p.2) r
def kindAll (b : Bool) (kvs : Kvs) : Bool := kvs.all fun p => keyKind p.1 == some b
def dictP (xs : List PyData) : Option Rv := match pairsOf xs with
  | some kvs => if (kindAll false kvs || kindAll true kvs) = true ∧ kvs.length < 1000000 then some (.nd (putAll [] kvs)) else none
  | none => none
def dictO : Option (List PyData) → Ev Rv := fun o m => match o with
  | some xs => fin1 (dictP xs) m
  | none => .no
def dictK (d : PyData) : Ev Rv := fun m => dictO (seqOf d) m
def dictE (f : Ev Rv) : Ev Rv := bnd (frzE f) dictK
/-- the rows of the pairs, as they lie -/
structure Row where
  a : Addr
  k : Value
  v : Value
inductive RowsR (K : PySem.W.Frag) (H : Hp) (h : Heap) : List Row → Kvs → Prop
  | nil : RowsR K H h [] []
  | cons {r : Row} {rs : List Row} {kv dv : V} {k d : PyData} {kvs : Kvs} : IsTup h r.a #[r.k, r.v] → RelV kv r.k → Fz K H kv k → RelV dv r.v → Fz K H dv d → RowsR K H h rs kvs → RowsR K H h (r :: rs) ((k, d) :: kvs)
section
variable {X : Cx} {pins : List (Addr × Obj)} {σ : St} {H : Hp} {s : Shared}
theorem fz_tuple {K : PySem.W.Frag} {v : V} {ds : List PyData} (h : Fz K H v (.tuple ds)) : ∃ a xs, v = .ref a ∧ TupF H a xs ∧ FzAll K H xs ds := by
  cases h with
  | tup h g => exact ⟨_, _, rfl, h, g⟩
theorem rows_of (I : Inv X pins σ H s) : ∀ {ys : List V} {ds : List PyData} {us : List Value} {kvs : Kvs}, FzAll X.K H ys ds → Vals ys us → pairsOf ds = some kvs → ∃ rs : List Row, us = rs.map (fun r => Value.ref r.a) ∧ RowsR X.K H s.heap rs kvs
  | _, _, _, _, .nil, .nil, e => by cases e; exact ⟨[], rfl, .nil⟩
  | _, _, _, kvs, .cons (d := d) (ds := ds) z g, .cons rv rvs, e => by
    unfold pairsOf at e
    split at e
    · cases ‹_ :: _ = []›
    · rename_i k d' r hd
      cases hd
      cases q : pairsOf ds with
      | none => simp only [q] at e; cases e
      | some kvs' =>
        simp only [q] at e
        cases e
        obtain ⟨rs, e1, h1⟩ := rows_of I g rvs q
        obtain ⟨a, xs, rfl, ht, g2⟩ := fz_tuple z
        cases g2 with
        | cons z1 g2 =>
          cases g2 with
          | cons z2 g2 =>
            cases g2
            obtain ⟨its, rv2, tp, _⟩ := I.tuple ht.sq
            obtain ⟨u1, u2, ei, r1, r2⟩ := vals2 rv2
            subst ei
            cases rv
            exact ⟨⟨a, u1, u2⟩ :: rs, by rw [e1]; rfl, .cons tp r1 z1 r2 z2 h1⟩
    · cases e
theorem RowsR.length {K : PySem.W.Frag} {h : Heap} {rs : List Row} {kvs : Kvs} (r : RowsR K H h rs kvs) : rs.length = kvs.length := by
  induction r with
  | nil => rfl
  | cons _ _ _ _ _ _ ih => simp [ih]
theorem RowsR.at {K : PySem.W.Frag} {h : Heap} {rs : List Row} {kvs : Kvs} (r : RowsR K H h rs kvs) : ∀ (j : Nat) (x : Row), rs[j]? = some x → IsTup h x.a #[x.k, x.v] := by
  induction r with
  | nil => intro j x e; simp at e
  | cons h1 _ _ _ _ _ ih =>
    intro j x e
    cases j with
    | zero => simp at e; subst e; exact h1
    | succ j => exact ih j x (by simpa using e)
theorem items_of {h : Heap} {rs : List Row} {us : List Value} (hu : us = rs.map fun r => Value.ref r.a) (ht : ∀ (j : Nat) (x : Row), rs[j]? = some x → IsTup h x.a #[x.k, x.v]) :
    PairItems h us.toArray (fun j => ((rs[j]?).map Row.a).getD 0) (rs.map fun r => (r.k, r.v)) := by
  subst hu
  refine ⟨by simp, fun j k v e => ?_⟩
  rw [List.getElem?_map] at e
  cases q : rs[j]? with
  | none => rw [q] at e; cases e
  | some x =>
    rw [q] at e; cases e
    obtain ⟨o, h1, h2, n, h3⟩ := ht j x q
    refine ⟨by simp [q], .inl ?_⟩
    show h.IsTuple ((Option.map Row.a rs[j]?).getD 0) #[x.k, x.v]
    rw [q]
    exact ⟨o, h1, h2, n, h3⟩
/-- keys ints and texts -/
theorem rows_k (P : Program) (w : World) {K : PySem.W.Frag} {h : Heap} {rs : List Row} {kvs : Kvs} (r : RowsR K H h rs kvs) (hk : kindAll false kvs = true) : ∃ (l : List (Key × V)) (prs : List (Key × Value)), KV l prs ∧ KvR K H keyD l kvs ∧ prs.length = rs.length ∧
    ∀ (j : Nat) (x : Row), rs[j]? = some x → ∃ k, prs[j]? = some (k, x.v) ∧ keyIs k x.k = true := by
  induction r with
  | nil => exact ⟨[], [], .nil, .nil, rfl, fun j x e => by simp at e⟩
  | @cons r rs kv dv k d kvs h1 h2 h3 h4 h5 _ ih =>
    simp only [kindAll, List.all_cons, Bool.and_eq_true, beq_iff_eq] at hk
    obtain ⟨l, prs, i1, i2, i3, i4⟩ := ih (by simpa only [kindAll] using hk.2)
    obtain ⟨j, ej⟩ := keyKind_f hk.1
    subst ej
    have ev := fz_key h3
    subst ev
    refine ⟨(j, dv) :: l, (j, r.v) :: prs, .cons ⟨rfl, h4⟩ i1, .cons h5 i2, by simp [i3], fun m x e => ?_⟩
    cases m with
    | zero => simp at e; subst e; exact ⟨j, rfl, kV_is (P := P) (w := w) h2⟩
    | succ m =>
      obtain ⟨k', q1, q2⟩ := i4 m x (by simpa using e)
      exact ⟨k', by simpa using q1, q2⟩
theorem merge_put {K : PySem.W.Frag} {H' : Hp} : ∀ {l : List (Key × V)} {kvs : Kvs} {acc : List (Key × V)} {ac : Kvs}, KvR K H' keyD l kvs → KvR K H' keyD acc ac → KvR K H' keyD (mergeK acc l) (putAll ac kvs)
  | _, _, _, _, .nil, r => r
  | _, _, acc, ac, .cons (k := k) (v := v) (d := d) (l := l) (kvs := kvs) z g, r => by
    show KvR K H' keyD (mergeK (putK acc k v) l) (putAll (putP ac (keyD k) d) kvs)
    exact merge_put g (r.put keyD_eq k z)
/-- keys tuples of ints -/
theorem rows_t {K : PySem.W.Frag} {h : Heap} {rs : List Row} {kvs : Kvs} (r : RowsR K H h rs kvs) (hk : kindAll true kvs = true) : ∃ (xs : Xs), TxR K H xs kvs ∧ xs.length = rs.length ∧
    ∀ (j : Nat) (x : Row), rs[j]? = some x → ∃ k b, xs[j]? = some (k, b, x.v) ∧ x.k = .ref b := by
  induction r with
  | nil => exact ⟨[], .nil, rfl, fun j x e => by simp at e⟩
  | @cons r rs kv dv k d kvs h1 h2 h3 h4 h5 _ ih =>
    simp only [kindAll, List.all_cons, Bool.and_eq_true, beq_iff_eq] at hk
    obtain ⟨xs, i1, i2, i3⟩ := ih (by simpa only [kindAll] using hk.2)
    obtain ⟨j, ej⟩ := keyKind_t hk.1
    subst ej
    obtain ⟨b, ev, hb⟩ := fz_keys h3
    subst ev
    refine ⟨(j, b, r.v) :: xs, .cons hb h4 h5 i1, by simp [i2], fun m x e => ?_⟩
    cases m with
    | zero => simp at e; subst e; exact ⟨j, b, rfl, rel_ref h2⟩
    | succ m =>
      obtain ⟨k', b', q1, q2⟩ := i3 m x (by simpa using e)
      exact ⟨k', b', by simpa using q1, q2⟩
theorem stored_put {K : PySem.W.Frag} {H' : Hp} : ∀ {l : Xs} {kvs : Kvs} {acc : Xs} {ac : Kvs}, TxR K H' l kvs → TxR K H' acc ac → TxR K H' (storedAllH acc l) (putAll ac kvs)
  | _, _, _, _, .nil, r => r
  | _, _, acc, ac, .cons (k := k) (b := b) (u := u) (d := d) (xs := xs) (kvs := kvs) h1 h2 h3 g, r => by
    show TxR K H' (storedAllH (storedH acc k b u) xs) (putAll (putP ac (keysI k) d) kvs)
    exact stored_put g (r.put k h1 h2 h3)
theorem TxR.is {xs : Xs} {kvs : Kvs} (I : Inv X pins σ H s) (r : TxR X.K H xs kvs) {h' : Heap} {d : Addr} (hd : s.heap.objs.size ≤ d) (hk : ∀ b o, b ≠ d → s.heap.get? b = some o → h'.get? b = some o) : ∀ x ∈ xs, (tupleKind (intKind X.prog X.w)).is h' x.1 x.2.1 := by
  induction r with
  | nil => intro x hx; cases hx
  | cons k1 _ _ _ ih =>
    intro x hx
    rcases List.mem_cons.mp hx with z | z
    · rw [z]
      obtain ⟨o, its, n, h1, q⟩ := tup_key I k1
      exact ⟨o, its, n, hk _ _ (Nat.ne_of_lt (Nat.lt_of_lt_of_le (Heap.lt_size h1) hd)) h1, q⟩
    · exact ih x z
def rDictP (K : PySem.W.Frag) : List V → Hp → VK → Prop := fun xs H Q => ∃ v d ds kvs, xs = [v] ∧ Fz K H v d ∧ seqOf d = some ds ∧ pairsOf ds = some kvs ∧ (kindAll false kvs || kindAll true kvs) = true ∧ kvs.length < 1000000 ∧
  ∀ p ob, H p = none → DictAt K (upd H p ob) p (putAll [] kvs) → Q (.ref p) (upd H p ob)
theorem dictAt_k {K : PySem.W.Frag} {H : Hp} {a : Addr} {l : List (Key × V)} {kvs : Kvs} (h : H a = some (.dK l)) (r : KvR K H keyD l kvs) : DictAt K H a kvs := by
  cases r with
  | nil => exact .nil (.inl h)
  | cons z g => exact .k h (.cons z g) (by simp)
theorem dictAt_t {K : PySem.W.Frag} {H : Hp} {a : Addr} {xs : Xs} {kvs : Kvs} (h : H a = some (DXo xs a)) (r : TxR K H xs kvs) : DictAt K H a kvs := by
  cases r with
  | nil => exact .nil (.inr h)
  | cons z1 z2 z3 g => exact .t h (.cons z1 z2 z3 g) (by simp)
theorem opr_dict (hcalm : X.calm = true) (hu : X.A.units + 66 < cLine) : CallR X (.type "dict") (rDictP X.K) := by
  intro pins s σ H xs us Q I r q
  obtain ⟨v, d, ds, kvs, ex, hz, hd, hp, hk, hl, q⟩ := q
  subst ex
  obtain ⟨u, eu, rx⟩ := vals1 r
  subst eu
  -- the argument as it lies
  have key : ∀ (T : String) (a : Addr) (its : List Value) (rs : List Row), RowsR X.K H s.heap rs kvs → PairArg X.prog X.w T a (a :: (List.range (rs.map fun r => (r.k, r.v)).length).map (fun j => ((rs[j]?).map Row.a).getD 0)) [] (rs.map fun r => (r.k, r.v)).length (PairRel (rs.map fun r => (r.k, r.v))) (fun h => PlainSeq T h a its.toArray ∧ PairItems h its.toArray (fun j => ((rs[j]?).map Row.a).getD 0) (rs.map fun r => (r.k, r.v))) →
      PlainSeq T s.heap a its.toArray → its = rs.map (fun r => Value.ref r.a) → wpAny (model X.prog X.w) X.A (call (.type "dict") [.ref a]) (fun v' s' => ∃ v H', Inv X pins σ H' s' ∧ RelV v v' ∧ Q v H') X.xe s := by
    intro T a its rs rr P hs hi
    have hh := I.ok.hd hcalm
    have hn : (rs.map fun r => (r.k, r.v)).length = kvs.length := by rw [List.length_map, rr.length]
    have hm : (s.heap.objs.size == sysModules) = false := beq_eq_false_iff_ne.mpr (Nat.ne_of_gt I.big)
    rcases Bool.or_eq_true_iff.mp hk with hk | hk
    · obtain ⟨l, prs, i1, i2, i3, i4⟩ := rows_k X.prog X.w rr hk
      refine call_dict_pairs (knd := mixKind X.prog X.w) (kvs := prs) P hh ⟨hs, items_of hi rr.at⟩ ⟨by rw [i3, List.length_map], fun i key v e => ?_⟩ (by rw [hn, sizeLine_eq]; omega) fun h' tk hd' k => ?_
      · have e : (rs.map fun r => (r.k, r.v))[i]? = some (key, v) := e
        rw [List.getElem?_map] at e
        cases q' : rs[i]? with
        | none => rw [q'] at e; cases e
        | some x =>
          rw [q'] at e; cases e
          exact i4 i x q'
      · have hlen : (mergeK [] l).length ≤ sizeLine := by
          refine Nat.le_trans (length_mergeK l []) ?_
          rw [List.length_nil, Nat.zero_add, i2.length, sizeLine_eq]; omega
        have hf : H s.heap.objs.size = none := I.hok.fresh (Nat.le_refl _)
        refine ⟨.ref s.heap.objs.size, upd H s.heap.objs.size (.dK (mergeK [] l)), I.laid (t' := tk) (fun b o e => k b o (by simp) e) (Nat.le_refl _) (show ObjOk X.prog X.w _ _ _ (.dK (mergeK [] l)) from ⟨hlen, hm, merged [] prs, KV.merge i1 .nil, hd'⟩), rfl, q _ _ hf (dictAt_k upd_same (merge_put (i2.keep ?_) .nil))⟩
        exact Same.toKeep (sameUpd hf)
    · obtain ⟨ps, i1, i2, i3⟩ := rows_t rr hk
      refine call_dict_pairsH (knd := tupleKind (intKind X.prog X.w)) (ps := ps) P hh ?room ⟨hs, items_of hi rr.at⟩ ⟨by rw [i2, List.length_map], fun i key v e => ?_⟩ (fun h' hk' => i1.is I (Nat.le_refl _) fun b o hb e => hk' b o hb (by simp) e) (by rw [hn, sizeLine_eq]; omega) fun h' tk hd' k => ?_
      case room => exact tupleKind_room_in1 (by have := hu; simp only [Around.in1] at *; omega)
      · have e : (rs.map fun r => (r.k, r.v))[i]? = some (key, v) := e
        rw [List.getElem?_map] at e
        cases q' : rs[i]? with
        | none => rw [q'] at e; cases e
        | some x =>
          rw [q'] at e; cases e
          exact i3 i x q'
      · have hf : H s.heap.objs.size = none := I.hok.fresh (Nat.le_refl _)
        have hlen : (storedAllH [] ps).length ≤ sizeLine := by
          refine Nat.le_trans (storedAllH_length ps []) ?_
          rw [List.length_nil, Nat.zero_add, i1.length, sizeLine_eq]; omega
        refine ⟨.ref s.heap.objs.size, upd H s.heap.objs.size (DXo (storedAllH [] ps) s.heap.objs.size), I.laid (t' := tk) (fun b o e => k b o (by simp) e) (Nat.le_refl _) (dx_ok hm hlen hd'), rfl, q _ _ hf (dictAt_t upd_same (stored_put (i1.keep ?_) .nil))⟩
        exact Same.toKeep (sameUpd hf)
  cases d with
  | list ds' =>
    cases hd
    cases hz with
    | lst h g =>
      obtain ⟨its, rv, pl, _⟩ := I.list h.seq
      obtain ⟨rs, e1, rr⟩ := rows_of I g rv hp
      cases rx
      obtain ⟨o, n, h1, h2, h3, h4⟩ := pl
      exact key "list" _ its rs rr (.list ..) ⟨o, n, h1, h2, h3, h4⟩ e1
  | tuple ds' =>
    cases hd
    obtain ⟨a, xs, rfl, ht, g⟩ := fz_tuple hz
    obtain ⟨o, e, hdo⟩ := ht
    obtain ⟨e0, _, its, rv, o', h1, h2, n, h3⟩ := (show ObjOk X.prog X.w H s.heap a (.frz o (.tup xs)) from I.hok a _ e)
    obtain ⟨rs, e1, rr⟩ := rows_of I g rv hp
    cases rx
    rw [e0] at h1; cases h1
    exact key "tuple" _ its rs rr (.tuple ..) ⟨o, n, e0, h2, hdo, h3⟩ e1
  | _ => cases hd
end
section
variable {xr : XR} {W : WX} {X : Cx} {e : Expr} {f : Ev Rv} {p pos : Pos}
theorem sd_dictP (hcalm : X.calm = true) (hu : X.A.units + 66 < cLine) (hg : Gl X "dict") (hm : X.mg "dict" = none) (he : PE X e (tE xr X.K W f)) (hs : starEach [e] X.env = (false, eval e X.env) :: starEach [] X.env := by rfl) : PE X (.Call (.Name "dict" p) [e] [] pos) (tE xr X.K W (dictE f)) := by
  refine pe_imp (pe_callTy (opr_dict hcalm hu) hg hm (by rfl) (pa_cons (sd_frz he) pa_nil hs) (by decide) (by decide) hs (by rfl)) fun σ H Q h => tG_bind (Ra := RelD X.K) (Rc := RelR X.K) h fun m fp d m1 v H1 fp1 r r1 s1 rd q => ?_
  unfold dictK dictO at q
  cases e1 : seqOf d with
  | none => simp only [e1] at q; exact q.elim
  | some ds =>
    simp only [e1] at q
    obtain ⟨z, hz, q2⟩ := fin_ok s1 r1 q
    unfold dictP at hz
    cases e2 : pairsOf ds with
    | none => simp only [e2] at hz; cases hz
    | some kvs =>
      simp only [e2] at hz
      split at hz
      · rename_i hk
        cases hz
        exact ⟨v, d, ds, kvs, rfl, rd, e1, e2, hk.1, hk.2, fun p ob hp hd => q2 _ _ (sameUpd hp) ⟨p, rfl, hd, hp⟩⟩
      · cases hz
end
end PyE

/-! PyX: an own error over HillError(ValueError): __init__ says super().__init__(x); self.x = x -/
namespace PySem
namespace SupX
open PySem.W PySem.Calls PyProof.Rows PySem.HandSPX
/-! ### the text of __init__ -/
def iA1 (x : Str) (p1 p2 : Pos) : Arguments := { posonlyargs := [], args := [{ arg := "self", annotation := none, pos := p1 }, { arg := x, annotation := none, pos := p2 }], vararg := none, kwonlyargs := [], kw_defaults := [], kwarg := none, defaults := [] }
def iB1 (x : Str) (q1 q2 q3 q4 q5 q6 q7 q8 q9 q10 : Pos) : List Stmt := [.Expr (.Call (.Attribute (.Call (.Name "super" q1) [] [] q2) "__init__" q3) [.Name x q4] [] q5) q6, .Assign [.Attribute (.Name "self" q7) x q8] (.Name x q9) q10]
def iS1 (x : Str) : Scope := { kind := .function, names := [(PySem.Str.ofString "self", .local), (x, .local), (PySem.Str.ofString "__class__", .free), (PySem.Str.ofString "super", .globalImplicit)], isGenerator := false, isCoroutine := false, more := [] }
def iA0 (p1 : Pos) : Arguments := { posonlyargs := [], args := [{ arg := "self", annotation := none, pos := p1 }], vararg := none, kwonlyargs := [], kw_defaults := [], kwarg := none, defaults := [] }
def iB0 (q1 q2 q3 q5 q6 : Pos) : List Stmt := [.Expr (.Call (.Attribute (.Call (.Name "super" q1) [] [] q2) "__init__" q3) [] [] q5) q6]
def iS0 : Scope := { kind := .function, names := [(PySem.Str.ofString "self", .local), (PySem.Str.ofString "__class__", .free), (PySem.Str.ofString "super", .globalImplicit)], isGenerator := false, isCoroutine := false, more := [] }
/-- what the written part says of such a class, at C; of its __init__, at fI -/
structure ErrC (K : Frag) (mg : Str → Option Value) (prog : Program) (nmC : Str) (C fI : Addr) : Prop where
  gC : mg nmC = some (.ref C)
  cls : ∃ nm q N bs bm sn sub ab col dd k0 k1 k2 k3 k5, K.lookup C = some (excClassObj nm q C N bs bm true sn sub ab col dd k0 k1 k2 k3 k5 "ValueError.__new__") ∧ refsVE bm = true
  sa : findIn K (.ref C) "__setattr__" = some (some (.builtin "object.__setattr__"))
  ga : findIn K (.ref C) "__getattribute__" = some (some (.builtin "BaseException.__getattribute__"))
  gg : findIn K (.ref C) "__getattr__" = some none
  iC : findIn K (.ref C) "__init__" = some (some (.ref fI))
  tC : typeIn K (.ref fI) = some (.type "function")
  kC : keepIn K (.ref C) = true
  exC : subIn K (.ref C) (.type "BaseException") = some true
  veC : subIn K (.ref C) (.type "ValueError") = some true
  tyC : typeIn K (.ref C) = some (.type "type")
  hdC : hasDictIn K C = true
  su : ks_superIn K C C "__init__" = some (some (.builtin "ValueError.__init__"))
  opq : nsIn K cStatics "thirdparty.any" = some none
  noS : mg "super" = none
  top : (prog.main.scope.names.lookup ("super" : Str)).isSome = false
/-- its __init__ -/
def InitAt (K : Frag) (prog : Program) (qual : Str) (C fI : Addr) (A : Arguments) (B : List Stmt) (S : Scope) : Prop :=
  ∃ (oc : Value) (od : Option Addr) (doc pm : Value) (an : Option Addr) (ct : Value) (osl : Array (Option Value)) (cc cda : Addr) (ccl : Value) (cdd : Option Addr) (vs : Array Value) (ccs : Array (Option Value)) (file : Str) (tf : Tok) (cl : Value) (cld : Option Addr) (csl : Array (Option Value)),
    K.lookup fI = some ⟨oc, od, .func (ksFn "__init__" qual A B S .none .none doc pm an (.ref cda) ct cc), osl⟩ ∧ codeIn K (.ref cda) qual = true ∧
    K.lookup cda = some ⟨ccl, cdd, .fields vs, ccs⟩ ∧ vs[2]? = some (.str file tf) ∧ ((prog.main.file : Str) == file) = true ∧ K.lookup cc = some ⟨cl, cld, .cell (some (.ref C)), csl⟩

theorem one_size (v : Value) : [v].length ≤ sizeLine := by
  rw [sizeLine_eq]
  exact (by decide : 1 ≤ 16777216)
theorem call_form {o : Expr} {name : Str} {apos pos : Pos} {args : List Expr} {env : Env} (hl : (apos.endLine == pos.line) = true) (hf : methodCallForm (args.length + 0) (backTo pos (starEach args env)) [] = true) :
    eval (.Call (.Attribute o name apos) args [] pos) env = (do
      let ov ← attributeBase o name env (eval o env)
      standAt apos.atName
      let (f, first) ← holding [ov] (getMethod ov name (do return (← importBound o env).getD true))
      callWith pos f first (backTo pos (starEach args env)) []) := by
  have e : eval (.Call (.Attribute o name apos) args [] pos) env = (do
      let ov ← attributeBase o name env (eval o env)
      standAt apos.atName
      methodCall o name apos pos env ov (args.length + 0) (backTo pos (starEach args env)) []) := rfl
  rw [e]
  unfold methodCall methodCallPos calleeOf
  simp only [hl, hf, Bool.or_true, if_true, pure_bind]
structure InitEnd1 (h h' : Heap) (e C dx : Addr) (x : Str) (v : Value) : Prop where
  keep : ∀ b o, b ≠ e → h.get? b = some o → h'.get? b = some o
  obj : ∃ t1 : Addr, h'.get? e = some { cls := .ref C, dict := some dx, data := .fields #[.ref t1, .none, .none, .none, .bool false, .none] }
  dbig : h.objs.size ≤ dx
  dne : dx ≠ e
  ns : h'.Ns1 dx (fun y => if y = x then some v else none)
structure InitEnd0 (h h' : Heap) (e C : Addr) : Prop where
  keep : ∀ b o, b ≠ e → h.get? b = some o → h'.get? b = some o
  obj : ∃ t1 : Addr, h'.get? e = some (excO C t1)

section
variable {prog : Program} {w : World} {A : Around} {E : Value → Shared → Prop} {h : Heap} {g : Array GenState} {d : Drawn} {t : Nat} {os : OsState}
variable {nm q : Str} {C N : Addr} {bs bm : List Value} {hdct : Bool} {sn : List Str} {sub : List Value} {ab : Bool} {col : Option Bool} {dd : Option Addr} {k0 k1 k2 k3 k5 : Option Value}
/-- the bound ValueError.__init__, called -/
theorem call_mw {u e t0 : Addr} {rest : List Value} {Q : Value → Shared → Prop}
    (hC : h.get? C = some (excClassObj nm q C N bs bm hdct sn sub ab col dd k0 k1 k2 k3 k5 "ValueError.__new__")) (he : h.get? e = some (excO C t0)) (hu : h.get? u = some (kxs_mw "ValueError.__init__" e)) (hrest : rest.length ≤ sizeLine)
    (hq : ∀ h' t1, (∀ b o, b ≠ e → h.get? b = some o → h'.get? b = some o) → h'.get? e = some (excO C t1) → Q .none ⟨h', g, d, t, os⟩) :
    wpAny (model prog w) A (call (.ref u) rest) Q E ⟨h, g, d, t, os⟩ := by
  refine wpAny_call (codeAny_of_tree ?_)
  show wpAny _ A.in1 (callAny (.ref u) ⟨rest, []⟩) _ _ _
  simp only [callAny]
  refine wpAny_bind (wpAny_load hu ?_)
  simp only [kxs_mw, show (Value.type "method-wrapper" == Value.type "method" || Value.type "method-wrapper" == Value.type "builtin_function_or_method" || Value.type "method-wrapper" == Value.type "method-wrapper") = true by decide, if_true]
  refine W.KFB.if_so (by decide) ?_
  refine wpAny_bind (ESX.check_bound F.excBase_ValueError hC he rfl ?_)
  refine wpAny_bind (wpAny_pure (wpAny_pure ?_))
  refine ⟨Code.quiet_builtin _ (by decide +kernel), codeAny_builtin F.excBase_ValueError.initEntry ?_⟩
  rw [Around.under_plainId F.excBase_ValueError.init.plain _]
  wp_walk
  refine hq _ h.objs.size (fun b o hb ho => ?_) ?_
  · rw [Heap.get?_update_other _ _ (Ne.symm hb)]
    exact Heap.get?_push_of_some _ ho
  · rw [Heap.get?_update_self _ (Heap.get?_push_of_some _ he) rfl]
    rfl
end

section
variable {prog : Program} {w : World} {A : Around} {R : Result → Shared → Prop} {s : Shared} {K : Frag} {mg mb : Str → Option Value} {C fI : Addr} {nmC qual : Str}
theorem sup_init_limit {p1 p2 q1 q2 q3 q4 q5 q6 q7 q8 q9 q10 : Pos} (T : ErrC K mg prog nmC C fI) (hl : (q3.endLine == q5.line) = true) (hI : InitAt K prog qual C fI (iA1 "limit" p1 p2) (iB1 "limit" q1 q2 q3 q4 q5 q6 q7 q8 q9 q10) (iS1 "limit"))
    (noN : findIn K (.ref C) "limit" = some none) {e t0 : Addr} {v : Value} (X : K.In s.heap) (hlim : s.heap.NoLimit) (hG : s.heap.Ns mainGlobals mg) (hB : s.heap.Ns builtinsNs mb) (hbs : mb "super" = some (.type "super"))
    (he : s.heap.get? e = some (excO C t0)) (hne : K.lookup e = none) (hroom : A.depth < recursionLimit)
    (hq : ∀ h' tk dx, InitEnd1 s.heap h' e C dx "limit" v → R (.ok (.ret .none)) { s with heap := h', toks := tk }) :
    codeAny (model prog w) A (.call (.ref fI) ⟨[.ref e, v], []⟩) R s := by
  obtain ⟨oc, od, doc, pm, an, ct, osl, cc, cda, ccl, cdd, vs, ccs, file, tf, cl, cld, csl, ho, hcd, hcode, hvs, hfile, hcell⟩ := hI
  obtain ⟨nm, qn, N, bs, bm, sn, sub, ab, col, dd, k0, k1, k2, k3, k5, hC, hbm⟩ := T.cls
  have hcl : clsIn K C = some { name := nm, bases := bs, mro := .ref C :: bm, ns := N, qualname := qn, hasDict := true, slotNames := sn, subclasses := sub, abstract := ab, collection := col, hasDel := false } := by unfold clsIn; rw [hC] <;> rfl
  have hsub : mroIn K C (.ref C) = some true := by
    unfold mroIn
    rw [hcl, Option.bind_some, if_neg (by simp)]
    simp
  have hxC : e ≠ C := fun z => by rw [z, hC] at hne; cases hne
  have hsu := T.su
  unfold ks_superIn at hsu
  rw [hcl] at hsu
  refine ks_codeAny_call_defAt (fd := ksFn "__init__" qual _ _ _ .none .none doc pm an (.ref cda) ct cc) (binds := [("self", .ref e), ("limit", v)]) hroom (X _ _ ho) rfl hlim (codeRec_of X hcd) rfl (BindsTo.of_eq (by first | rfl | with_unfolding_all rfl)) (by intro y hy; have hy : y ∈ (iS1 "limit").names := hy; simp only [iS1, List.mem_cons, List.not_mem_nil, or_false] at hy; rcases hy with rfl | rfl | rfl | rfl <;> (intro z; cases z)) (by intro y hy; simp only [List.mem_cons, List.not_mem_nil, or_false] at hy; rcases hy with rfl | rfl <;> rfl) (fun h₁ hns k₁ => ?_)
  have X₁ : K.In h₁ := X.keeps k₁
  have he₁ := k₁ _ _ he
  have heL : s.heap.objs.size ≠ e := Nat.ne_of_gt (Heap.lt_size he)
  show _root_.PySem.wpAt _ (A.deeper (ksEnv qual (iS1 "limit") s.heap.objs.size fI (.ref cda) cc)) (.func _ (ksEnv qual (iS1 "limit") s.heap.objs.size fI (.ref cda) cc)) (execs (iB1 "limit" q1 q2 q3 q4 q5 q6 q7 q8 q9 q10) (ksEnv qual (iS1 "limit") s.heap.objs.size fI (.ref cda) cc)) _ _ _
  unfold iB1
  refine ks_wpAt_execs_cons (ks_wpAt_Expr_any ?_)
  refine ks_wpAt_MethodCall ?_ (call_form hl (by rfl))
  refine ks_wpAt_super_base (env := ksEnv qual _ s.heap.objs.size fI (.ref cda) cc) rfl rfl rfl rfl (X₁ _ _ ho) rfl rfl rfl (X₁ _ _ hcode) rfl hvs hfile T.top ?_
  refine ks_loadName_global rfl rfl (loadGlobal_builtin (env := ksEnv qual _ s.heap.objs.size fI (.ref cda) cc) (hG.keeps k₁) T.noS (hB.keeps k₁) hbs ⟨rfl, ?_⟩)
  refine wpAny_loadName_free rfl rfl rfl ⟨_, X₁ _ _ hcell, rfl⟩ ?_
  refine wpAny_loadName_local (v := .ref e) rfl rfl hns rfl ?_
  refine ks_wpAny_isType_cls (X₁ _ _ hC) rfl ⟨rfl, ?_⟩
  refine ks_wpAny_call_super (X₁ _ _ hC) rfl he₁ rfl (fun c z => by cases z) (looks_mroIn X₁ hsub) (fun h₂ hso k₂ => ?_)
  have X₂ : K.In h₂ := X₁.keeps k₂
  have I₂ : InstAt h₂ e (excO C t0) C none := ⟨k₂ _ _ he₁, rfl, rfl, trivial⟩
  refine kxs_getMethod kxs_ValueError hso (looks_opaque X₂ T.opq) (l₀ := .ref C :: bm) (fun A Q E s k q => wpAny_bind ((looks_clsIn X₂ hcl) A _ E s k (wpAny_pure q))) rfl X₂ hsu (I₂.type.andThen (looks_subIn X₂ T.veC)) hxC rfl ?_
  have k₃ : ∀ b o, h₂.get? b = some o → (h₂.push (kxs_mw "ValueError.__init__" e)).get? b = some o := fun b o z => Heap.get?_push_of_some _ z
  have hns₃ := (hns.keeps k₂).keeps k₃
  refine kxs_callWith (i := "ValueError.__init__") (x := e) rfl (evalArgs_plain ?_)
  refine Calls.spliced_cons ?_
  refine ESX.ldL (v := v) hns₃ rfl ?_ rfl rfl (by decide)
  refine Calls.spliced_nil ⟨Heap.get?_push_at rfl rfl, ?_⟩
  refine call_mw ((X₂.keeps k₃) _ _ hC) (k₃ _ _ (k₂ _ _ he₁)) (Heap.get?_push_at rfl rfl) (one_size v) (fun h₄ t1 k₄ he₄ => ?_)
  -- self.x = x
  have kk : ∀ b o, b ≠ e → s.heap.get? b = some o → h₄.get? b = some o := fun b o hb z => k₄ b o hb (k₃ _ _ (k₂ _ _ (k₁ _ _ z)))
  have X₄ : K.In h₄ := fun a o z => k₄ a o (fun y => by rw [y, hne] at z; cases z) ((X₂.keeps k₃) a o z)
  obtain ⟨oL, esL, epL, hL, rL⟩ := id hns₃
  have hns₄ : h₄.Ns s.heap.objs.size _ := ⟨oL, esL, epL, k₄ _ _ heL hL, rL⟩
  refine ks_wpAt_execs_cons (wpAt_of_wpAny ?_)
  refine plainObj_wpAny_Assign_Attribute ?_
  refine ESX.ldL (v := v) hns₄ rfl ?_ rfl rfl (by decide)
  refine ESX.ldL (v := .ref e) hns₄ rfl ?_ rfl rfl (by decide)
  refine set_plain X₄ (ox := excO C t1) (od := none) ⟨he₄, rfl, rfl, trivial⟩ T.sa ?_
  refine exc_osa X₄ he₄ hcl (show refsVE (.ref C :: bm) = true from hbm) rfl noN (fun h₅ tk₅ dx k₅ dn dne hx₅ hn₅ => ?_)
  refine wpAt_of_wpAny (wpAny_execs_nil (hq h₅ tk₅ dx ⟨fun b o hb z => k₅ b o hb (kk b o hb z), ⟨t1, hx₅⟩, ?_, dne, hn₅⟩))
  refine Nat.le_trans ?_ dn
  exact Nat.le_of_lt (Heap.lt_size (k₄ _ _ heL hL))
theorem sup_init_place {p1 p2 q1 q2 q3 q4 q5 q6 q7 q8 q9 q10 : Pos} (T : ErrC K mg prog nmC C fI) (hl : (q3.endLine == q5.line) = true) (hI : InitAt K prog qual C fI (iA1 "place" p1 p2) (iB1 "place" q1 q2 q3 q4 q5 q6 q7 q8 q9 q10) (iS1 "place"))
    (noN : findIn K (.ref C) "place" = some none) {e t0 : Addr} {v : Value} (X : K.In s.heap) (hlim : s.heap.NoLimit) (hG : s.heap.Ns mainGlobals mg) (hB : s.heap.Ns builtinsNs mb) (hbs : mb "super" = some (.type "super"))
    (he : s.heap.get? e = some (excO C t0)) (hne : K.lookup e = none) (hroom : A.depth < recursionLimit)
    (hq : ∀ h' tk dx, InitEnd1 s.heap h' e C dx "place" v → R (.ok (.ret .none)) { s with heap := h', toks := tk }) :
    codeAny (model prog w) A (.call (.ref fI) ⟨[.ref e, v], []⟩) R s := by
  obtain ⟨oc, od, doc, pm, an, ct, osl, cc, cda, ccl, cdd, vs, ccs, file, tf, cl, cld, csl, ho, hcd, hcode, hvs, hfile, hcell⟩ := hI
  obtain ⟨nm, qn, N, bs, bm, sn, sub, ab, col, dd, k0, k1, k2, k3, k5, hC, hbm⟩ := T.cls
  have hcl : clsIn K C = some { name := nm, bases := bs, mro := .ref C :: bm, ns := N, qualname := qn, hasDict := true, slotNames := sn, subclasses := sub, abstract := ab, collection := col, hasDel := false } := by unfold clsIn; rw [hC] <;> rfl
  have hsub : mroIn K C (.ref C) = some true := by
    unfold mroIn
    rw [hcl, Option.bind_some, if_neg (by simp)]
    simp
  have hxC : e ≠ C := fun z => by rw [z, hC] at hne; cases hne
  have hsu := T.su
  unfold ks_superIn at hsu
  rw [hcl] at hsu
  refine ks_codeAny_call_defAt (fd := ksFn "__init__" qual _ _ _ .none .none doc pm an (.ref cda) ct cc) (binds := [("self", .ref e), ("place", v)]) hroom (X _ _ ho) rfl hlim (codeRec_of X hcd) rfl (BindsTo.of_eq (by first | rfl | with_unfolding_all rfl)) (by intro y hy; have hy : y ∈ (iS1 "place").names := hy; simp only [iS1, List.mem_cons, List.not_mem_nil, or_false] at hy; rcases hy with rfl | rfl | rfl | rfl <;> (intro z; cases z)) (by intro y hy; simp only [List.mem_cons, List.not_mem_nil, or_false] at hy; rcases hy with rfl | rfl <;> rfl) (fun h₁ hns k₁ => ?_)
  have X₁ : K.In h₁ := X.keeps k₁
  have he₁ := k₁ _ _ he
  have heL : s.heap.objs.size ≠ e := Nat.ne_of_gt (Heap.lt_size he)
  show _root_.PySem.wpAt _ (A.deeper (ksEnv qual (iS1 "place") s.heap.objs.size fI (.ref cda) cc)) (.func _ (ksEnv qual (iS1 "place") s.heap.objs.size fI (.ref cda) cc)) (execs (iB1 "place" q1 q2 q3 q4 q5 q6 q7 q8 q9 q10) (ksEnv qual (iS1 "place") s.heap.objs.size fI (.ref cda) cc)) _ _ _
  unfold iB1
  refine ks_wpAt_execs_cons (ks_wpAt_Expr_any ?_)
  refine ks_wpAt_MethodCall ?_ (call_form hl (by rfl))
  refine ks_wpAt_super_base (env := ksEnv qual _ s.heap.objs.size fI (.ref cda) cc) rfl rfl rfl rfl (X₁ _ _ ho) rfl rfl rfl (X₁ _ _ hcode) rfl hvs hfile T.top ?_
  refine ks_loadName_global rfl rfl (loadGlobal_builtin (env := ksEnv qual _ s.heap.objs.size fI (.ref cda) cc) (hG.keeps k₁) T.noS (hB.keeps k₁) hbs ⟨rfl, ?_⟩)
  refine wpAny_loadName_free rfl rfl rfl ⟨_, X₁ _ _ hcell, rfl⟩ ?_
  refine wpAny_loadName_local (v := .ref e) rfl rfl hns rfl ?_
  refine ks_wpAny_isType_cls (X₁ _ _ hC) rfl ⟨rfl, ?_⟩
  refine ks_wpAny_call_super (X₁ _ _ hC) rfl he₁ rfl (fun c z => by cases z) (looks_mroIn X₁ hsub) (fun h₂ hso k₂ => ?_)
  have X₂ : K.In h₂ := X₁.keeps k₂
  have I₂ : InstAt h₂ e (excO C t0) C none := ⟨k₂ _ _ he₁, rfl, rfl, trivial⟩
  refine kxs_getMethod kxs_ValueError hso (looks_opaque X₂ T.opq) (l₀ := .ref C :: bm) (fun A Q E s k q => wpAny_bind ((looks_clsIn X₂ hcl) A _ E s k (wpAny_pure q))) rfl X₂ hsu (I₂.type.andThen (looks_subIn X₂ T.veC)) hxC rfl ?_
  have k₃ : ∀ b o, h₂.get? b = some o → (h₂.push (kxs_mw "ValueError.__init__" e)).get? b = some o := fun b o z => Heap.get?_push_of_some _ z
  have hns₃ := (hns.keeps k₂).keeps k₃
  refine kxs_callWith (i := "ValueError.__init__") (x := e) rfl (evalArgs_plain ?_)
  refine Calls.spliced_cons ?_
  refine ESX.ldL (v := v) hns₃ rfl ?_ rfl rfl (by decide)
  refine Calls.spliced_nil ⟨Heap.get?_push_at rfl rfl, ?_⟩
  refine call_mw ((X₂.keeps k₃) _ _ hC) (k₃ _ _ (k₂ _ _ he₁)) (Heap.get?_push_at rfl rfl) (one_size v) (fun h₄ t1 k₄ he₄ => ?_)
  -- self.x = x
  have kk : ∀ b o, b ≠ e → s.heap.get? b = some o → h₄.get? b = some o := fun b o hb z => k₄ b o hb (k₃ _ _ (k₂ _ _ (k₁ _ _ z)))
  have X₄ : K.In h₄ := fun a o z => k₄ a o (fun y => by rw [y, hne] at z; cases z) ((X₂.keeps k₃) a o z)
  obtain ⟨oL, esL, epL, hL, rL⟩ := id hns₃
  have hns₄ : h₄.Ns s.heap.objs.size _ := ⟨oL, esL, epL, k₄ _ _ heL hL, rL⟩
  refine ks_wpAt_execs_cons (wpAt_of_wpAny ?_)
  refine plainObj_wpAny_Assign_Attribute ?_
  refine ESX.ldL (v := v) hns₄ rfl ?_ rfl rfl (by decide)
  refine ESX.ldL (v := .ref e) hns₄ rfl ?_ rfl rfl (by decide)
  refine set_plain X₄ (ox := excO C t1) (od := none) ⟨he₄, rfl, rfl, trivial⟩ T.sa ?_
  refine exc_osa X₄ he₄ hcl (show refsVE (.ref C :: bm) = true from hbm) rfl noN (fun h₅ tk₅ dx k₅ dn dne hx₅ hn₅ => ?_)
  refine wpAt_of_wpAny (wpAny_execs_nil (hq h₅ tk₅ dx ⟨fun b o hb z => k₅ b o hb (kk b o hb z), ⟨t1, hx₅⟩, ?_, dne, hn₅⟩))
  refine Nat.le_trans ?_ dn
  exact Nat.le_of_lt (Heap.lt_size (k₄ _ _ heL hL))
theorem sup_init_error {p1 p2 q1 q2 q3 q4 q5 q6 q7 q8 q9 q10 : Pos} (T : ErrC K mg prog nmC C fI) (hl : (q3.endLine == q5.line) = true) (hI : InitAt K prog qual C fI (iA1 "error" p1 p2) (iB1 "error" q1 q2 q3 q4 q5 q6 q7 q8 q9 q10) (iS1 "error"))
    (noN : findIn K (.ref C) "error" = some none) {e t0 : Addr} {v : Value} (X : K.In s.heap) (hlim : s.heap.NoLimit) (hG : s.heap.Ns mainGlobals mg) (hB : s.heap.Ns builtinsNs mb) (hbs : mb "super" = some (.type "super"))
    (he : s.heap.get? e = some (excO C t0)) (hne : K.lookup e = none) (hroom : A.depth < recursionLimit)
    (hq : ∀ h' tk dx, InitEnd1 s.heap h' e C dx "error" v → R (.ok (.ret .none)) { s with heap := h', toks := tk }) :
    codeAny (model prog w) A (.call (.ref fI) ⟨[.ref e, v], []⟩) R s := by
  obtain ⟨oc, od, doc, pm, an, ct, osl, cc, cda, ccl, cdd, vs, ccs, file, tf, cl, cld, csl, ho, hcd, hcode, hvs, hfile, hcell⟩ := hI
  obtain ⟨nm, qn, N, bs, bm, sn, sub, ab, col, dd, k0, k1, k2, k3, k5, hC, hbm⟩ := T.cls
  have hcl : clsIn K C = some { name := nm, bases := bs, mro := .ref C :: bm, ns := N, qualname := qn, hasDict := true, slotNames := sn, subclasses := sub, abstract := ab, collection := col, hasDel := false } := by unfold clsIn; rw [hC] <;> rfl
  have hsub : mroIn K C (.ref C) = some true := by
    unfold mroIn
    rw [hcl, Option.bind_some, if_neg (by simp)]
    simp
  have hxC : e ≠ C := fun z => by rw [z, hC] at hne; cases hne
  have hsu := T.su
  unfold ks_superIn at hsu
  rw [hcl] at hsu
  refine ks_codeAny_call_defAt (fd := ksFn "__init__" qual _ _ _ .none .none doc pm an (.ref cda) ct cc) (binds := [("self", .ref e), ("error", v)]) hroom (X _ _ ho) rfl hlim (codeRec_of X hcd) rfl (BindsTo.of_eq (by first | rfl | with_unfolding_all rfl)) (by intro y hy; have hy : y ∈ (iS1 "error").names := hy; simp only [iS1, List.mem_cons, List.not_mem_nil, or_false] at hy; rcases hy with rfl | rfl | rfl | rfl <;> (intro z; cases z)) (by intro y hy; simp only [List.mem_cons, List.not_mem_nil, or_false] at hy; rcases hy with rfl | rfl <;> rfl) (fun h₁ hns k₁ => ?_)
  have X₁ : K.In h₁ := X.keeps k₁
  have he₁ := k₁ _ _ he
  have heL : s.heap.objs.size ≠ e := Nat.ne_of_gt (Heap.lt_size he)
  show _root_.PySem.wpAt _ (A.deeper (ksEnv qual (iS1 "error") s.heap.objs.size fI (.ref cda) cc)) (.func _ (ksEnv qual (iS1 "error") s.heap.objs.size fI (.ref cda) cc)) (execs (iB1 "error" q1 q2 q3 q4 q5 q6 q7 q8 q9 q10) (ksEnv qual (iS1 "error") s.heap.objs.size fI (.ref cda) cc)) _ _ _
  unfold iB1
  refine ks_wpAt_execs_cons (ks_wpAt_Expr_any ?_)
  refine ks_wpAt_MethodCall ?_ (call_form hl (by rfl))
  refine ks_wpAt_super_base (env := ksEnv qual _ s.heap.objs.size fI (.ref cda) cc) rfl rfl rfl rfl (X₁ _ _ ho) rfl rfl rfl (X₁ _ _ hcode) rfl hvs hfile T.top ?_
  refine ks_loadName_global rfl rfl (loadGlobal_builtin (env := ksEnv qual _ s.heap.objs.size fI (.ref cda) cc) (hG.keeps k₁) T.noS (hB.keeps k₁) hbs ⟨rfl, ?_⟩)
  refine wpAny_loadName_free rfl rfl rfl ⟨_, X₁ _ _ hcell, rfl⟩ ?_
  refine wpAny_loadName_local (v := .ref e) rfl rfl hns rfl ?_
  refine ks_wpAny_isType_cls (X₁ _ _ hC) rfl ⟨rfl, ?_⟩
  refine ks_wpAny_call_super (X₁ _ _ hC) rfl he₁ rfl (fun c z => by cases z) (looks_mroIn X₁ hsub) (fun h₂ hso k₂ => ?_)
  have X₂ : K.In h₂ := X₁.keeps k₂
  have I₂ : InstAt h₂ e (excO C t0) C none := ⟨k₂ _ _ he₁, rfl, rfl, trivial⟩
  refine kxs_getMethod kxs_ValueError hso (looks_opaque X₂ T.opq) (l₀ := .ref C :: bm) (fun A Q E s k q => wpAny_bind ((looks_clsIn X₂ hcl) A _ E s k (wpAny_pure q))) rfl X₂ hsu (I₂.type.andThen (looks_subIn X₂ T.veC)) hxC rfl ?_
  have k₃ : ∀ b o, h₂.get? b = some o → (h₂.push (kxs_mw "ValueError.__init__" e)).get? b = some o := fun b o z => Heap.get?_push_of_some _ z
  have hns₃ := (hns.keeps k₂).keeps k₃
  refine kxs_callWith (i := "ValueError.__init__") (x := e) rfl (evalArgs_plain ?_)
  refine Calls.spliced_cons ?_
  refine ESX.ldL (v := v) hns₃ rfl ?_ rfl rfl (by decide)
  refine Calls.spliced_nil ⟨Heap.get?_push_at rfl rfl, ?_⟩
  refine call_mw ((X₂.keeps k₃) _ _ hC) (k₃ _ _ (k₂ _ _ he₁)) (Heap.get?_push_at rfl rfl) (one_size v) (fun h₄ t1 k₄ he₄ => ?_)
  -- self.x = x
  have kk : ∀ b o, b ≠ e → s.heap.get? b = some o → h₄.get? b = some o := fun b o hb z => k₄ b o hb (k₃ _ _ (k₂ _ _ (k₁ _ _ z)))
  have X₄ : K.In h₄ := fun a o z => k₄ a o (fun y => by rw [y, hne] at z; cases z) ((X₂.keeps k₃) a o z)
  obtain ⟨oL, esL, epL, hL, rL⟩ := id hns₃
  have hns₄ : h₄.Ns s.heap.objs.size _ := ⟨oL, esL, epL, k₄ _ _ heL hL, rL⟩
  refine ks_wpAt_execs_cons (wpAt_of_wpAny ?_)
  refine plainObj_wpAny_Assign_Attribute ?_
  refine ESX.ldL (v := v) hns₄ rfl ?_ rfl rfl (by decide)
  refine ESX.ldL (v := .ref e) hns₄ rfl ?_ rfl rfl (by decide)
  refine set_plain X₄ (ox := excO C t1) (od := none) ⟨he₄, rfl, rfl, trivial⟩ T.sa ?_
  refine exc_osa X₄ he₄ hcl (show refsVE (.ref C :: bm) = true from hbm) rfl noN (fun h₅ tk₅ dx k₅ dn dne hx₅ hn₅ => ?_)
  refine wpAt_of_wpAny (wpAny_execs_nil (hq h₅ tk₅ dx ⟨fun b o hb z => k₅ b o hb (kk b o hb z), ⟨t1, hx₅⟩, ?_, dne, hn₅⟩))
  refine Nat.le_trans ?_ dn
  exact Nat.le_of_lt (Heap.lt_size (k₄ _ _ heL hL))
theorem sup_init_word {p1 p2 q1 q2 q3 q4 q5 q6 q7 q8 q9 q10 : Pos} (T : ErrC K mg prog nmC C fI) (hl : (q3.endLine == q5.line) = true) (hI : InitAt K prog qual C fI (iA1 "word" p1 p2) (iB1 "word" q1 q2 q3 q4 q5 q6 q7 q8 q9 q10) (iS1 "word"))
    (noN : findIn K (.ref C) "word" = some none) {e t0 : Addr} {v : Value} (X : K.In s.heap) (hlim : s.heap.NoLimit) (hG : s.heap.Ns mainGlobals mg) (hB : s.heap.Ns builtinsNs mb) (hbs : mb "super" = some (.type "super"))
    (he : s.heap.get? e = some (excO C t0)) (hne : K.lookup e = none) (hroom : A.depth < recursionLimit)
    (hq : ∀ h' tk dx, InitEnd1 s.heap h' e C dx "word" v → R (.ok (.ret .none)) { s with heap := h', toks := tk }) :
    codeAny (model prog w) A (.call (.ref fI) ⟨[.ref e, v], []⟩) R s := by
  obtain ⟨oc, od, doc, pm, an, ct, osl, cc, cda, ccl, cdd, vs, ccs, file, tf, cl, cld, csl, ho, hcd, hcode, hvs, hfile, hcell⟩ := hI
  obtain ⟨nm, qn, N, bs, bm, sn, sub, ab, col, dd, k0, k1, k2, k3, k5, hC, hbm⟩ := T.cls
  have hcl : clsIn K C = some { name := nm, bases := bs, mro := .ref C :: bm, ns := N, qualname := qn, hasDict := true, slotNames := sn, subclasses := sub, abstract := ab, collection := col, hasDel := false } := by unfold clsIn; rw [hC] <;> rfl
  have hsub : mroIn K C (.ref C) = some true := by
    unfold mroIn
    rw [hcl, Option.bind_some, if_neg (by simp)]
    simp
  have hxC : e ≠ C := fun z => by rw [z, hC] at hne; cases hne
  have hsu := T.su
  unfold ks_superIn at hsu
  rw [hcl] at hsu
  refine ks_codeAny_call_defAt (fd := ksFn "__init__" qual _ _ _ .none .none doc pm an (.ref cda) ct cc) (binds := [("self", .ref e), ("word", v)]) hroom (X _ _ ho) rfl hlim (codeRec_of X hcd) rfl (BindsTo.of_eq (by first | rfl | with_unfolding_all rfl)) (by intro y hy; have hy : y ∈ (iS1 "word").names := hy; simp only [iS1, List.mem_cons, List.not_mem_nil, or_false] at hy; rcases hy with rfl | rfl | rfl | rfl <;> (intro z; cases z)) (by intro y hy; simp only [List.mem_cons, List.not_mem_nil, or_false] at hy; rcases hy with rfl | rfl <;> rfl) (fun h₁ hns k₁ => ?_)
  have X₁ : K.In h₁ := X.keeps k₁
  have he₁ := k₁ _ _ he
  have heL : s.heap.objs.size ≠ e := Nat.ne_of_gt (Heap.lt_size he)
  show _root_.PySem.wpAt _ (A.deeper (ksEnv qual (iS1 "word") s.heap.objs.size fI (.ref cda) cc)) (.func _ (ksEnv qual (iS1 "word") s.heap.objs.size fI (.ref cda) cc)) (execs (iB1 "word" q1 q2 q3 q4 q5 q6 q7 q8 q9 q10) (ksEnv qual (iS1 "word") s.heap.objs.size fI (.ref cda) cc)) _ _ _
  unfold iB1
  refine ks_wpAt_execs_cons (ks_wpAt_Expr_any ?_)
  refine ks_wpAt_MethodCall ?_ (call_form hl (by rfl))
  refine ks_wpAt_super_base (env := ksEnv qual _ s.heap.objs.size fI (.ref cda) cc) rfl rfl rfl rfl (X₁ _ _ ho) rfl rfl rfl (X₁ _ _ hcode) rfl hvs hfile T.top ?_
  refine ks_loadName_global rfl rfl (loadGlobal_builtin (env := ksEnv qual _ s.heap.objs.size fI (.ref cda) cc) (hG.keeps k₁) T.noS (hB.keeps k₁) hbs ⟨rfl, ?_⟩)
  refine wpAny_loadName_free rfl rfl rfl ⟨_, X₁ _ _ hcell, rfl⟩ ?_
  refine wpAny_loadName_local (v := .ref e) rfl rfl hns rfl ?_
  refine ks_wpAny_isType_cls (X₁ _ _ hC) rfl ⟨rfl, ?_⟩
  refine ks_wpAny_call_super (X₁ _ _ hC) rfl he₁ rfl (fun c z => by cases z) (looks_mroIn X₁ hsub) (fun h₂ hso k₂ => ?_)
  have X₂ : K.In h₂ := X₁.keeps k₂
  have I₂ : InstAt h₂ e (excO C t0) C none := ⟨k₂ _ _ he₁, rfl, rfl, trivial⟩
  refine kxs_getMethod kxs_ValueError hso (looks_opaque X₂ T.opq) (l₀ := .ref C :: bm) (fun A Q E s k q => wpAny_bind ((looks_clsIn X₂ hcl) A _ E s k (wpAny_pure q))) rfl X₂ hsu (I₂.type.andThen (looks_subIn X₂ T.veC)) hxC rfl ?_
  have k₃ : ∀ b o, h₂.get? b = some o → (h₂.push (kxs_mw "ValueError.__init__" e)).get? b = some o := fun b o z => Heap.get?_push_of_some _ z
  have hns₃ := (hns.keeps k₂).keeps k₃
  refine kxs_callWith (i := "ValueError.__init__") (x := e) rfl (evalArgs_plain ?_)
  refine Calls.spliced_cons ?_
  refine ESX.ldL (v := v) hns₃ rfl ?_ rfl rfl (by decide)
  refine Calls.spliced_nil ⟨Heap.get?_push_at rfl rfl, ?_⟩
  refine call_mw ((X₂.keeps k₃) _ _ hC) (k₃ _ _ (k₂ _ _ he₁)) (Heap.get?_push_at rfl rfl) (one_size v) (fun h₄ t1 k₄ he₄ => ?_)
  -- self.x = x
  have kk : ∀ b o, b ≠ e → s.heap.get? b = some o → h₄.get? b = some o := fun b o hb z => k₄ b o hb (k₃ _ _ (k₂ _ _ (k₁ _ _ z)))
  have X₄ : K.In h₄ := fun a o z => k₄ a o (fun y => by rw [y, hne] at z; cases z) ((X₂.keeps k₃) a o z)
  obtain ⟨oL, esL, epL, hL, rL⟩ := id hns₃
  have hns₄ : h₄.Ns s.heap.objs.size _ := ⟨oL, esL, epL, k₄ _ _ heL hL, rL⟩
  refine ks_wpAt_execs_cons (wpAt_of_wpAny ?_)
  refine plainObj_wpAny_Assign_Attribute ?_
  refine ESX.ldL (v := v) hns₄ rfl ?_ rfl rfl (by decide)
  refine ESX.ldL (v := .ref e) hns₄ rfl ?_ rfl rfl (by decide)
  refine set_plain X₄ (ox := excO C t1) (od := none) ⟨he₄, rfl, rfl, trivial⟩ T.sa ?_
  refine exc_osa X₄ he₄ hcl (show refsVE (.ref C :: bm) = true from hbm) rfl noN (fun h₅ tk₅ dx k₅ dn dne hx₅ hn₅ => ?_)
  refine wpAt_of_wpAny (wpAny_execs_nil (hq h₅ tk₅ dx ⟨fun b o hb z => k₅ b o hb (kk b o hb z), ⟨t1, hx₅⟩, ?_, dne, hn₅⟩))
  refine Nat.le_trans ?_ dn
  exact Nat.le_of_lt (Heap.lt_size (k₄ _ _ heL hL))
theorem sup_init0 {p1 q1 q2 q3 q5 q6 : Pos} (T : ErrC K mg prog nmC C fI) (hl : (q3.endLine == q5.line) = true) (hI : InitAt K prog qual C fI (iA0 p1) (iB0 q1 q2 q3 q5 q6) iS0)
    {e t0 : Addr} (X : K.In s.heap) (hlim : s.heap.NoLimit) (hG : s.heap.Ns mainGlobals mg) (hB : s.heap.Ns builtinsNs mb) (hbs : mb "super" = some (.type "super"))
    (he : s.heap.get? e = some (excO C t0)) (hne : K.lookup e = none) (hroom : A.depth < recursionLimit)
    (hq : ∀ h' tk, InitEnd0 s.heap h' e C → R (.ok (.ret .none)) { s with heap := h', toks := tk }) :
    codeAny (model prog w) A (.call (.ref fI) ⟨[.ref e], []⟩) R s := by
  obtain ⟨oc, od, doc, pm, an, ct, osl, cc, cda, ccl, cdd, vs, ccs, file, tf, cl, cld, csl, ho, hcd, hcode, hvs, hfile, hcell⟩ := hI
  obtain ⟨nm, qn, N, bs, bm, sn, sub, ab, col, dd, k0, k1, k2, k3, k5, hC, hbm⟩ := T.cls
  have hcl : clsIn K C = some { name := nm, bases := bs, mro := .ref C :: bm, ns := N, qualname := qn, hasDict := true, slotNames := sn, subclasses := sub, abstract := ab, collection := col, hasDel := false } := by unfold clsIn; rw [hC] <;> rfl
  have hsub : mroIn K C (.ref C) = some true := by
    unfold mroIn
    rw [hcl, Option.bind_some, if_neg (by simp)]
    simp
  have hxC : e ≠ C := fun z => by rw [z, hC] at hne; cases hne
  have hsu := T.su
  unfold ks_superIn at hsu
  rw [hcl] at hsu
  refine ks_codeAny_call_defAt (fd := ksFn "__init__" qual _ _ _ .none .none doc pm an (.ref cda) ct cc) (binds := [("self", .ref e)]) hroom (X _ _ ho) rfl hlim (codeRec_of X hcd) rfl (BindsTo.of_eq (by first | rfl | with_unfolding_all rfl)) (by intro y hy; have hy : y ∈ iS0.names := hy; simp only [iS0, List.mem_cons, List.not_mem_nil, or_false] at hy; rcases hy with rfl | rfl | rfl <;> (intro z; cases z)) (by intro y hy; simp only [List.mem_cons, List.not_mem_nil, or_false] at hy; subst hy; rfl) (fun h₁ hns k₁ => ?_)
  have X₁ : K.In h₁ := X.keeps k₁
  have he₁ := k₁ _ _ he
  have heL : s.heap.objs.size ≠ e := Nat.ne_of_gt (Heap.lt_size he)
  show _root_.PySem.wpAt _ (A.deeper (ksEnv qual iS0 s.heap.objs.size fI (.ref cda) cc)) (.func _ (ksEnv qual iS0 s.heap.objs.size fI (.ref cda) cc)) (execs (iB0 q1 q2 q3 q5 q6) (ksEnv qual iS0 s.heap.objs.size fI (.ref cda) cc)) _ _ _
  unfold iB0
  refine ks_wpAt_execs_cons (ks_wpAt_Expr_any ?_)
  refine ks_wpAt_MethodCall ?_ (call_form hl (by rfl))
  refine ks_wpAt_super_base (env := ksEnv qual _ s.heap.objs.size fI (.ref cda) cc) rfl rfl rfl rfl (X₁ _ _ ho) rfl rfl rfl (X₁ _ _ hcode) rfl hvs hfile T.top ?_
  refine ks_loadName_global rfl rfl (loadGlobal_builtin (env := ksEnv qual _ s.heap.objs.size fI (.ref cda) cc) (hG.keeps k₁) T.noS (hB.keeps k₁) hbs ⟨rfl, ?_⟩)
  refine wpAny_loadName_free rfl rfl rfl ⟨_, X₁ _ _ hcell, rfl⟩ ?_
  refine wpAny_loadName_local (v := .ref e) rfl rfl hns rfl ?_
  refine ks_wpAny_isType_cls (X₁ _ _ hC) rfl ⟨rfl, ?_⟩
  refine ks_wpAny_call_super (X₁ _ _ hC) rfl he₁ rfl (fun c z => by cases z) (looks_mroIn X₁ hsub) (fun h₂ hso k₂ => ?_)
  have X₂ : K.In h₂ := X₁.keeps k₂
  have I₂ : InstAt h₂ e (excO C t0) C none := ⟨k₂ _ _ he₁, rfl, rfl, trivial⟩
  refine kxs_getMethod kxs_ValueError hso (looks_opaque X₂ T.opq) (l₀ := .ref C :: bm) (fun A Q E s k q => wpAny_bind ((looks_clsIn X₂ hcl) A _ E s k (wpAny_pure q))) rfl X₂ hsu (I₂.type.andThen (looks_subIn X₂ T.veC)) hxC rfl ?_
  have k₃ : ∀ b o, h₂.get? b = some o → (h₂.push (kxs_mw "ValueError.__init__" e)).get? b = some o := fun b o z => Heap.get?_push_of_some _ z
  have hns₃ := (hns.keeps k₂).keeps k₃
  refine kxs_callWith (i := "ValueError.__init__") (x := e) rfl (evalArgs_empty ⟨Heap.get?_push_at rfl rfl, ?_⟩)
  refine call_mw ((X₂.keeps k₃) _ _ hC) (k₃ _ _ (k₂ _ _ he₁)) (Heap.get?_push_at rfl rfl) (Nat.zero_le _) (fun h₄ t1 k₄ he₄ => ?_)
  have kk : ∀ b o, b ≠ e → s.heap.get? b = some o → h₄.get? b = some o := fun b o hb z => k₄ b o hb (k₃ _ _ (k₂ _ _ (k₁ _ _ z)))
  exact wpAt_of_wpAny (wpAny_execs_nil (hq h₄ _ ⟨kk, t1, he₄⟩))
end
end SupX
end PySem

/-! PyX: own errors made, raised, caught -/
namespace PySem
namespace SupX
open PySem.W PySem.Calls PyProof.Rows PySem.HandSPX
def InitOk1 (K : Frag) (mg : Str → Option Value) (prog : Program) (C fI : Addr) (x : Str) : Prop :=
  ∀ (w : World) (A : Around) (R : Result → Shared → Prop) (s : Shared) (mb : Str → Option Value) (e t0 : Addr) (v : Value), K.In s.heap → s.heap.NoLimit → s.heap.Ns mainGlobals mg → s.heap.Ns builtinsNs mb → mb "super" = some (.type "super") →
    s.heap.get? e = some (excO C t0) → K.lookup e = none → A.depth < recursionLimit → (∀ h' tk dx, InitEnd1 s.heap h' e C dx x v → R (.ok (.ret .none)) { s with heap := h', toks := tk }) → codeAny (model prog w) A (.call (.ref fI) ⟨[.ref e, v], []⟩) R s
def InitOk0 (K : Frag) (mg : Str → Option Value) (prog : Program) (C fI : Addr) : Prop :=
  ∀ (w : World) (A : Around) (R : Result → Shared → Prop) (s : Shared) (mb : Str → Option Value) (e t0 : Addr), K.In s.heap → s.heap.NoLimit → s.heap.Ns mainGlobals mg → s.heap.Ns builtinsNs mb → mb "super" = some (.type "super") →
    s.heap.get? e = some (excO C t0) → K.lookup e = none → A.depth < recursionLimit → (∀ h' tk, InitEnd0 s.heap h' e C → R (.ok (.ret .none)) { s with heap := h', toks := tk }) → codeAny (model prog w) A (.call (.ref fI) ⟨[.ref e], []⟩) R s
structure Err1 (K : Frag) (mg : Str → Option Value) (prog : Program) (nmC x : Str) (C : Addr) : Prop where
  ex : ∃ fI, ErrC K mg prog nmC C fI ∧ InitOk1 K mg prog C fI x
  noN : findIn K (.ref C) x = some none
structure Err0 (K : Frag) (mg : Str → Option Value) (prog : Program) (nmC : Str) (C : Addr) : Prop where
  ex : ∃ fI, ErrC K mg prog nmC C fI ∧ InitOk0 K mg prog C fI
/-- made -/
structure OwnMade1 (h h' : Heap) (e C d : Addr) (x : Str) (v : Value) : Prop where
  keep : ∀ b o, h.get? b = some o → h'.get? b = some o
  new : h.objs.size ≤ e
  obj : ∃ oe vs, h'.get? e = some oe ∧ oe.cls = .ref C ∧ oe.dict = some d ∧ oe.data = .fields vs ∧ vs[1]? = some .none
  dbig : h.objs.size ≤ d
  dne : d ≠ e
  ns : h'.Ns1 d (fun y => if y = x then some v else none)
structure OwnMade0 (h h' : Heap) (e C : Addr) : Prop where
  keep : ∀ b o, h.get? b = some o → h'.get? b = some o
  new : h.objs.size ≤ e
  obj : ∃ oe vs, h'.get? e = some oe ∧ oe.cls = .ref C ∧ oe.dict = none ∧ oe.data = .fields vs ∧ vs[1]? = some .none
section
variable {prog : Program} {w : World} {A : Around} {R : Result → Shared → Prop} {s : Shared} {K : Frag} {mg mb : Str → Option Value} {C : Addr} {nmC x : Str}
theorem fresh_none {K : Frag} {hp : Heap} (X : K.In hp) : K.lookup (hp.objs.size + 1) = none := by
  cases e : K.lookup (hp.objs.size + 1) with
  | none => rfl
  | some o =>
    have z : hp.get? (hp.objs.size + 1) = some o := X _ _ e
    exact absurd (Nat.lt_of_succ_lt (Heap.lt_size z)) (Nat.lt_irrefl _)
theorem made1 (T : Err1 K mg prog nmC x C) {v : Value} (X : K.In s.heap) (hlim : s.heap.NoLimit) (hG : s.heap.Ns mainGlobals mg) (hB : s.heap.Ns builtinsNs mb) (hbs : mb "super" = some (.type "super")) (hroom : A.depth + 1 < recursionLimit)
    (hq : ∀ h' tk e d, OwnMade1 s.heap h' e C d x v → R (.ok (.ret (.ref e))) { s with heap := h', toks := tk }) :
    codeAny (model prog w) A (.call (.ref C) ⟨[v], []⟩) R s := by
  obtain ⟨fI, TC, IO⟩ := T.ex
  obtain ⟨nm, q, N, bs, bm, sn, sub, ab, col, dd, k0, k1, k2, k3, k5, hC, hbm⟩ := TC.cls
  obtain ⟨hp, g, dr, tk, os⟩ := s
  have k : ∀ b o, hp.get? b = some o → ((hp.push (kdv_tup [v])).push (excO C hp.objs.size)).get? b = some o := fun b o e => Heap.get?_push_of_some _ (Heap.get?_push_of_some _ e)
  have hget : ((hp.push (kdv_tup [v])).push (excO C hp.objs.size)).get? (hp.objs.size + 1) = some (excO C hp.objs.size) := by heap_get
  refine call_own F.excBase_ValueError (fun X => refsVE_contains X bm hbm) (X _ _ hC) (looks_findIn X TC.iC) (fun self => bind_fn X self TC.tC) (one_size v) ?_
  refine IO w _ _ ⟨(hp.push (kdv_tup [v])).push (excO C hp.objs.size), g, dr, tk, os⟩ mb _ hp.objs.size v (X.keeps k) (hlim.keeps k) (hG.keeps k) (hB.keeps k) hbs hget (fresh_none X) ?_ fun h' tk' dx ⟨k', ⟨t1, hx⟩, dn, dne, hns⟩ => ?_
  · show A.depth + 1 < recursionLimit
    exact hroom
  · have old : ∀ b o, hp.get? b = some o → h'.get? b = some o := fun b o e => k' b o (Nat.ne_of_lt (Nat.lt_succ_of_lt (Heap.lt_size e))) (k b o e)
    have z : hp.objs.size + 1 + 1 ≤ dx := by
      first
        | (simpa only [Heap.size_push] using dn)
        | exact dn
        | (have q := dn; rw [Heap.size_push, Heap.size_push] at q; exact q)
    exact ⟨rfl, hq h' tk' (hp.objs.size + 1) dx ⟨old, Nat.le_succ _, ⟨_, _, hx, rfl, rfl, rfl, rfl⟩, Nat.le_trans (Nat.le_trans (Nat.le_succ _) (Nat.le_succ _)) z, dne, hns⟩⟩
theorem made0 (T : Err0 K mg prog nmC C) (X : K.In s.heap) (hlim : s.heap.NoLimit) (hG : s.heap.Ns mainGlobals mg) (hB : s.heap.Ns builtinsNs mb) (hbs : mb "super" = some (.type "super")) (hroom : A.depth + 1 < recursionLimit)
    (hq : ∀ h' tk e, OwnMade0 s.heap h' e C → R (.ok (.ret (.ref e))) { s with heap := h', toks := tk }) :
    codeAny (model prog w) A (.call (.ref C) ⟨[], []⟩) R s := by
  obtain ⟨fI, TC, IO⟩ := T.ex
  obtain ⟨nm, q, N, bs, bm, sn, sub, ab, col, dd, k0, k1, k2, k3, k5, hC, hbm⟩ := TC.cls
  obtain ⟨hp, g, dr, tk, os⟩ := s
  have k : ∀ b o, hp.get? b = some o → ((hp.push (kdv_tup [])).push (excO C hp.objs.size)).get? b = some o := fun b o e => Heap.get?_push_of_some _ (Heap.get?_push_of_some _ e)
  have hget : ((hp.push (kdv_tup [])).push (excO C hp.objs.size)).get? (hp.objs.size + 1) = some (excO C hp.objs.size) := by heap_get
  refine call_own F.excBase_ValueError (fun X => refsVE_contains X bm hbm) (X _ _ hC) (looks_findIn X TC.iC) (fun self => bind_fn X self TC.tC) (Nat.zero_le _) ?_
  refine IO w _ _ ⟨(hp.push (kdv_tup [])).push (excO C hp.objs.size), g, dr, tk, os⟩ mb _ hp.objs.size (X.keeps k) (hlim.keeps k) (hG.keeps k) (hB.keeps k) hbs hget (fresh_none X) ?_ fun h' tk' ⟨k', t1, hx⟩ => ?_
  · show A.depth + 1 < recursionLimit
    exact hroom
  · have old : ∀ b o, hp.get? b = some o → h'.get? b = some o := fun b o e => k' b o (Nat.ne_of_lt (Nat.lt_succ_of_lt (Heap.lt_size e))) (k b o e)
    exact ⟨rfl, hq h' tk' (hp.objs.size + 1) ⟨old, Nat.le_succ _, ⟨_, _, hx, rfl, rfl, rfl, rfl⟩⟩⟩
end
end SupX
end PySem
namespace PyE
open PySem PySem.Spec PyProof.Rows
open L2
open PySem.SupX
theorem relO_one {x : Str} {v : V} {v' : Value} (r : RelV v v') (f : Str) : RelO (List.lookup f [(x, v)]) (if f = x then some v' else none) := by
  by_cases hw : f = x
  · subst hw
    rw [if_pos rfl]
    have q : List.lookup f [(f, v)] = some v := by simp [List.lookup]
    rw [q]
    exact r
  · rw [if_neg hw]
    have qw : (f == x) = false := by simpa using hw
    have q2 : List.lookup f [(x, v)] = none := by simp [List.lookup, qw]
    rw [q2]
    trivial
section
variable {X : Cx} {C : Addr} {nmC x : Str}
/-- C(e) -/
def tMk1 (x : Str) (C : Addr) (ta : TA) : St → Hp → XK → Prop := fun σ H Q => ta σ H fun vs H1 => ∃ v, vs = [v] ∧ ∀ d, H1 d = none → Q (.ref C) (some d) (upd H1 d (.xd [(x, v)]))
theorem pmk1 {a : Expr} {ta : TA} {p pos : Pos} {k : Nat} (T : Err1 X.K X.mg X.prog nmC x C) (hr : Room k X.A) (ha : PA X [a] ta) (hg : Gl X nmC) (hd : (nmC == ("__debug__" : Str)) = false := by decide)
    (he : starEach (a :: []) X.env = (false, eval a X.env) :: starEach [] X.env := by rfl) (hpl : (backTo pos (starEach [] X.env)).any (·.1) = false := by rfl) :
    PMk X (.Call (.Name nmC p) [a] [] pos) (tMk1 x C ta) := by
  intro pins s σ H Q I h
  obtain ⟨fI, TC, _⟩ := id T.ex
  refine wpAny_Call_Name_kw (ld_glob I hg TC.gC ?_ hd)
  refine PySem.W.callWith_K (h₀ := X.base) I.ok.mod.kin TC.kC (thn (ha.run pos pins s σ H _ I h) fun us s1 hh => ?_) he hpl
  obtain ⟨vs, H1, I1, r1, v, ev, q1⟩ := hh
  subst ev
  refine ⟨I1.kIn, ?_⟩
  cases r1 with
  | cons rv rn =>
    rename_i v' us'
    cases rn
    show wpAny _ _ (call (.ref C) [v']) _ _ _
    have hlim := I1.nolimit
    obtain ⟨mb, hb1, hb2⟩ := I1.mod.blt
    have hG := I1.ok.mod.glob.keeps I1.bk
    have hB := hb1.keeps I1.bk
    obtain ⟨hp, g, dr, tk, os⟩ := s1
    refine wpAny_call (made1 T I1.kIn hlim hG hB ((hb2 "super" (by decide)).trans (by first | rfl | kernel_rfl)) (by have := hr.dp; omega) fun h' tk' e d M => ?_)
    show MkP X pins σ Q (.ref e) ⟨h', g, dr, tk', os⟩
    obtain ⟨oe, fv, hoe, hc, hd, hdat, h1⟩ := M.obj
    have hns := M.ns
    obtain ⟨G', g1, g2⟩ := restrict h' fun b => decide (b ≠ e)
    have gk : ∀ b, b ≠ e → G'.get? b = h'.get? b := fun b hb => g1 b (decide_eq_true hb)
    have ge : G'.get? e = none := g2 e (by simp)
    have old : ∀ b o, hp.get? b = some o → G'.get? b = some o := fun b o q => (gk b (Nat.ne_of_lt (Nat.lt_of_lt_of_le (Heap.lt_size q) M.new))).trans (M.keep b o q)
    have ob : ObjOk X.prog X.w (upd H1 d (.xd [(x, v)])) G' d (.xd [(x, v)]) :=
      ⟨_, hns.at (fun o q => (gk d M.dne).trans q), fun f => relO_one rv f⟩
    have J : Inv X pins σ (upd H1 d (.xd [(x, v)])) ⟨G', g, dr, tk', os⟩ := I1.laid (t' := tk') old M.dbig ob
    refine ⟨e, oe, fv, ⟨G', g, dr, tk', os⟩, _, .ref C, some d, rfl, J, fun b o q => ?_, ge, hoe, ⟨hc, hd⟩, hdat, h1, ?_, rfl, I1.bare, raises_own TC.exC TC.tyC, q1 d (I1.hok.fresh M.dbig)⟩
    · by_cases hb : b = e
      · have q' : G'.get? b = some o := q
        rw [hb, ge] at q'; cases q'
      · exact (gk b hb).symm.trans q
    · rw [upd_ne (Ne.symm M.dne)]
      exact I1.hok.fresh M.new
/-- C() -/
def tMk0 (C : Addr) : St → Hp → XK → Prop := fun σ H Q => Q (.ref C) none H
theorem pmk0 {p pos : Pos} {k : Nat} (T : Err0 X.K X.mg X.prog nmC C) (hr : Room k X.A) (hg : Gl X nmC) (hd : (nmC == ("__debug__" : Str)) = false := by decide) :
    PMk X (.Call (.Name nmC p) [] [] pos) (tMk0 C) := by
  intro pins s σ H Q I h
  obtain ⟨fI, TC, _⟩ := id T.ex
  refine wpAny_Call_Name_kw (ld_glob I hg TC.gC ?_ hd)
  refine PySem.W.callWith_K0 I.kIn TC.kC ?_
  show wpAny _ _ (call (.ref C) []) _ _ _
  have hlim := I.nolimit
  obtain ⟨mb, hb1, hb2⟩ := I.mod.blt
  have hG := I.ok.mod.glob.keeps I.bk
  have hB := hb1.keeps I.bk
  have kin := I.kIn
  obtain ⟨hp, g, dr, tk, os⟩ := s
  refine wpAny_call (made0 T kin hlim hG hB ((hb2 "super" (by decide)).trans (by first | rfl | kernel_rfl)) (by have := hr.dp; omega) fun h' tk' e M => ?_)
  show MkP X pins σ Q (.ref e) ⟨h', g, dr, tk', os⟩
  obtain ⟨oe, fv, hoe, hc, hd, hdat, h1⟩ := M.obj
  have hne : hp.get? e = none := Heap.get?_none_of_le M.new
  exact ⟨e, oe, fv, ⟨hp, g, dr, tk, os⟩, H, .ref C, none, rfl, I, M.keep, hne, hoe, ⟨hc, hd⟩, hdat, h1, I.hok.fresh M.new, rfl, I.bare, raises_own TC.exC TC.tyC, h⟩
end
end PyE

/-! PyX: try with several clauses, each with a name or without -/
namespace PyE
open PySem PySem.Spec PyProof.Rows
open L2
/-- a clause: its class, the slot of its name, what its suite does -/
structure Cl where
  c : Value
  i : Option Nat
  ts : Addr → Value → Option Addr → TS
/-- the ends of a suite whose name is taken away behind it -/
def endsAs (D : Ends) : Option Nat → Ends
  | none => D
  | some i => { nx := fun σ' H' => D.nx (σ'.set i none) H', rt := D.rt, bk := fun σ' H' => D.bk (σ'.set i none) H', ct := fun σ' H' => D.ct (σ'.set i none) H' }
def stAs (σ : St) (a : Addr) : Option Nat → St
  | none => σ
  | some i => σ.set i (some (.ref a))
def wMix (K : PySem.W.Frag) (Wout : WX) (D : Ends) : List Cl → WX
  | [] => Wout
  | cl :: r => fun cls d σ H => ∃ b, PySem.W.exmOne K cls cl.c = some b ∧ (b = true → ∀ a, H a = none → cl.ts a cls d (endsAs D cl.i) (stAs σ a cl.i) H) ∧ (b = false → wMix K Wout D r cls d σ H)
inductive ClsOk (X : Cx) : List ExceptHandler → List Cl → Prop
  | nil : ClsOk X [] []
  | only {x : Str} {c : Value} {ts : Addr → Value → Option Addr → TS} {b₀ : Stmt} {suite : List Stmt} {np pos' : Pos} {hds : List ExceptHandler} {l : List Cl} (hc : Names X x c)
      (hsu : ∀ (a : Addr) (oe : Obj) (cls : Value) (d : Option Addr) (pn : List (Addr × Obj)), Zc cls d oe → (∃ vs, oe.data = .fields vs) → PSs (X.suite a ((a, oe) :: pn)) (b₀ :: suite) (ts a cls d)) (r : ClsOk X hds l) :
      ClsOk X (.ExceptHandler (some (.Name x np)) none (b₀ :: suite) pos' :: hds) (⟨c, none, ts⟩ :: l)
  | as {x n : Str} {i : Nat} {c : Value} {ts : Addr → Value → Option Addr → TS} {b₀ : Stmt} {suite : List Stmt} {np pos' : Pos} {hds : List ExceptHandler} {l : List Cl} (hc : Names X x c) (hi : X.N[i]? = some n) (hln : X.env.kindOf n = some .local)
      (hsu : ∀ (a : Addr) (oe : Obj) (cls : Value) (d : Option Addr) (pn : List (Addr × Obj)), Zc cls d oe → (∃ vs, oe.data = .fields vs) → PSs (X.suite a ((a, oe) :: pn)) (b₀ :: suite) (ts a cls d)) (r : ClsOk X hds l) :
      ClsOk X (.ExceptHandler (some (.Name x np)) (some n) (b₀ :: suite) pos' :: hds) (⟨c, some i, ts⟩ :: l)
section
variable {X : Cx} {body : List Stmt} {h₀ : ExceptHandler} {hds : List ExceptHandler} {l : List Cl} {pos : Pos} {tb : WX → TS} {Wout : WX}
theorem ps_try_mix (hst : X.stack = X.env :: X.outer) (hfm : X.env.frame = some X.env.locals) (hN : X.N.Nodup) (tk : Takes X Wout)
    (hbd : ∀ (W : WX) (pn : List (Addr × Obj)) (xe : Value → Shared → Prop), Takes (X.tr pn xe) W → PassesOwn (model X.prog X.w) X.A X.env xe → PSs (X.tr pn xe) body (tb W))
    (hcl : ClsOk X (h₀ :: hds) l) : PS X (.Try body (h₀ :: hds) [] [] pos) (fun D σ H => tb (wMix X.K Wout D l) D σ H) := by
  refine ⟨fun pins s σ H D I h => ?_⟩
  have okX := I.ok
  have fr1 : X.A.frames = some (X.env :: X.outer) := by rw [okX.frames, hst]
  have catch_ : ∀ (u : Value) (s' : Shared), XE (X.tr (X.pn ++ pins) fun e s₁ => wpAny (model X.prog X.w) X.A (noteFrame e X.env) (fun _ s₂ => wpAny (model X.prog X.w) X.A (setFlight e none) (fun _ s₃ =>
      wpAny (model X.prog X.w) X.A (handleBy e X.env (h₀ :: hds)) (SP X pins D) X.xe s₃) X.xe s₂) X.xe s₁) (wMix X.K Wout D l) u s' →
      wpAny (model X.prog X.w) X.A (noteFrame u X.env) (fun _ s₂ => wpAny (model X.prog X.w) X.A (setFlight u none) (fun _ s₃ => wpAny (model X.prog X.w) X.A (handleBy u X.env (h₀ :: hds)) (SP X pins D) X.xe s₃) X.xe s₂) X.xe s' := by
    rintro u s' ⟨a, B, sI, pins', σ', H', cls, d, rfl, J', nb, up, sky, na, os, ag, w⟩
    have J0 : Inv X pins σ' H' sI := J'.ofTry okX
    have sky1 : Sky B (X.env :: X.outer) a (Zc cls d) X.env.locals s'.heap := by rw [← hst]; exact sky
    refine Sky.land Zc.steady fr1 hfm sky1 fun h3 fl3 up3 => ?_
    have J3 : Inv X pins σ' H' { s' with heap := h3 } := J0.landed nb fl3.1 (up.trans up3) os ag
    obtain ⟨oe3, vs3, he3, hz3, hd3⟩ := fl3.there
    have nfr : a ∉ frs (X.env :: X.outer) := fun hm => by
      obtain ⟨_, o', e', hnf⟩ := fl3.2.2.1.mem hm
      rw [he3] at e'
      cases e'
      exact hnf _ hd3
    have nL : a ≠ X.env.locals := fun z => nfr (List.mem_filterMap.mpr ⟨X.env, List.mem_cons_self, by rw [hfm, z]⟩)
    have nF : a ∉ X.fs := fun hm => by
      obtain ⟨e, he, q⟩ := List.mem_filterMap.mp hm
      exact nfr (List.mem_filterMap.mpr ⟨e, List.mem_cons_of_mem _ he, q⟩)
    have S3 := J3.suite he3 hd3 na nL nF
    have LT : PySem.W.Looks (model X.prog X.w) h3 (typeOf (.ref a)) cls := fun A Q E s k q => wpAny_typeOf_ref (k _ _ he3) (by rw [hz3.1]; exact q)
    have test : ∀ {x : Str} {c : Value} {np : Pos} {Q : Value → Shared → Prop} {E : Value → Shared → Prop}, Names X x c → Q c { s' with heap := h3 } → wpAny (model X.prog X.w) (X.A.mark (some (.ref a))) (eval (.Name x np) X.env) Q E { s' with heap := h3 } := fun {x c np Q E} hc q => by
      obtain ⟨hg, hdbg, hm | ⟨hm, hv, hnn⟩⟩ := hc
      · exact ld_glob (X := X.suite a ((a, oe3) :: (X.pn ++ pins))) S3 hg hm q hdbg
      · exact ld_blt (X := X.suite a ((a, oe3) :: (X.pn ++ pins))) S3 hg hm hv q hnn hdbg
    have go : ∀ {hs2 : List ExceptHandler} {l2 : List Cl}, ClsOk X hs2 l2 → wMix X.K Wout D l2 cls d σ' H' →
        wpAny (model X.prog X.w) X.A (handleBy (.ref a) X.env hs2) (SP X pins D) X.xe { s' with heap := h3 } := by
      intro hs2 l2 hk
      induction hk with
      | nil =>
        intro w
        refine wpAny_handleBy_nil ?_
        obtain ⟨_, _, _, oe, vs, T, oT, tss, he, hz, hd, h1, hr⟩ := id fl3
        unfold PySem.passOn
        refine wpAny_bind (wpAny_field he hd h1 ?_)
        rw [if_neg (show ¬ ((Value.ref T == Value.none) = true) from by simp)]
        have last : wpAny (model X.prog X.w) X.A (setFlight (.ref a) X.env.frame) (fun _ s4 => wpAny (model X.prog X.w) X.A (throw (.ref a) : Sem Flow) (SP X pins D) X.xe s4) X.xe { s' with heap := h3 } := by
          rw [hfm]
          refine HandSPX.setFlight_upZ fl3 fun h4 hh4 up4 => wpAny_throw (tk _ _ ?_)
          exact ⟨a, B, sI, pins, σ', H', cls, d, rfl, J0, nb, (up.trans up3).trans up4, .inr (.inr (by rw [hst]; exact hh4)), na, os, ag, w⟩
        first
          | exact wpAny_bind (wpAny_pure (wpAny_bind last))
          | exact wpAny_bind last
      | @only x c ts b₀ suite np pos' hds2 l3 hc hsu r ih =>
        intro w
        obtain ⟨b, hb1, hyes, hno⟩ := w
        refine wpAny_handleBy_cons (codeAny_handlers_test ?_) (by intro q; cases q)
        refine test hc ((PySem.W.exm_one (M := model X.prog X.w) (J3.kIn) LT hb1).here ?_)
        cases b with
        | true =>
          refine codeAny_handlers_suite ?_
          refine HandSPX.lands_againZ fl3 fun h4 fl4 up4 => ?_
          have J4 : Inv X pins σ' H' { s' with heap := h4 } := J0.landed nb fl4.1 ((up.trans up3).trans up4) os ag
          obtain ⟨oe4, vs4, he4, hz4, hd4⟩ := fl4.there
          have S4 := J4.suite he4 hd4 na nL nF
          refine wpAny_mono ((hsu a oe4 cls d (X.pn ++ pins) hz4 ⟨_, hd4⟩).run [] _ _ H' _ S4 (hyes rfl a na)) (fun f s6 hsp => ?_) (fun _ _ z => False.elim z)
          cases f with
          | ret u =>
            obtain ⟨v6, σ6, H6, S6, r6, q6⟩ := hsp
            exact ⟨_, _, _, S6.unsuite okX, r6, q6⟩
          | _ =>
            obtain ⟨σ6, H6, S6, q6⟩ := hsp
            exact ⟨_, _, S6.unsuite okX, q6⟩
        | false =>
          show wpAny _ X.A (handleBy (.ref a) X.env hds2) _ _ _
          exact ih (hno rfl)
      | @as x n i c ts b₀ suite np pos' hds2 l3 hc hi hln hsu r ih =>
        intro w
        obtain ⟨b, hb1, hyes, hno⟩ := w
        refine wpAny_handleBy_cons (codeAny_handlers_test ?_) (by intro q; cases q)
        refine test hc ((PySem.W.exm_one (M := model X.prog X.w) (J3.kIn) LT hb1).here ?_)
        cases b with
        | true =>
          refine codeAny_handlers_suite_as ?_
          refine HandSPX.lands_againZ fl3 fun h4 fl4 up4 => ?_
          have J4 : Inv X pins σ' H' { s' with heap := h4 } := J0.landed nb fl4.1 ((up.trans up3).trans up4) os ag
          obtain ⟨oe4, vs4, he4, hz4, hd4⟩ := fl4.there
          have S4 := J4.suite he4 hd4 na nL nF
          refine store_ok (X := X.suite a ((a, oe4) :: (X.pn ++ pins))) (v := .ref a) S4 hN hi (.inl hln) rfl (fun s5 S5 => ?_) (.inr hln)
          refine wpAny_mono ((hsu a oe4 cls d (X.pn ++ pins) hz4 ⟨_, hd4⟩).run [] s5 _ H' _ S5 (hyes rfl a na)) (fun f s6 hsp => ?_) (fun _ _ z => False.elim z)
          have gone : ∀ {σ6 : St} {H6 : Hp} {Q : Shared → Prop}, Inv (X.suite a ((a, oe4) :: (X.pn ++ pins))) [] σ6 H6 s6 → (∀ s7, Inv X pins (σ6.set i none) H6 s7 → Q s7) →
              wpAny (model X.prog X.w) X.A (do bindName X.env n .none; unbindBehindTheSuite X.env n pos') (fun _ s7 => Q s7) X.xe s6 := fun {σ6 H6 Q} S6 hq => gone_ok (S6.unsuite okX) hN hi hln hq
          cases f with
          | ret u =>
            obtain ⟨v6, σ6, H6, S6, r6, q6⟩ := hsp
            exact gone S6 fun s7 J7 => ⟨_, _, _, J7, r6, q6⟩
          | _ =>
            obtain ⟨σ6, H6, S6, q6⟩ := hsp
            exact gone S6 fun s7 J7 => ⟨_, _, J7, q6⟩
        | false =>
          show wpAny _ X.A (handleBy (.ref a) X.env hds2) _ _ _
          exact ih (hno rfl)
    exact go hcl w
  refine wpAny_Try_except (wpAny_mono ((hbd (wMix X.K Wout D l) (X.pn ++ pins) _ catch_ PassesOwn.looking).run [] s σ H D (I.toTry _) h) (fun f s1 hsp => ?_) (fun e s1 he => he))
  cases f with
  | next =>
    obtain ⟨σ', H', J', q⟩ := hsp
    exact wpAny_execs_nil ⟨σ', H', J'.ofTry okX, q⟩
  | ret u =>
    obtain ⟨v, σ', H', J', r, q⟩ := hsp
    exact ⟨v, σ', H', J'.ofTry okX, r, q⟩
  | _ =>
    obtain ⟨σ', H', J', q⟩ := hsp
    exact ⟨σ', H', J'.ofTry okX, q⟩
end
end PyE

/-! PyE: own errors: how they lie, raise, try .. except .. return -/
namespace PyE
open PySem PySem.Spec PyProof.Rows
open L2
open PySem.SupX
def errFld (c : Str) : Str := if c = "BadText" ∨ c = "BadLog" then "place" else if c = "BadHill" then "error" else if c = "Refused" then "word" else "limit"
/-- an own error, as it lies -/
def xrE (ns : List Str) (mg : Str → Option Value) : XR := fun K H e c d => e.cls ∈ ns ∧ ∃ C, mg e.cls = some (.ref C) ∧ c = .ref C ∧ match e.arg with
  | none => d = none
  | some x => ∃ a v, d = some a ∧ H a = some (.xd [(errFld e.cls, v)]) ∧ Fz K H v x
def xrT : XR := fun _ _ _ _ _ => True
theorem xrE.same {ns : List Str} {mg : Str → Option Value} {K : PySem.W.Frag} {H H' : Hp} {e : Ex} {c : Value} {d : Option Addr} (s : Same H H') (x : xrE ns mg K H e c d) : xrE ns mg K H' e c d := by
  obtain ⟨h1, C, h2, h3, h4⟩ := x
  refine ⟨h1, C, h2, h3, ?_⟩
  cases ea : e.arg with
  | none => simp only [ea] at h4 ⊢; exact h4
  | some y =>
    simp only [ea] at h4 ⊢
    obtain ⟨a, v, q1, q2, q3⟩ := h4
    exact ⟨a, v, q1, s _ _ q2, q3.keep (PyE.Same.toKeep s)⟩
/-! ### raise -/
def raise1 (c : Str) (f : Ev Rv) : Sf := bnd (frzE f) fun d m => .ex ⟨c, some d⟩ m
def raise0 (c : Str) : Sf := fun m => .ex ⟨c, none⟩ m
section
variable {ns : List Str} {W : WX} {X : Cx} {ro : List Nat} {σ0 : St} {a : Expr} {f : Ev Rv} {nmC : Str} {C : Addr} {p pos pos2 : Pos} {k : Nat}
theorem ss_raise1 (T : Err1 X.K X.mg X.prog nmC (errFld nmC) C) (hn : nmC ∈ ns) (hr : Room k X.A) (hc : X.calm = true) (tk : Takes X W) (ha : PE X a (tE (xrE ns X.mg) X.K W f)) (hg : Gl X nmC) (hd : (nmC == ("__debug__" : Str)) = false := by decide)
    (he : starEach (a :: []) X.env = (false, eval a X.env) :: starEach [] X.env := by rfl) (hpl : (backTo pos (starEach [] X.env)).any (·.1) = false := by rfl) :
    PS X (.Raise (some (.Call (.Name nmC p) [a] [] pos)) none pos2) (tS (xrE ns X.mg) X.K W ro σ0 (raise1 nmC f)) := by
  obtain ⟨fI, TC, _⟩ := id T.ex
  refine ps_imp (ps_raise hc tk (pmk1 T hr (pa_cons (sd_frz ha) pa_nil he) hg hd he hpl)) fun D σ H q => ?_
  refine tS_bind0 (Ra := RelD X.K) q fun fp d m1 v H1 fp1 r1 s1 k z p => ⟨v, rfl, fun b hb => ?_⟩
  have sm : Same H1 (upd H1 b (.xd [(errFld nmC, v)])) := sameUpd hb
  exact p (.ref C) (some b) σ _ fp1 (r1.same sm) (s1.trans (.same sm)) k ⟨hn, C, TC.gC, rfl, b, v, rfl, upd_same, Fz.keep (PyE.Same.toKeep sm) z⟩
theorem ss_raise0 (T : Err0 X.K X.mg X.prog nmC C) (hn : nmC ∈ ns) (hr : Room k X.A) (hc : X.calm = true) (tk : Takes X W) (hg : Gl X nmC) (hd : (nmC == ("__debug__" : Str)) = false := by decide) :
    PS X (.Raise (some (.Call (.Name nmC p) [] [] pos)) none pos2) (tS (xrE ns X.mg) X.K W ro σ0 (raise0 nmC)) := by
  obtain ⟨fI, TC, _⟩ := id T.ex
  exact ps_imp (ps_raise hc tk (pmk0 T hr hg hd)) fun D σ H ⟨m, fp, r, k, p⟩ => p (.ref C) none σ H fp r (.refl _ _) k ⟨hn, C, TC.gC, rfl, rfl⟩
end
/-! ### what a clause's suite returns -/
abbrev He := Ex → Option PyData
structure HdE (ns : List Str) (X : Cx) (i : Option Nat) (E : Expr) (h : He) : Prop where
  ex : ∃ te : Addr → Value → Option Addr → TE, (∀ (a : Addr) (oe : Obj) (cls : Value) (d : Option Addr) (pn : List (Addr × Obj)), Zc cls d oe → (∃ vs, oe.data = .fields vs) → PE (X.suite a ((a, oe) :: pn)) E (te a cls d)) ∧
    ∀ (a : Addr) (cls : Value) (d : Option Addr) (e : Ex) (σ : St) (H : Hp) (Q : VK) (dat : PyData), xrE ns X.mg X.K H e cls d → h e = some dat → (∀ j, i = some j → σ[j]? = some (some (.ref a))) → (∀ v H', Same H H' → Fz X.K H' v dat → Q v H') → te a cls d σ H Q
structure HdEs (ns : List Str) (X : Cx) (i : Option Nat) (es : List Expr) (h : Ex → Option (List PyData)) : Prop where
  len : ∀ e ds, h e = some ds → ds.length = es.length
  ex : ∃ ta : Addr → Value → Option Addr → TA, (∀ (a : Addr) (oe : Obj) (cls : Value) (d : Option Addr) (pn : List (Addr × Obj)), Zc cls d oe → (∃ vs, oe.data = .fields vs) → PA (X.suite a ((a, oe) :: pn)) es (ta a cls d)) ∧
    ∀ (a : Addr) (cls : Value) (d : Option Addr) (e : Ex) (σ : St) (H : Hp) (Q : List V → Hp → Prop) (ds : List PyData), xrE ns X.mg X.K H e cls d → h e = some ds → (∀ j, i = some j → σ[j]? = some (some (.ref a))) → (∀ vs H', Same H H' → FzAll X.K H' vs ds → Q vs H') → ta a cls d σ H Q
def hdD (d : PyData) : He := fun _ => some d
def hdArg (c : Str) : He := fun e => if e.cls = c then e.arg else none
def hdNil : Ex → Option (List PyData) := fun _ => some []
def hdCons (h : He) (hs : Ex → Option (List PyData)) : Ex → Option (List PyData) := fun e => match h e, hs e with
  | some d, some ds => some (d :: ds)
  | _, _ => none
def hdTup (hs : Ex → Option (List PyData)) : He := fun e => (hs e).map .tuple
def hdLst (hs : Ex → Option (List PyData)) : He := fun e => (hs e).map .list
section
variable {ns : List Str} {X : Cx} {i : Option Nat} {pos : Pos} {E : Expr} {es : List Expr} {h : He} {hs : Ex → Option (List PyData)}
theorem he_of {v : V} {d : PyData} (hz : ∀ K H, Fz K H v d) (hp : ∀ Y : Cx, PE Y E (tC v)) : HdE ns X i E (hdD d) :=
  ⟨fun _ _ _ => tC v, fun a oe cls dd pn _ _ => hp _, fun a cls dd e σ H Q dat _ eh _ q => by cases eh; exact q v H (fun _ _ z => z) (hz _ _)⟩
theorem he_str {x : Str} {j : Nat} : HdE ns X i (.Constant (.str x) j pos) (hdD (.str x)) := he_of (fun _ _ => .str x) fun _ => pe_str
theorem he_int {x : Int} {j : Nat} : HdE ns X i (.Constant (.int x) j pos) (hdD (.int x)) := he_of (fun _ _ => .int x) fun _ => pe_int
theorem he_bl {x : Bool} {j : Nat} : HdE ns X i (.Constant (.bool x) j pos) (hdD (.bool x)) := he_of (fun _ _ => .bl x) fun _ => pe_bl
theorem he_non {j : Nat} : HdE ns X i (.Constant .none j pos) (hdD .none) := he_of (fun _ _ => .non) fun _ => pe_non
theorem hes_nil : HdEs ns X i [] hdNil := ⟨fun e ds q => by cases q; rfl, fun _ _ _ => tNil, fun a oe cls dd pn _ _ => pa_nil, fun a cls dd e σ H Q ds _ eh _ q => by cases eh; exact q [] H (fun _ _ z => z) .nil⟩
theorem hes_cons (h1 : HdE ns X i E h) (h2 : HdEs ns X i es hs) (hst : ∀ a pn, starEach (E :: es) (X.suite a pn).env = (false, eval E (X.suite a pn).env) :: starEach es (X.suite a pn).env := by intro _ _; rfl) : HdEs ns X i (E :: es) (hdCons h hs) := by
  obtain ⟨te, p1, q1⟩ := h1.ex
  obtain ⟨ta, p2, q2⟩ := h2.ex
  refine ⟨fun e ds eh => ?_, fun a cls d => tCons (te a cls d) (ta a cls d), fun a oe cls d pn hz hf => pa_cons (p1 a oe cls d pn hz hf) (p2 a oe cls d pn hz hf) (hst a _), fun a cls d e σ H Q ds hx eh hj q => ?_⟩
  all_goals
    unfold hdCons at eh
    cases e1 : h e with
    | none => simp only [e1] at eh; cases eh
    | some d1 => ?_
    cases e2 : hs e with
    | none => simp only [e1, e2] at eh; cases eh
    | some ds1 => ?_
    simp only [e1, e2] at eh
    cases eh
  · rw [List.length_cons, List.length_cons, h2.len e ds1 e2]
  · exact q1 a cls d e σ H _ d1 hx e1 hj fun v H1 sm z1 => q2 a cls d e σ H1 _ ds1 (hx.same sm) e2 hj fun vs H2 sm2 z2 => q (v :: vs) H2 (fun b u z => sm2 _ _ (sm _ _ z)) (.cons (z1.keep (PyE.Same.toKeep sm2)) z2)
theorem he_tup {k : Nat} (h1 : HdEs ns X i es hs) (hl : es.length ≤ 100 := by decide) : HdE ns X i (.Tuple es k pos) (hdTup hs) := by
  obtain ⟨ta, p1, q1⟩ := h1.ex
  refine ⟨_, fun a oe cls d pn hz hf => pe_tupF (p1 a oe cls d pn hz hf), fun a cls d e σ H Q dat hx eh hj q => ?_⟩
  unfold hdTup at eh
  cases e1 : hs e with
  | none => rw [e1] at eh; cases eh
  | some ds =>
    rw [e1] at eh; cases eh
    refine q1 a cls d e σ H _ ds hx e1 hj fun vs H1 sm z => ⟨?_, fun p o hp ho => ?_⟩
    · rw [z.length, h1.len e ds e1, sizeLine_eq]; omega
    · have sm2 : Same H1 (upd H1 p (.frz o (.tup vs))) := sameUpd hp
      exact q _ _ (fun b u z => sm2 _ _ (sm _ _ z)) (.tup ⟨o, upd_same, ho⟩ (z.keep (PyE.Same.toKeep sm2)))
/-- a new list, frozen -/
theorem pe_lstF {Y : Cx} {t : TA} (h : PA Y es t) : PE Y (.List es pos) (fun σ H Q => t σ H fun xs H1 => xs.length ≤ sizeLine ∧ ∀ p o, H1 p = none → Q (.ref p) (upd H1 p (.frz o (.lst xs)))) := by
  refine ⟨fun pins s σ H Q I hq => wpAny_List_spliced (thn (h.run pos pins s σ H _ I hq) fun us s1 ⟨xs, H1, I1, r, z, q⟩ => ⟨by rw [← r.length]; exact z, ?_⟩)⟩
  have e := Heap.get?_push_size s1.heap (o := { cls := .type "list", data := .seq us.toArray }) rfl
  exact ⟨.ref s1.heap.objs.size, upd H1 s1.heap.objs.size (.frz { cls := .type "list", data := .seq us.toArray } (.lst xs)), I1.laid (t' := s1.toks) (fun b u e => Heap.get?_push_of_some _ e) (Nat.le_refl _) ⟨e, z, us, _, r, e⟩, rfl, q _ _ (I1.hok.fresh (Nat.le_refl _))⟩
theorem he_lst (h1 : HdEs ns X i es hs) (hl : es.length ≤ 100 := by decide) : HdE ns X i (.List es pos) (hdLst hs) := by
  obtain ⟨ta, p1, q1⟩ := h1.ex
  refine ⟨_, fun a oe cls d pn hz hf => pe_lstF (p1 a oe cls d pn hz hf), fun a cls d e σ H Q dat hx eh hj q => ?_⟩
  unfold hdLst at eh
  cases e1 : hs e with
  | none => rw [e1] at eh; cases eh
  | some ds =>
    rw [e1] at eh; cases eh
    refine q1 a cls d e σ H _ ds hx e1 hj fun vs H1 sm z => ⟨by rw [z.length, h1.len e ds e1, sizeLine_eq]; omega, fun p o hp => ?_⟩
    have sm2 : Same H1 (upd H1 p (.frz o (.lst vs))) := sameUpd hp
    exact q _ _ (fun b u z => sm2 _ _ (sm _ _ z)) (.lst (.inl ⟨o, upd_same⟩) (z.keep (PyE.Same.toKeep sm2)))
/-- err.f, err the error that the suite holds -/
theorem he_fld {C : Addr} {nmC n x : Str} {j : Nat} {np : Pos} (T : XfC X.K C) (hno : PySem.W.findIn X.K (.ref C) x = some none) (hC : X.mg nmC = some (.ref C)) (hx : x = errFld nmC) (hj : X.N[j]? = some n) (hv : Vis X.env.scope n) (hd : (n == ("__debug__" : Str)) = false := by decide) (hcd : (n == ("__classdict__" : Str)) = false := by decide)
    (hb : attributeBase (.Name n np) x X.env (eval (.Name n np) X.env) = eval (.Name n np) X.env := by rfl) : HdE ns X (some j) (.Attribute (.Name n np) x pos) (hdArg nmC) := by
  refine ⟨fun a cls d => tXf a cls d C x (tVar j), fun a oe cls d pn hz hf => pe_xf (X := X) T hno hz hf (pe_var (X := X.suite a ((a, oe) :: pn)) (i := j) hj hv hd hcd) hb, fun a cls d e σ H Q dat hx2 eh hs q => ?_⟩
  unfold hdArg at eh
  split at eh
  · rename_i ec
    obtain ⟨_, C', h2, h3, h4⟩ := hx2
    rw [eh] at h4
    simp only at h4
    obtain ⟨b, v, q1, q2, q3⟩ := h4
    rw [ec, hC] at h2
    cases h2
    refine ⟨_, hs j rfl, rfl, h3, b, _, v, q1, q2, ?_, q v H (fun _ _ z => z) q3⟩
    rw [hx, ec]
    simp [List.lookup]
  · cases eh
end
/-! ### try .. except .. return -/
def catches (c n : Str) : Bool := n == "HillError" || c == n
/-- the clauses: class, what is returned -/
abbrev Hs := List (Str × Option Nat × He)
def hdAt : Option Nat → Sm → Bool
  | none, _ => true
  | some i, m => decide (i < m.length)
def hdGo : Hs → Ex → Sf
  | [], e => fun m => .ex e m
  | (n, i, h) :: r, e => if catches e.cls n = true then fun m => (if hdAt i m = true then match h e with | some d => .ok (.rt (.fz d)) m | none => .no else .no) else hdGo r e
def tryS (g : Sf) (hs : Hs) : Sf := fun m => match g m with
  | .ex e m1 => hdGo hs e m1
  | r => r
/-- the clauses as they lie -/
inductive HdsE (ns : List Str) (X : Cx) : List ExceptHandler → Hs → Prop
  | nil : HdsE ns X [] []
  | only {x : Str} {C : Addr} {h : He} {E : Expr} {np rp pos' : Pos} {hds : List ExceptHandler} {hs : Hs} (hc : Names X x (.ref C)) (hx : ∀ H e c d, xrE ns X.mg X.K H e c d → PySem.W.exmOne X.K c (.ref C) = some (catches e.cls x)) (hh : HdE ns X none E h) (r : HdsE ns X hds hs) :
      HdsE ns X (.ExceptHandler (some (.Name x np)) none [.Return (some E) rp] pos' :: hds) ((x, none, h) :: hs)
  | as {x n : Str} {C : Addr} {i : Nat} {h : He} {E : Expr} {np rp pos' : Pos} {hds : List ExceptHandler} {hs : Hs} (hc : Names X x (.ref C)) (hx : ∀ H e c d, xrE ns X.mg X.K H e c d → PySem.W.exmOne X.K c (.ref C) = some (catches e.cls x)) (hi : X.N[i]? = some n) (hln : X.env.kindOf n = some .local) (hh : HdE ns X (some i) E h) (r : HdsE ns X hds hs) :
      HdsE ns X (.ExceptHandler (some (.Name x np)) (some n) [.Return (some E) rp] pos' :: hds) ((x, some i, h) :: hs)
section
variable {ns : List Str} {W : WX} {X : Cx} {ro : List Nat} {σ0 : St} {body : List Stmt} {h₀ : ExceptHandler} {hds : List ExceptHandler} {hs : Hs} {g : Sf} {pos : Pos}
theorem hds_ok {hds : List ExceptHandler} {hs : Hs} (h : HdsE ns X hds hs) : ∃ l : List Cl, ClsOk X hds l ∧ ∀ (D : Ends) (e : Ex) (m1 : Sm) (c : Value) (d : Option Addr) (σ' : St) (H H' : Hp) (fp fp' : Fp), PostS (xrE ns X.mg) X.K W ro σ0 D H fp (hdGo hs e m1) → RelS X.K H' m1 σ' fp' → Step fp fp' H H' → Kept ro σ0 σ' → xrE ns X.mg X.K H' e c d → wMix X.K W D l c d σ' H' := by
  induction h with
  | nil => exact ⟨[], .nil, fun D e m1 c d σ' H H' fp fp' p r s k x => p c d σ' H' fp' r s k x⟩
  | @only x C h E np rp pos' hds hs hc hx hh r ih =>
    obtain ⟨l, h1, h2⟩ := ih
    obtain ⟨te, p1, q1⟩ := hh.ex
    refine ⟨⟨.ref C, none, fun a cls d => tRet (te a cls d)⟩ :: l, .only hc (fun a oe cls d pn hz hf => pss_one (ps_ret (p1 a oe cls d pn hz hf))) h1, fun D e m1 c d σ' H H' fp fp' p r s k xx => ?_⟩
    refine ⟨_, hx _ _ _ _ xx, fun hb a ha => ?_, fun hb => ?_⟩
    · unfold hdGo at p
      rw [if_pos hb] at p
      simp only [hdAt, if_true] at p
      cases e1 : h e with
      | none => simp only [e1] at p; exact p.elim
      | some dat =>
        simp only [e1] at p
        refine q1 a c d e σ' H' _ dat xx e1 (fun j hj => by cases hj) fun v H2 sm z => ?_
        exact p v σ' H2 fp' [] (r.same sm) (s.trans (.same sm)) k (.fz z) (fun b hb => by cases hb) fun b hb => by cases hb
    · unfold hdGo at p
      rw [if_neg (by rw [hb]; exact Bool.false_ne_true)] at p
      exact h2 D e m1 c d σ' H H' fp fp' p r s k xx
  | @as x n C i h E np rp pos' hds hs hc hx hi hln hh r ih =>
    obtain ⟨l, h1, h2⟩ := ih
    obtain ⟨te, p1, q1⟩ := hh.ex
    refine ⟨⟨.ref C, some i, fun a cls d => tRet (te a cls d)⟩ :: l, .as hc hi hln (fun a oe cls d pn hz hf => pss_one (ps_ret (p1 a oe cls d pn hz hf))) h1, fun D e m1 c d σ' H H' fp fp' p r s k xx => ?_⟩
    refine ⟨_, hx _ _ _ _ xx, fun hb a ha => ?_, fun hb => ?_⟩
    · unfold hdGo at p
      rw [if_pos hb] at p
      by_cases hlt : hdAt (some i) m1 = true
      · simp only [if_pos hlt] at p
        have hlt2 : i < m1.length := of_decide_eq_true hlt
        cases e1 : h e with
        | none => simp only [e1] at p; exact p.elim
        | some dat => ?_
        simp only [e1] at p
        refine q1 a c d e _ H' _ dat xx e1 (fun j hj => ?_) fun v H2 sm z => ?_
        · cases hj
          exact List.getElem?_set_self (by rw [← r.len]; exact hlt2)
        · exact p v σ' H2 fp' [] (r.same sm) (s.trans (.same sm)) k (.fz z) (fun b hb => by cases hb) fun b hb => by cases hb
      · simp only [if_neg hlt] at p; exact p.elim
    · unfold hdGo at p
      rw [if_neg (by rw [hb]; exact Bool.false_ne_true)] at p
      exact h2 D e m1 c d σ' H H' fp fp' p r s k xx
/-- try: body / except ..: return .. -/
theorem ss_try (hst : X.stack = X.env :: X.outer) (hfm : X.env.frame = some X.env.locals) (hN : X.N.Nodup) (tk : Takes X W)
    (hbd : ∀ (W : WX) (pn : List (Addr × Obj)) (xe : Value → Shared → Prop), Takes (X.tr pn xe) W → PassesOwn (model X.prog X.w) X.A X.env xe → PSs (X.tr pn xe) body (tS (xrE ns X.mg) X.K W ro σ0 g))
    (hh : HdsE ns X (h₀ :: hds) hs) : PS X (.Try body (h₀ :: hds) [] [] pos) (tS (xrE ns X.mg) X.K W ro σ0 (tryS g hs)) := by
  obtain ⟨l, h1, h2⟩ := hds_ok (W := W) (ro := ro) (σ0 := σ0) hh
  refine ps_imp (ps_try_mix hst hfm hN tk (tb := fun W => tS (xrE ns X.mg) X.K W ro σ0 g) hbd h1) fun D σ H ⟨m, fp, r, k, p⟩ => ⟨m, fp, r, k, ?_⟩
  unfold tryS at p
  cases e1 : g m with
  | no => rw [e1] at p; exact p
  | ok o m1 => rw [e1] at p; cases o <;> exact p
  | ex e m1 =>
    rw [e1] at p
    simp only at p
    exact fun c d σ' H' fp' r' s' k' x' => h2 D e m1 c d σ' H H' fp fp' p r' s' k' x'
end
end PyE

/-! PyE: str of an int; the facts of own errors, put together -/
namespace PyE
open PySem PySem.Spec PyProof.Rows
open L2
open PySem.SupX
def strD : List PyData → Option Rv
  | [.int i] => if i.natAbs.log2 < 1920 then some (.d (.str (toString i))) else none
  | [.str x] => some (.d (.str x))
  | _ => none
theorem opd_str {K : PySem.W.Frag} : OpN K (fun xs H Q => (∃ i, xs = [.int i] ∧ i.natAbs.log2 < 1920 ∧ Q (.str (toString i)) H) ∨ ∃ a, xs = [.str a] ∧ Q (.str a) H) strD := by
  intro H xs as z Q rx e q
  unfold strD at e
  split at e
  · split at e
    · cases e
      obtain ⟨v, rfl, h⟩ := rba1 rx
      have := rb_int h
      subst this
      exact .inl ⟨_, rfl, ‹_›, q _ _ (fun _ _ h => h) (.str _)⟩
    · cases e
  · cases e
    obtain ⟨v, rfl, h⟩ := rba1 rx
    have := rb_str h
    subst this
    exact .inr ⟨_, rfl, q _ _ (fun _ _ h => h) (.str _)⟩
  · cases e
theorem call_str {X : Cx} : CallR X (.type "str") (fun xs H Q => (∃ i, xs = [.int i] ∧ i.natAbs.log2 < 1920 ∧ Q (.str (toString i)) H) ∨ ∃ a, xs = [.str a] ∧ Q (.str a) H) := by
  intro pins s σ H xs us Q I r h
  rcases h with h | h
  · exact call_str_int pins s σ H xs us Q I r h
  · exact SkE.call_str_str pins s σ H xs us Q I r h
theorem exm_catch {ns : List Str} {mg : Str → Option Value} {K : PySem.W.Frag} {C : Addr} {x : Str} (h : ∀ n ∈ ns, ∃ R, mg n = some (.ref R) ∧ PySem.W.exmOne K (.ref R) (.ref C) = some (catches n x)) : ∀ H e c d, xrE ns mg K H e c d → PySem.W.exmOne K c (.ref C) = some (catches e.cls x) := by
  intro H e c d ⟨h1, C', h2, h3, _⟩
  obtain ⟨R, q1, q2⟩ := h _ h1
  rw [h2] at q1
  cases q1
  rw [h3]
  exact q2
end PyE
theorem _root_.L2.Room.units66 {k : Nat} {A : PySem.Around} (r : L2.Room k A) : A.units + 66 < PySem.cLine := by have := r.un; omega
namespace PyE
open PySem PySem.Spec PyProof.Rows
open L2
theorem spOf_true {xr : XR} {K : PySem.W.Frag} {np : Nat} {m : Fm} {vs : List V} {H : Hp} {Q : VK} {E : XK} (q : spOf xrT K np m vs H Q E) : spOf xr K np m vs H Q E := by
  obtain ⟨h1, ms, fp, r, p⟩ := q
  refine ⟨h1, ms, fp, r, ?_⟩
  cases e : m ms with
  | no => rw [e] at p; exact p
  | ok a m' => rw [e] at p; exact p
  | ex x m' => rw [e] at p; exact fun c d H' fp' r' s' _ => p c d H' fp' r' s' trivial
end PyE

/-! PyE: <, <=, >, >= of tuples of ints -/
namespace PyE
open PySem PySem.Spec PyProof.Rows
open L2
/-- the order of rows of ints -/
def ltL : List Int → List Int → Bool
  | [], [] => false
  | [], _ :: _ => true
  | _ :: _, [] => false
  | x :: xs, y :: ys => if x = y then ltL xs ys else decide (x < y)
def lexG (q : Int → Int → Bool) (zz : Nat → Nat → Bool) : List Int → List Int → Bool
  | x :: xs, y :: ys => if x = y then lexG q zz xs ys else q x y
  | xs, ys => zz xs.length ys.length
theorem lexG_lt : ∀ (a b : List Int), lexG (fun i j => decide (i < j)) (fun n m => decide (n < m)) a b = ltL a b
  | [], [] => rfl
  | [], _ :: _ => by simp [lexG, ltL]
  | _ :: _, [] => by simp [lexG, ltL]
  | x :: xs, y :: ys => by simp only [lexG, ltL, lexG_lt xs ys]
theorem lexG_gt : ∀ (a b : List Int), lexG (fun i j => decide (j < i)) (fun n m => decide (n > m)) a b = ltL b a
  | [], [] => rfl
  | [], _ :: _ => by simp [lexG, ltL]
  | _ :: _, [] => by simp [lexG, ltL]
  | x :: xs, y :: ys => by
    simp only [lexG, ltL, lexG_gt xs ys]
    by_cases h : x = y
    · rw [if_pos h, if_pos h.symm]
    · rw [if_neg h, if_neg (fun z => h z.symm)]
theorem lexG_le : ∀ (a b : List Int), lexG (fun i j => decide (i ≤ j)) (fun n m => decide (n ≤ m)) a b = !ltL b a
  | [], [] => rfl
  | [], _ :: _ => by simp [lexG, ltL]
  | _ :: _, [] => by simp [lexG, ltL]
  | x :: xs, y :: ys => by
    simp only [lexG, ltL, lexG_le xs ys]
    by_cases h : x = y
    · rw [if_pos h, if_pos h.symm]
    · rw [if_neg h, if_neg (fun z => h z.symm)]
      by_cases h2 : x ≤ y
      · have : ¬ y < x := by omega
        simp [h2, this]
      · have : y < x := by omega
        simp [h2, this]
theorem lexG_ge : ∀ (a b : List Int), lexG (fun i j => decide (j ≤ i)) (fun n m => decide (n ≥ m)) a b = !ltL a b
  | [], [] => rfl
  | [], _ :: _ => by simp [lexG, ltL]
  | _ :: _, [] => by simp [lexG, ltL]
  | x :: xs, y :: ys => by
    simp only [lexG, ltL, lexG_ge xs ys]
    by_cases h : x = y
    · rw [if_pos h, if_pos h]
    · rw [if_neg h, if_neg h]
      by_cases h2 : y ≤ x
      · have : ¬ x < y := by omega
        simp [h2, this]
      · have : x < y := by omega
        simp [h2, this]
theorem lexAt_shift (e r : Nat → Bool) (z : Bool) : ∀ (k i : Nat), Ob.lexAt e r z (i + 1) k = Ob.lexAt (fun j => e (j + 1)) (fun j => r (j + 1)) z i k
  | 0, _ => rfl
  | k + 1, i => by rw [Ob.lexAt_succ, Ob.lexAt_succ, lexAt_shift e r z k (i + 1)]
theorem lexAt_G {q : Int → Int → Bool} {zz : Nat → Nat → Bool} (hz : ∀ n m, zz (n + 1) (m + 1) = zz n m) : ∀ (a b : List Int),
    Ob.lexAt (fun j => decide (a.getD j 0 = b.getD j 0)) (fun j => q (a.getD j 0) (b.getD j 0)) (zz a.length b.length) 0 (min a.length b.length) = lexG q zz a b
  | [], [] => rfl
  | [], _ :: _ => rfl
  | _ :: _, [] => rfl
  | x :: xs, y :: ys => by
    have h : min (x :: xs).length (y :: ys).length = min xs.length ys.length + 1 := by simp only [List.length_cons]; omega
    rw [h, Ob.lexAt_succ, lexAt_shift]
    have ih := lexAt_G (q := q) hz xs ys
    simp only [List.getD_cons_zero, List.getD_cons_succ, List.length_cons, hz] at ih ⊢
    rw [ih]
    simp only [lexG]
    by_cases hxy : x = y
    · rw [if_pos (decide_eq_true hxy), if_pos hxy]
    · rw [if_neg (by rw [decide_eq_false hxy]; exact Bool.false_ne_true), if_neg hxy]
def rTups (K : PySem.W.Frag) (q : List Int → List Int → Bool) : R2 := fun x y H Q => ∃ (a b : Addr) (ns ms : List Int), x = .ref a ∧ y = .ref b ∧ SqT K H a (ns.map V.int) ∧ SqT K H b (ms.map V.int) ∧ Q (.bl (q ns ms)) H
section
variable {X : Cx}
theorem tups_of {op : CmpOp} {p : Int → Int → Bool} {zz : Nat → Nat → Bool} {q : List Int → List Int → Bool} (hz : ∀ n m, zz (n + 1) (m + 1) = zz n m) (hq : ∀ a b, lexG p zz a b = q a b) (hi : ∀ (A : Around) (s : Shared) (a b : Int) (t u : Tok), Ob.RcOp op A s (.int a t) (.int b u) (p a b))
    (hop : ∀ {A : Around} {s : Shared} {l b : Addr} {items items2 : Array Value} {e r : Nat → Bool}, s.heap.IsTuple l items → s.heap.IsTuple b items2 → A.units < cLine → (∀ j (h1 : j < items.size) (h2 : j < items2.size), SeqAt.EqAt A.in1 s items[j] items2[j] (e j)) →
      (∀ j (h1 : j < items.size) (h2 : j < items2.size), e j = false → Ob.RcOp op A.in1 s items[j] items2[j] (r j)) → Ob.RcOp op A s (.ref l) (.ref b) (Ob.lexAt e r (zz items.size items2.size) 0 (min items.size items2.size)))
    (hu : X.A.units < cLine) (hc : ∀ a b, compareOp op a b = richCompare op a b) : OpR X (compareOp op) (rTups X.K q) := by
  intro pins s σ H x y v u Q I rx ry h
  obtain ⟨a, b, ns, ms, rfl, rfl, ha, hb, qq⟩ := h
  cases rx
  cases ry
  obtain ⟨its, r1, p1, _⟩ := I.tuple ha
  obtain ⟨its2, r2, p2, _⟩ := I.tuple hb
  have i1 : IntsAre its ns := Vals.ints r1
  have i2 : IntsAre its2 ms := Vals.ints r2
  have e1 : its.toArray.size = ns.length := by rw [List.size_toArray]; exact i1.length
  have e2 : its2.toArray.size = ms.length := by rw [List.size_toArray]; exact i2.length
  have at1 : ∀ j (h1 : j < its.toArray.size), ∃ t, its.toArray[j] = .int (ns.getD j 0) t := fun j h1 => PyProof.Rows.IntsAre.int_at i1 _ _ (by simp at h1; simp [h1])
  have at2 : ∀ j (h1 : j < its2.toArray.size), ∃ t, its2.toArray[j] = .int (ms.getD j 0) t := fun j h1 => PyProof.Rows.IntsAre.int_at i2 _ _ (by simp at h1; simp [h1])
  have R := hop (A := X.A) (s := s) (e := fun j => decide (ns.getD j 0 = ms.getD j 0)) (r := fun j => p (ns.getD j 0) (ms.getD j 0)) p1 p2 hu (fun j h1 h2 => by
    obtain ⟨t, et⟩ := at1 j h1
    obtain ⟨t', et'⟩ := at2 j h2
    rw [et, et', show decide (ns.getD j 0 = ms.getD j 0) = (ns.getD j 0 == ms.getD j 0) from rfl]
    exact SeqAt.EqAt.int_int _ _ _ _) (fun j h1 h2 _ => by
    obtain ⟨t, et⟩ := at1 j h1
    obtain ⟨t', et'⟩ := at2 j h2
    rw [et, et']
    exact hi _ _ _ _ _ _)
  rw [e1, e2, lexAt_G hz, hq] at R
  rw [hc]
  exact R X.prog X.w X.xe (EP X pins σ Q) ⟨.bl _, H, I, rfl, qq⟩
def lesL (a b : List Int) : Bool := !ltL b a
def gtsL (a b : List Int) : Bool := ltL b a
def gesL (a b : List Int) : Bool := !ltL a b
theorem opt_lt (hu : X.A.units < cLine) : OpR X (compareOp .Lt) (rTups X.K ltL) := tups_of (fun n m => by simp) lexG_lt (fun _ _ => Ob.RcOp.lt_int) (fun h1 h2 h3 h4 h5 => Ob.RcOp.tuples_lt h1 h2 h3 h4 h5) hu fun _ _ => rfl
theorem opt_le (hu : X.A.units < cLine) : OpR X (compareOp .LtE) (rTups X.K lesL) := tups_of (fun n m => by simp) lexG_le (fun _ _ => Ob.RcOp.le_int) (fun h1 h2 h3 h4 h5 => Ob.RcOp.tuples_le h1 h2 h3 h4 h5) hu fun _ _ => rfl
theorem opt_gt (hu : X.A.units < cLine) : OpR X (compareOp .Gt) (rTups X.K gtsL) := tups_of (fun n m => by simp) lexG_gt (fun _ _ => Ob.RcOp.gt_int) (fun h1 h2 h3 h4 h5 => Ob.RcOp.tuples_gt h1 h2 h3 h4 h5) hu fun _ _ => rfl
theorem opt_ge (hu : X.A.units < cLine) : OpR X (compareOp .GtE) (rTups X.K gesL) := tups_of (fun n m => by simp) lexG_ge (fun _ _ => Ob.RcOp.ge_int) (fun h1 h2 h3 h4 h5 => Ob.RcOp.tuples_ge h1 h2 h3 h4 h5) hu fun _ _ => rfl
theorem opq_lt (hu : X.A.units + 64 < cLine) : OpR X (compareOp .Lt) (fun x y H Q => rI0 (fun i j => .bl (decide (i < j))) x y H Q ∨ rTups X.K ltL x y H Q) := op_lt.or (opt_lt (by omega))
theorem opq_le (hu : X.A.units + 64 < cLine) : OpR X (compareOp .LtE) (fun x y H Q => rI0 (fun i j => .bl (decide (i ≤ j))) x y H Q ∨ rTups X.K lesL x y H Q) := op_le.or (opt_le (by omega))
theorem opq_gt (hu : X.A.units + 64 < cLine) : OpR X (compareOp .Gt) (fun x y H Q => rI0 (fun i j => .bl (decide (j < i))) x y H Q ∨ rTups X.K gtsL x y H Q) := op_gt.or (opt_gt (by omega))
theorem opq_ge (hu : X.A.units + 64 < cLine) : OpR X (compareOp .GtE) (fun x y H Q => rI0 (fun i j => .bl (decide (j ≤ i))) x y H Q ∨ rTups X.K gesL x y H Q) := op_ge.or (opt_ge (by omega))
end
def cmpT (q : List Int → List Int → Bool) : Option (List Int) → Option (List Int) → Option Rv
  | some ns, some ms => bD (q ns ms)
  | _, _ => none
def cmpDT (p : Int → Int → Bool) (q : List Int → List Int → Bool) (a b : PyData) : Option Rv := match a, b with
  | .tuple xs, .tuple ys => cmpT q (intsOf xs) (intsOf ys)
  | a, b => cmpD p a b
theorem cmpD_r {p : Int → Int → Bool} {a b : PyData} {z : Rv} (e : cmpD p a b = some z) : ∃ i j, a = .int i ∧ b = .int j ∧ z = .d (.bool (p i j)) := by
  unfold cmpD at e
  split at e
  · cases e; exact ⟨_, _, rfl, rfl, rfl⟩
  · cases e
theorem opd_cmpT {K : PySem.W.Frag} (p : Int → Int → Bool) (q : List Int → List Int → Bool) : Op2 K (fun x y H Q => rI0 (fun i j => .bl (p i j)) x y H Q ∨ rTups K q x y H Q) (cmpDT p q) := by
  intro H x y a b z Q rx ry e qq
  have ofI : cmpD p a b = some z → (rI0 (fun i j => .bl (p i j)) x y H Q ∨ rTups K q x y H Q) := fun e => .inl (opd_cmp p H x y a b z Q rx ry e qq)
  cases a with
  | tuple xs =>
    cases b with
    | tuple ys =>
      have e : cmpT q (intsOf xs) (intsOf ys) = some z := e
      cases e1 : intsOf xs with
      | none => rw [e1] at e; cases e
      | some ns =>
        cases e2 : intsOf ys with
        | none => rw [e1, e2] at e; cases e
        | some ms =>
          rw [e1, e2] at e; cases e
          obtain ⟨a, vs, rfl, h1, g1⟩ := rb_tup rx
          obtain ⟨b, ws, rfl, h2, g2⟩ := rb_tup ry
          rw [intsOf_some e1] at g1
          rw [intsOf_some e2] at g2
          have f1 := fz_vints g1
          have f2 := fz_vints g2
          subst f1 f2
          exact .inr ⟨a, b, ns, ms, rfl, rfl, h1.sq, h2.sq, qq _ _ (fun _ _ h => h) (.bl _)⟩
    | _ => exact ofI e
  | _ => exact ofI e
end PyE

/-! PyE: t.index(k) of a tuple of ints -/
namespace PyE
open PySem PySem.Spec PyProof.Rows
open L2
def rTix (K : PySem.W.Frag) : V → List V → Hp → VK → Prop := fun x vs H Q => ∃ (a : Addr) (ns : List Int) (k : Int), x = .ref a ∧ vs = [.int k] ∧ TupF H a (ns.map V.int) ∧ k ∈ ns ∧ Q (.int (ns.idxOf k : Nat)) H
section
variable {xr : XR} {W : WX} {X : Cx} {o e : Expr} {es : List Expr} {f : Ev Rv} {fs : List (Ev Rv)} {apos cpos : Pos} {pins : List (Addr × Obj)} {σ : St} {H : Hp} {s : Shared}
theorem ints_vals : ∀ {ns : List Int} {us : List Value}, Vals (ns.map V.int) us → IntsAre us ns
  | [], _, .nil => .nil
  | n :: ns, _, .cons r t => by
    obtain ⟨k, rfl⟩ := r
    exact .cons n k (ints_vals t)
theorem mt_tix : MtR X "tuple.index" (rTix X.K) := by
  intro pins s σ H x xs v us Q I rx rs h
  obtain ⟨a, ns, k, rfl, rfl, ht, hk, q⟩ := h
  cases rx
  obtain ⟨u, rfl, t, rfl⟩ := vals1 rs
  obtain ⟨its, r, pl, hz⟩ := I.tuple ht.sq
  exact SeqAt.tuple_index_ints pl (ints_vals r) hk ⟨.int (ns.idxOf k : Nat), H, I.tok _, ⟨_, rfl⟩, q⟩
theorem tup_facts {a : Addr} {xs : List V} (I : Inv X pins σ H s) (h : TupF H a xs) : s.TypeIs (.ref a) "tuple" ∧ ∀ b, Value.ref a = .ref b → ∃ ob, s.heap.get? b = some ob ∧ ob.dict = none := by
  obtain ⟨its, r, ⟨o', ho', hc, _⟩, hz⟩ := I.tuple h.sq
  obtain ⟨o, h1, h2⟩ := h
  obtain ⟨e, _⟩ := I.hok a _ h1
  exact ⟨⟨o', ho', hc⟩, fun b eb => by cases eb; exact ⟨o, e, h2⟩⟩
def idxT : List PyData → List PyData → Option Rv
  | xs, [.int k] => match intsOf xs with
    | some ns => if k ∈ ns then some (.d (.int (ns.idxOf k : Nat))) else none
    | none => none
  | _, _ => none
def ixmO (xs : List PyData) : List PyData → Ev Rv := fun ds m => fin1 (idxT xs ds) m
def ixmK (fs : List (Ev Rv)) : Rv → Ev Rv := fun x m => match x with
  | .d (.tuple xs) => (argsD fs m).bind (ixmO xs)
  | _ => .no
def ixmE (f : Ev Rv) (fs : List (Ev Rv)) : Ev Rv := bnd f (ixmK fs)
def tBT (r : V → List V → Hp → VK → Prop) (to : TE) (t : TA) : TE := fun σ H Q => to σ H fun x H1 => (∃ a xs, x = .ref a ∧ TupF H1 a xs) ∧ t σ H1 fun vs H2 => r x vs H2 Q
theorem pe_bt {id name : String} {r : V → List V → Hp → VK → Prop} {to : TE} {t : TA} (slot : Slot "tuple" (Str.ofString name) id) (hty : typeOf (.builtin id) = pure (.type "method_descriptor")) (hm : MtR X id r) (ho : PE X o to) (ha : PA X (e :: es) t)
    (hbase : attributeBase o (Str.ofString name) X.env (eval o X.env) = eval o X.env := by rfl)
    (hfew : ((backTo cpos (starEach (e :: es) X.env)).all (fun x => !x.1) && (backToKw cpos (keywordEach [] X.env)).all (fun x => x.1.isSome)
      && decide ((e :: es).length + ([] : List Keyword).length + (if ([] : List Keyword).isEmpty then 0 else 1) < 30)) = true := by rfl)
    (hline : (apos.endLine == cpos.line) = true := by rfl) (hs : starEach (e :: es) X.env = (false, eval e X.env) :: starEach es X.env := by rfl) (hplain : (backTo cpos (starEach es X.env)).any (·.1) = false := by rfl) :
    PE X (.Call (.Attribute o (Str.ofString name) apos) (e :: es) [] cpos) (tBT r to t) := by
  refine ⟨fun pins s σ H Q I h => ?_⟩
  refine wpAny_Call_method_late hbase hfew hline rfl (thn (ho.run pins s σ H _ I h) fun v s1 ⟨x, H1, I1, r1, ty, q1⟩ => ?_)
  obtain ⟨a, xs, rfl, hd⟩ := ty
  cases r1
  obtain ⟨h1, h2⟩ := tup_facts I1 hd
  refine ⟨"tuple", id, PySem.F.plainAttrs_tuple, slot, hty, h1, h2, ?_⟩
  have hA := ha.run cpos pins s1 σ H1 _ I1 q1
  rw [hs] at hA ⊢
  refine Calls.callWith_builtin (by show (false || (backTo cpos (starEach es X.env)).any (·.1)) = false; rw [hplain] <;> rfl) (Calls.evalArgs_plain ?_)
  exact thn hA fun us s2 ⟨vs, H2, I2, r2, q2⟩ => hm pins s2 σ H2 (.ref a) vs (.ref a) us Q I2 rfl r2 q2
theorem fz_tup_ints {K : PySem.W.Frag} {H : Hp} : ∀ {ys : List V} {ns : List Int}, FzAll K H ys (ns.map .int) → ys = ns.map V.int
  | [], [], _ => rfl
  | y :: ys, n :: ns, h => by
    cases h with
    | cons h g =>
      cases h
      rw [fz_tup_ints g]
      rfl
  | [], _ :: _, h => by cases h
  | _ :: _, [], h => by cases h
theorem sd_tix (ho : PE X o (tE xr X.K W f)) (ha : PA X (e :: es) (tAD xr X.K W (argsD fs)))
    (hbase : attributeBase o "index" X.env (eval o X.env) = eval o X.env := by rfl)
    (hfew : ((backTo cpos (starEach (e :: es) X.env)).all (fun x => !x.1) && (backToKw cpos (keywordEach [] X.env)).all (fun x => x.1.isSome) && decide ((e :: es).length + ([] : List Keyword).length + (if ([] : List Keyword).isEmpty then 0 else 1) < 30)) = true := by rfl)
    (hline : (apos.endLine == cpos.line) = true := by rfl) (hs : starEach (e :: es) X.env = (false, eval e X.env) :: starEach es X.env := by rfl) (hplain : (backTo cpos (starEach es X.env)).any (·.1) = false := by rfl) :
    PE X (.Call (.Attribute o "index" apos) (e :: es) [] cpos) (tE xr X.K W (ixmE f fs)) := by
  refine pe_imp (pe_bt (name := "index") PySem.F.slot_tuple_index PySem.F.type_tuple_index mt_tix ho ha hbase hfew hline hs hplain) fun σ H Q h => ?_
  refine tG_bind (Rc := RelR X.K) h fun m fp x m1 v H1 fp1 r0 r1 s1 rx p => ?_
  unfold ixmK at p
  split at p
  · rename_i xs
    have rx : Fz X.K H1 v (.tuple xs) := rx
    cases rx with
    | tup ht g0 =>
      rename_i a ys
      refine ⟨⟨a, ys, rfl, ht⟩, ?_⟩
      refine post_bind (Ra := RelDs X.K) (Rc := RelR X.K) r1 s1 p fun ds m2 vs H2 fp2 r2 s2 g0' p2 => ?_
      clear p
      have g : FzAll X.K H2 vs ds := g0'
      clear g0'
      unfold ixmO idxT at p2
      split at p2
      · rename_i k
        split at p2
        · rename_i ns en
          split at p2
          · rename_i hk
            cases g with
            | cons hk0 gn =>
              cases gn
              cases hk0
              have exs := intsOf_some en
              subst exs
              have ey := fz_tup_ints g0
              subst ey
              obtain ⟨ob, h1, h2⟩ := ht
              refine ⟨a, ns, k, rfl, rfl, ⟨ob, (r1.keepOf s2) _ _ h1 fun z => z, h2⟩, hk, ?_⟩
              exact p2 _ H2 fp2 r2 (s1.trans s2) (.int _)
          · exact p2.elim
        · exact p2.elim
      · exact p2.elim
  · exact p.elim
end
end PyE

/-! PyE: x, y = a, b where one of the names is a cell: the same as where both are locals, by way of a tuple -/
namespace PyE
open PySem PySem.Spec PyProof.Rows
open L2
section
variable {X : Cx} {xr : XR} {W : WX} {ro : List Nat} {σ0 : St} {pos : Pos} {i : Nat} {x : Str}
theorem ss_parT {j : Nat} {y : Str} {a b : Expr} {f1 f2 : Ev Rv} {px py pt : Pos} {kt k2 : Nat} {pt2 : Pos} (hc : X.calm = true) (hN : X.N.Nodup) (hi : X.N[i]? = some x) (hj : X.N[j]? = some y) (hij : i ≠ j) (hx : Loc X.env.scope x) (hy : Loc X.env.scope y)
    (hfx : X.fn x = true ∨ X.env.scope.names.lookup x = some .local) (hfy : X.fn y = true ∨ X.env.scope.names.lookup y = some .local)
    (ha : PE X a (tE xr X.K W f1)) (hb : PE X b (tE xr X.K W f2)) (hri : i ∉ ro) (hrj : j ∉ ro)
    (hw : swappedStores [.Tuple [.Name x px, .Name y py] kt pt] (.Tuple [a, b] k2 pt2) X.env = pure none := by rfl)
    (hs1 : starEach [a, b] X.env = (false, eval a X.env) :: starEach [b] X.env := by rfl) (hs2 : starEach [b] X.env = (false, eval b X.env) :: starEach [] X.env := by rfl)
    (hs : swapsWithSole [.Tuple [.Name x px, .Name y py] kt pt] (.Tuple [a, b] k2 pt2) pos.line X.env = pure false := by rfl)
    (h1 : (assignEach [.Tuple [.Name x px, .Name y py] kt pt] X.env).map (·.2) = [assign (.Tuple [.Name x px, .Name y py] kt pt) X.env] := by rfl) : PS X (.Assign [.Tuple [.Name x px, .Name y py] kt pt] (.Tuple [a, b] k2 pt2) pos) (tS xr X.K W ro σ0 (parS i j f1 f2)) := by
  refine ps_imp (ps_asg (pe_tup (pa_cons (sd_own ha) (pa_cons (sd_own hb) pa_nil hs2) hs1)) (pg_tup (n := 2) hc (pgs_cons (pg_name hN hi hx hfx) (pgs_cons (pg_name hN hj hy hfy) pgs_nil))) hs hw h1) fun D σ H q => ?_
  refine tS_bind0 (Ra := RelR X.K) q fun fp r1 m1 v H1 fp1 rs1 s1 k rr1 p => ?_
  unfold bnd at p
  refine tS_at (D := D) (ro := ro) (σ0 := σ0) (Ra := RelR X.K) rs1 k s1 p fun r2 m2 u H2 fp2 rs2 s2 rr2 p2 => ?_
  by_cases n1 : ∃ l, r1 = .s l
  · obtain ⟨l, rfl⟩ := n1; exact p2.elim
  by_cases n2 : ∃ l, r2 = .s l
  · obtain ⟨l, rfl⟩ := n2
    cases hq : putM i r1 m2 with
    | no => simp only [hq, Res.bind] at p2; exact p2.elim
    | ex x m' => cases r1 <;> cases hq
    | ok o m' => simp only [hq, Res.bind] at p2; exact p2.elim
  obtain ⟨mv1, g1, e1, rm0, a0, b0⟩ := put_at rs1 rr1 fun l e => n1 ⟨l, e⟩
  have hs1 : ∀ b ∈ g1, H1 b ≠ none := fun b hb => rm0.some_ hb
  have b1 : ∀ b ∈ g1, ∀ l, b ∉ fp2 l := fun b hb => s2.out (hs1 b hb) (b0 b hb)
  have rm1 : RelM X.K H2 mv1 v g1 := rm0.keep (rs1.keepOf s2) fun b hb => by
    cases e : H1 b with
    | none => exact absurd e (hs1 b hb)
    | some o => exact s2.keep b o e (b0 b hb)
  obtain ⟨mv2, g2, e2, rm2, a2, b2⟩ := put_at rs2 rr2 fun l e => n2 ⟨l, e⟩
  rw [e1 i m2] at p2
  simp only [Res.bind] at p2
  rw [e2 j] at p2
  have own1 := rs2.own (i := i) rm1 b1
  have own2 := own1.own (i := j) (mv := mv2) (v := u) (f := g2) rm2 (fun b hb l hl => by
    have hl : b ∈ (if l = i then (if i < m2.length then g1 else []) else fp2 l) := hl
    split at hl
    · split at hl
      · exact hs1 b hl (a2 b hb)
      · cases hl
    · exact b2 b hb l hl)
  refine ⟨by show (2 : Nat) ≤ _; decide, fun o no => ?_⟩
  have sm : Same H2 (upd H2 o (.tup [v, u])) := fun b o' e => by rw [upd_ne (ne_of_none e no)]; exact e
  refine ⟨o, [v, u], rfl, .inl (.inl upd_same), rfl, v, [u], rfl, u, [], rfl, rfl, p2 _ (upd H2 o (.tup [v, u])) _ (own2.same sm) (Step.trans (own_step (own_step (s1.trans s2) (fun b hb => a0 b hb) _) (fun b hb => s1.trk b (a2 b hb)) _) (.same sm)) fun l hl => ?_⟩
  rw [List.getElem?_set_ne (fun e => hrj (by rw [e]; exact hl)), List.getElem?_set_ne (fun e => hri (by rw [e]; exact hl))]
  exact k l hl
end
end PyE

/-! PyE: a dict of the module, ints by ints, asked at a key -/
namespace PyE
open PySem PySem.Spec PyProof.Rows
open L2
def IntEs : List (Int × Int) → List DictEntry → Prop
  | [], [] => True
  | p :: r, e :: l => (∃ t t2, e.key = .int p.1 t ∧ e.hash = hashInt p.1 ∧ e.val = .int p.2 t2) ∧ IntEs r l
  | _, _ => False
def gdx (kvs : List (Int × Int)) (i : Int) : Option Int := (kvs.find? fun p => decide (p.1 = i)).map (·.2)
def KDctI (K : PySem.W.Frag) (a : Addr) (kvs : List (Int × Int)) : Prop :=
  ∃ es n, K.lookup a = some ⟨.type "dict", none, .dict es n, #[]⟩ ∧ IntEs kvs es.toList
theorem IntEs.keys : ∀ {kvs : List (Int × Int)} {l : List DictEntry}, IntEs kvs l → ∀ e ∈ l, ∃ k, Value.isInt k e.key = true ∧ e.hash = hashInt k
  | [], [], _, _, h => by cases h
  | p :: r, e :: l, ⟨⟨t, t2, h1, h2, _⟩, h⟩, x, hx => by
    rcases List.mem_cons.mp hx with rfl | hx
    · exact ⟨p.1, by rw [h1]; simp [Value.isInt], h2⟩
    · exact h.keys x hx
theorem IntEs.find : ∀ {kvs : List (Int × Int)} {l : List DictEntry}, IntEs kvs l → ∀ i v, gdx kvs i = some v → ∃ t, (l.find? fun e => Value.isInt i e.key).map (·.val) = some (.int v t)
  | [], [], _, i, v, h => by cases h
  | p :: r, e :: l, ⟨⟨t, t2, h1, h2, h3⟩, h⟩, i, v, hv => by
    rw [List.find?_cons]
    have e1 : Value.isInt i e.key = decide (p.1 = i) := by
      rw [h1]
      by_cases q : p.1 = i
      · rw [decide_eq_true q, q]; simp [Value.isInt]
      · rw [decide_eq_false q]
        cases hq : Value.isInt i (.int p.1 t) with
        | false => rfl
        | true => simp [Value.isInt] at hq; exact absurd hq (by first | exact q | exact fun z => q z.symm)
    rw [e1]
    unfold gdx at hv
    rw [List.find?_cons] at hv
    by_cases q : p.1 = i
    · rw [decide_eq_true q] at hv ⊢
      cases hv
      exact ⟨t2, congrArg some h3⟩
    · rw [decide_eq_false q] at hv ⊢
      exact h.find i v hv
section
variable {X : Cx} {xr : XR} {W : WX} {fb : Ev Rv} {x : Str} {b : Expr} {pos p2 : Pos}
theorem ix_kdI : IxR X (fun x y H Q => ∃ p kvs i v, x = .ref p ∧ y = .int i ∧ KDctI X.K p kvs ∧ gdx kvs i = some v ∧ Q (.int v) H) := by
  intro value slice pins s σ H x y v u Q I rx ry h hs
  obtain ⟨p, kvs, i, z, rfl, rfl, ⟨es, n, hl, he⟩, e, q⟩ := h
  obtain rfl : v = Value.ref p := rx
  obtain ⟨t, rfl⟩ := ry
  obtain ⟨t3, hf⟩ := he.find i z e
  have hm : s.heap.MapOf (PySem.intKind X.prog X.w) p (fun k => findBy Value.isInt es k) := ⟨_, es, n, I.kIn _ _ hl, ⟨rfl, rfl, rfl⟩, rfl, fun e' he' => he.keys e' (Array.mem_toList_iff.mpr he'), fun _ => rfl⟩
  have hv : findBy Value.isInt es i = some (.int z t3) := by
    unfold findBy
    obtain ⟨l⟩ := es
    rw [List.find?_toArray]
    exact hf
  exact tail_any hm.typeIs slot_dict_getitem.lookup (wpAny_getItem_of (knd := PySem.intKind X.prog X.w) (key := .int i t) (k := i) (show Value.isInt i (.int i t) = true by simp [Value.isInt]) hm hv ⟨.int z, H, I.tok _, ⟨t3, rfl⟩, q⟩) hs
def gdxD (kvs : List (Int × Int)) : PyData → Option Rv
  | .int i => (gdx kvs i).map fun v => .d (.int v)
  | _ => none
theorem sd_gdix {kvs : List (Int × Int)} (hg : Gl X x) (hm : ∃ a, X.mg x = some (.ref a) ∧ KDctI X.K a kvs) (hb : PE X b (tE xr X.K W fb)) (hs : PlainIx b) (hd : (x == ("__debug__" : Str)) = false := by decide) : PE X (.Subscript (.Name x p2) b pos) (tE xr X.K W (op1E (gdxD kvs) fb)) := by
  obtain ⟨a, hm, hk⟩ := hm
  have og : Op1 X.K (fun y H Q => ∃ p kvs i v, V.ref a = .ref p ∧ y = .int i ∧ KDctI X.K p kvs ∧ gdx kvs i = some v ∧ Q (.int v) H) (gdxD kvs) := by
    intro H y d z Q rb e q
    cases d with
    | int i =>
      cases e2 : gdx kvs i with
      | none => simp only [gdxD, e2] at e; cases e
      | some v =>
        simp only [gdxD, e2, Option.map_some] at e
        cases e
        cases rb with
        | fz h =>
          cases fz_int h
          exact ⟨a, kvs, i, v, rfl, rfl, hk, e2, q _ _ (fun _ _ h => h) (.int v)⟩
    | _ => cases e
  refine pe_imp (pe_ix ix_kdI (pe_glob (v := .ref a) hg hm rfl hd) hb hs) fun σ H Q h => ?_
  exact op1_ok og h
end
end PyE

/-! PyE: [..].index(k) of a list of ints just made -/
namespace PyE
open PySem PySem.Spec PyProof.Rows
open L2
def ixlK (fs : List (Ev Rv)) : Rv → Ev Rv := fun x m => match x with
  | .nl xs => (argsD fs m).bind (ixmO xs)
  | _ => .no
def ixlE (f : Ev Rv) (fs : List (Ev Rv)) : Ev Rv := bnd f (ixlK fs)
theorem idx_first : ∀ {ns : List Int} {k : Int}, k ∈ ns → (ns.map V.int)[ns.idxOf k]? = some (.int k) ∧ ∀ m z, m < ns.idxOf k → (ns.map V.int)[m]? = some z → eqV z (.int k) = false
  | [], _, h => by cases h
  | n :: ns, k, h => by
    by_cases e : n = k
    · subst e
      rw [List.idxOf_cons_self]
      exact ⟨rfl, fun m z hm => by omega⟩
    · have hk : k ∈ ns := (List.mem_cons.mp h).resolve_left (fun q => e q.symm)
      obtain ⟨h1, h2⟩ := idx_first hk
      have ei : (n :: ns).idxOf k = ns.idxOf k + 1 := by
        rw [List.idxOf_cons]
        rw [show (n == k) = false by simpa using e]
        rfl
      rw [ei]
      refine ⟨by simpa using h1, fun m z hm hz => ?_⟩
      cases m with
      | zero =>
        simp only [List.map_cons, List.getElem?_cons_zero, Option.some.injEq] at hz
        subst hz
        show (n == k) = false
        simpa using e
      | succ m => exact h2 m z (by omega) (by simpa using hz)
section
variable {xr : XR} {W : WX} {X : Cx} {o e : Expr} {es : List Expr} {f : Ev Rv} {fs : List (Ev Rv)} {apos cpos : Pos}
theorem sd_lix (ho : PE X o (tE xr X.K W f)) (ha : PA X (e :: es) (tAD xr X.K W (argsD fs)))
    (hbase : attributeBase o "index" X.env (eval o X.env) = eval o X.env := by rfl)
    (hfew : ((backTo cpos (starEach (e :: es) X.env)).all (fun x => !x.1) && (backToKw cpos (keywordEach [] X.env)).all (fun x => x.1.isSome) && decide ((e :: es).length + ([] : List Keyword).length + (if ([] : List Keyword).isEmpty then 0 else 1) < 30)) = true := by rfl)
    (hline : (apos.endLine == cpos.line) = true := by rfl) (hs : starEach (e :: es) X.env = (false, eval e X.env) :: starEach es X.env := by rfl) (hplain : (backTo cpos (starEach es X.env)).any (·.1) = false := by rfl) :
    PE X (.Call (.Attribute o "index" apos) (e :: es) [] cpos) (tE xr X.K W (ixlE f fs)) := by
  refine pe_imp (pe_bm (name := "index") PySem.F.plainAttrs_list PySem.F.slot_list_index PySem.F.type_list_index mt_index ho ha hbase hfew hline hs hplain) fun σ H Q h => ?_
  refine tG_bind (Rc := RelR X.K) h fun m fp x m1 v H1 fp1 r0 r1 s1 rx p => ?_
  unfold ixlK at p
  split at p
  · rename_i xs
    obtain ⟨a, ys, rfl, hl, g0, n, nf⟩ := rx
    refine ⟨.inl ⟨rfl, ys, .inl (.inl hl)⟩, ?_⟩
    refine post_bind (Ra := RelDs X.K) (Rc := RelR X.K) r1 s1 p fun ds m2 vs H2 fp2 r2 s2 g0' p2 => ?_
    clear p
    have g : FzAll X.K H2 vs ds := g0'
    clear g0'
    unfold ixmO idxT at p2
    split at p2
    · rename_i k
      split at p2
      · rename_i ns en
        split at p2
        · rename_i hk
          cases g with
          | cons hk0 gn =>
            cases gn
            cases hk0
            have exs := intsOf_some en
            subst exs
            have ey := fz_tup_ints g0
            subst ey
            obtain ⟨h1, h2⟩ := idx_first hk
            refine ⟨a, ns.map V.int, .int k, ns.idxOf k, .int k, rfl, rfl, .inl (.inl (s2.keep a _ hl nf)), rfl, List.all_eq_true.mpr fun z hz => ?_, h1, by show (k == k) = true; simp, h2, ?_⟩
            · obtain ⟨i, _, rfl⟩ := List.mem_map.mp hz
              rfl
            · exact p2 _ H2 fp2 r2 (s1.trans s2) (.int _)
        · exact p2.elim
      · exact p2.elim
    · exact p2.elim
  · exact p.elim
end
theorem ev_ixl {f : Ev Rv} {fs : List (Ev Rv)} {m : Sm} : ixlE f fs m = Res.bind (f m) (ixlK fs) := rfl
theorem ev_ixlK {xs : List PyData} {fs : List (Ev Rv)} {m : Sm} : ixlK fs (.nl xs) m = Res.bind (argsD fs m) (ixmO xs) := rfl
end PyE

/-! PyE: a def picked out of a list of defs, and called; len(set(..)) of a list of ints -/
namespace PyE
open PySem PySem.Spec PyProof.Rows
open L2
/-! ### picked defs -/
def pkK (fms : List Fm) (fs : List (Ev Rv)) : Rv → Ev Rv := fun x m => match x with
  | .d (.int k) => if 0 ≤ k then match fms[k.toNat]? with
    | some fm => callE fm fs m
    | none => .no
    else .no
  | _ => .no
def pickE (fms : List Fm) (fi : Ev Rv) (fs : List (Ev Rv)) : Ev Rv := bnd fi (pkK fms fs)
abbrev tNm (as : List Addr) : TA := fun _ H Q => Q (as.map V.ref) H
section
variable {xr : XR} {W : WX} {X : Cx} {e ie : Expr} {es ns : List Expr} {fi : Ev Rv} {fs : List (Ev Rv)} {pos p lpos spos : Pos} {x : Str} {a : Addr} {as : List Addr} {fms : List Fm} {np : Nat}
theorem snm_nil : PA X [] (tNm []) := pa_imp pa_nil fun σ H Q h => h
theorem snm_cons (hg : Gl X x) (hm : X.mg x = some (.ref a)) (hr : PA X es (tNm as)) (hd : (x == ("__debug__" : Str)) = false := by decide) (hs : starEach (.Name x p :: es) X.env = (false, eval (.Name x p) X.env) :: starEach es X.env := by rfl) : PA X (.Name x p :: es) (tNm (a :: as)) :=
  pa_imp (pa_cons (pe_glob (v := .ref a) hg hm rfl hd) hr hs) fun σ H Q h => h
/-- a def that may be picked -/
structure Pick1 (xr : XR) (X : Cx) (np : Nat) (a : Addr) (fm : Fm) : Prop where
  ex : ∃ k fd ps, FnG X.prog X.w X.K X.mg X.base k a fd ps (spOf xr X.K np fm) ∧ Room k X.A ∧ PySem.W.keepIn X.K (.ref a) = true ∧ Binds X.K fd ps []
  hn : ∀ ms, ms.length ≠ np → fm ms = .no
theorem Pick1.mk' {k : Nat} {fd : FuncData} {ps : List Str} {fm : Fm} (F : FnG X.prog X.w X.K X.mg X.base k a fd ps (spOf xr X.K np fm)) (hn : ∀ ms, ms.length ≠ np → fm ms = .no) (hr : Room k X.A) (hk : PySem.W.keepIn X.K (.ref a) = true) (hb : Binds X.K fd ps []) : Pick1 xr X np a fm := ⟨⟨k, fd, ps, F, hr, hk, hb⟩, hn⟩
inductive Picks (xr : XR) (X : Cx) (np : Nat) : List Addr → List Fm → Prop
  | nil : Picks xr X np [] []
  | cons {a : Addr} {as : List Addr} {fm : Fm} {fms : List Fm} : Pick1 xr X np a fm → Picks xr X np as fms → Picks xr X np (a :: as) (fm :: fms)
theorem Picks.get : ∀ {as : List Addr} {fms : List Fm} {k : Nat} {fm : Fm}, Picks xr X np as fms → fms[k]? = some fm → ∃ a, as[k]? = some a ∧ Pick1 xr X np a fm
  | _, _, _, _, .nil, e => by simp at e
  | _, _, 0, _, .cons h _, e => by simp at e; subst e; exact ⟨_, rfl, h⟩
  | _, _, k + 1, fm, .cons _ g, e => by
    obtain ⟨a, e1, h⟩ := Picks.get (k := k) (fm := fm) g (by simpa using e)
    exact ⟨a, by simpa using e1, h⟩
/-- [f, g, ..][i](e, ..) -/
theorem sd_pick (hP : Picks xr X np as fms) (hnm : PA X ns (tNm as)) (hi : PE X ie (tE xr X.K W fi)) (hsx : PlainIx ie) (hlen : as.length ≤ 100) (hG : X.A.guards = some []) (tk : Takes X W) (ha : PA X (e :: es) (tA xr X.K W (argsP fs)))
    (ht : eval (.Call (.Subscript (.List ns lpos) ie spos) (e :: es) [] pos) X.env = (do callWith pos (← eval (.Subscript (.List ns lpos) ie spos) X.env) [] (backTo pos (starEach (e :: es) X.env)) (backToKw pos (keywordEach [] X.env))) := by rfl)
    (he : starEach (e :: es) X.env = (false, eval e X.env) :: starEach es X.env := by rfl) (hpl : (backTo pos (starEach es X.env)).any (·.1) = false := by rfl) :
    PE X (.Call (.Subscript (.List ns lpos) ie spos) (e :: es) [] pos) (tE xr X.K W (pickE fms fi fs)) := by
  refine ⟨fun pins s σ H Q I h => ?_⟩
  have hf := pe_ix (pos := spos) (X := X) ix_list (pe_lst (pos := lpos) hnm) hi hsx
  have h2 : tOp (rIxL X.K) (tLst (tNm as)) (tE xr X.K W fi) σ H (fun y H2 => ∃ a fm, y = V.ref a ∧ Pick1 xr X np a fm ∧ tE xr X.K W (callE fm fs) σ H2 Q) := by
    obtain ⟨m, fp, r, p⟩ := h
    refine ⟨by rw [List.length_map]; exact Nat.le_trans hlen (by decide), fun q hq => ?_⟩
    have sm : Same H (upd H q (.lst (as.map V.ref))) := fun b o e => by rw [upd_ne (ne_of_none e hq)]; exact e
    have st : Step fp fp H (upd H q (.lst (as.map V.ref))) := .same sm
    have nf : ∀ i, q ∉ fp i := fun i hi => r.some_ hi hq
    have p2 := Post.from p st (fun H' fp' x v q => RelR.from q st.trk)
    refine ⟨m, fp, r.same sm, ?_⟩
    unfold pickE bnd at p2
    cases q1 : fi m with
    | no => rw [q1] at p2; exact p2
    | ex x m' => rw [q1] at p2; exact p2
    | ok x m1 =>
      rw [q1] at p2
      intro v H1 fp1 r1 s1 rx
      have p3 := Post.from p2 s1 (fun H' fp' x v q => RelR.from q s1.trk)
      change Post xr X.K W (RelR X.K) σ H1 fp1 Q (pkK fms fs x m1) at p3
      unfold pkK at p3
      split at p3
      · rename_i k
        split at p3
        · rename_i hk
          split at p3
          · rename_i fm ek
            have rx : Fz X.K H1 v (.int k) := rx
            cases rx
            obtain ⟨a, ea, hp⟩ := hP.get ek
            refine ⟨q, as.map V.ref, k, V.ref a, rfl, rfl, .inl (.inl (s1.keep q _ upd_same nf)), ?_, a, fm, rfl, hp, m1, fp1, r1, p3⟩
            have e2 : (as.map V.ref)[k.toNat]? = some (V.ref a) := by rw [List.getElem?_map, ea]; rfl
            have e3 := atI_nat e2
            rw [show ((k.toNat : Nat) : Int) = k by omega] at e3
            exact e3
          · exact p3.elim
        · exact p3.elim
      · exact p3.elim
  refine Call_ (thn (hf.run pins s σ H _ I h2) fun u s1 ⟨y, H1, I1, ry, a, fm, ey, hp, q⟩ => ?_) ht
  subst ey
  obtain rfl : u = Value.ref a := ry
  obtain ⟨⟨k, fd, ps, F, hr, hk, hb⟩, hn⟩ := hp
  refine PySem.W.callWith_K (h₀ := X.base) I1.ok.mod.kin hk (thn (ha.run pos pins s1 σ H1 _ I1 (callE_ok hn q)) fun us s2 ⟨vs, H2, I2, r, q2⟩ => ⟨I2.kIn, ?_⟩) he hpl
  exact run_G F hr hG tk I2 (fun hl => by
    have z := hb s2 us I2.kIn (by rw [List.append_nil]; exact hl)
    rw [List.append_nil] at z
    exact z) r q2
end
/-! ### how many ints -/
def many (ns : List Int) : Nat := (PyProof.Rows.firstMet (fun i => ns.getD i 0) ns.length).length
def lsK : Rv → Ev Rv := fun x m => match x with
  | .nl xs => match intsOf xs with
    | some ns => if ns.length ≤ 4000 then .ok (.d (.int (many ns : Nat))) m else .no
    | none => .no
  | _ => .no
def lsE (f : Ev Rv) : Ev Rv := bnd f lsK
section
variable {xr : XR} {W : WX} {X : Cx} {a : Expr} {f : Ev Rv} {p p2 q pos : Pos}
def tLenSI (K : PySem.W.Frag) (ta : TE) : TE := fun σ H Q => ta σ H fun x H1 => ∃ (l : Addr) (ns : List Int), x = .ref l ∧ SqL K H1 l (ns.map V.int) ∧ ns.length ≤ 4000 ∧ Q (.int (many ns : Nat)) H1
theorem pe_lenSI {ta : TE} (hg : Gl X "len") (hm : X.mg "len" = none) (hg2 : Gl X "set") (hm2 : X.mg "set" = none) (ha : PE X a ta) (hc : X.calm = true := by rfl)
    (na : starEach [a] X.env = (false, eval a X.env) :: starEach [] X.env := by rfl) : PE X (.Call (.Name "len" p) [.Call (.Name "set" p2) [a] [] q] [] pos) (tLenSI X.K ta) := by
  refine ⟨fun pins s σ H Q I h => ?_⟩
  refine Call_ (ld_blt I hg hm boot_len ?_)
  refine PyProof.Rows.callWith_builtin1 (PyProof.Rows.args_cons ?_ rfl) rfl rfl
  refine Call_ (ld_blt I hg2 hm2 boot_set ?_)
  refine PyProof.Rows.callWith_type1 (PyProof.Rows.args_cons (thn (ha.run pins s σ H _ I h) fun v s1 ⟨x, H1, I1, r1, q1⟩ => PyProof.Rows.args_nil ?_) na) na rfl
  obtain ⟨l, ns, rfl, hq, hl, q1⟩ := q1
  cases r1
  obtain ⟨its, r, pl, hz⟩ := I1.list hq
  have hlen : its.toArray.size = ns.length := by rw [List.size_toArray, ← r.length, List.length_map]
  refine call_set_list (I1.ok.hd hc) pl.isList (by simpa using RZ.intsAre_vals r) (by rw [hlen]; unfold scanBound; omega) fun h' tk hS hk => ?_
  refine PyProof.Rows.args_nil ?_
  rw [hlen] at hS
  have hle := PyProof.Rows.firstMet_length_le (fun i => ns.getD i 0) ns.length
  obtain ⟨o, es, ep, t, ho, hex, hd, _, _, _, hf, hn⟩ := hS
  have I2 : Inv X pins σ H1 { s1 with heap := h', toks := tk } := I1.kept fun b o e => hk b o (Heap.lt_size e) e
  exact call_len_set ho hex hd hf (by rw [hn] <;> omega) ⟨.int (many ns : Nat), H1, I2.tok _, ⟨_, by rw [hn] <;> rfl⟩, q1⟩
theorem sd_lenSI (hg : Gl X "len") (hm : X.mg "len" = none) (hg2 : Gl X "set") (hm2 : X.mg "set" = none) (ha : PE X a (tE xr X.K W f)) (hc : X.calm = true := by rfl)
    (na : starEach [a] X.env = (false, eval a X.env) :: starEach [] X.env := by rfl) : PE X (.Call (.Name "len" p) [.Call (.Name "set" p2) [a] [] q] [] pos) (tE xr X.K W (lsE f)) := by
  refine pe_imp (pe_lenSI hg hm hg2 hm2 ha hc na) fun σ H Q h => ?_
  refine tG_bind (Rc := RelR X.K) h fun m fp x m1 v H1 fp1 r0 r1 s1 rx p => ?_
  unfold lsK at p
  split at p
  · rename_i xs
    split at p
    · rename_i ns en
      split at p
      · rename_i hl
        obtain ⟨a, ys, rfl, hy, g0, n, nf⟩ := rx
        have exs := intsOf_some en
        subst exs
        have ey := fz_tup_ints g0
        subst ey
        exact ⟨a, ns, rfl, .inl (.inl hy), hl, p _ H1 fp1 r1 s1 (.int _)⟩
      · exact p.elim
    · exact p.elim
  · exact p.elim
end
theorem ev_pick {fms : List Fm} {fi : Ev Rv} {fs : List (Ev Rv)} {m : Sm} : pickE fms fi fs m = Res.bind (fi m) (pkK fms fs) := rfl
theorem ev_pkK {fms : List Fm} {fs : List (Ev Rv)} {fm : Fm} {k : Nat} {m : Sm} (h : fms[k]? = some fm) : pkK fms fs (.d (.int (k : Int))) m = callE fm fs m := by
  show (if 0 ≤ (k : Int) then match fms[(k : Int).toNat]? with
    | some fm => callE fm fs m
    | none => .no
    else .no) = _
  rw [if_pos (by omega), Int.toNat_natCast, h]
theorem ev_ls {f : Ev Rv} {m : Sm} : lsE f m = Res.bind (f m) lsK := rfl
theorem ev_lsK {ns : List Int} {m : Sm} (h : ns.length ≤ 4000) : lsK (.nl (ns.map .int)) m = .ok (.d (.int (many ns : Nat))) m := by
  show (match intsOf (ns.map PyData.int) with
    | some ns => if ns.length ≤ 4000 then Res.ok (Rv.d (.int (many ns : Nat))) m else .no
    | none => .no) = _
  rw [intsOf_map]
  exact if_pos h
end PyE

/-! PyE: k in a module's dict of ints; bool(i) -/
namespace PyE
open PySem PySem.Spec PyProof.Rows
open L2
theorem IntEs.there : ∀ {kvs : List (Int × Int)} {l : List DictEntry}, IntEs kvs l → ∀ i, ((l.find? fun e => Value.isInt i e.key).map (·.val)).isSome = (gdx kvs i).isSome
  | [], [], _, i => rfl
  | [], _ :: _, h, _ => h.elim
  | _ :: _, [], h, _ => h.elim
  | p :: r, e :: l, ⟨⟨t, t2, h1, h2, h3⟩, h⟩, i => by
    rw [List.find?_cons]
    have e1 : Value.isInt i e.key = decide (p.1 = i) := by
      rw [h1]
      by_cases q : p.1 = i
      · rw [decide_eq_true q, q]; simp [Value.isInt]
      · rw [decide_eq_false q]
        cases hq : Value.isInt i (.int p.1 t) with
        | false => rfl
        | true => simp [Value.isInt] at hq; exact absurd hq (by first | exact q | exact fun z => q z.symm)
    rw [e1]
    have ih := h.there i
    unfold gdx at ih ⊢
    rw [List.find?_cons]
    by_cases q : p.1 = i
    · rw [decide_eq_true q]; rfl
    · rw [decide_eq_false q]; exact ih
section
variable {X : Cx} {xr : XR} {W : WX} {fa : Ev Rv} {x : Str} {a : Expr} {pos p2 : Pos}
def rInK (K : PySem.W.Frag) (neg : Bool) : R2 := fun x y H Q => ∃ p kvs i, y = .ref p ∧ x = .int i ∧ KDctI K p kvs ∧ (p == sysModules) = false ∧ Q (.bl (neg != (gdx kvs i).isSome)) H
theorem map_kdI {pins : List (Addr × Obj)} {σ : St} {H : Hp} {s : Shared} {p : Addr} {kvs : List (Int × Int)} (I : Inv X pins σ H s) (hk : KDctI X.K p kvs) : ∃ f, s.heap.MapOf (PySem.intKind X.prog X.w) p f ∧ ∀ i, (f i).isSome = (gdx kvs i).isSome := by
  obtain ⟨es, n, hl, he⟩ := hk
  refine ⟨fun k => findBy Value.isInt es k, ⟨_, es, n, I.kIn _ _ hl, ⟨rfl, rfl, rfl⟩, rfl, fun e' he' => he.keys e' (Array.mem_toList_iff.mpr he'), fun _ => rfl⟩, fun i => ?_⟩
  rw [← he.there i]
  show (findBy Value.isInt es i).isSome = _
  unfold findBy
  obtain ⟨l⟩ := es
  rw [List.find?_toArray]
theorem in_kdI : OpR X (compareOp .In) (rInK X.K false) := by
  intro pins s σ H x y v u Q I rx ry h
  obtain ⟨p, kvs, i, rfl, rfl, hk, hp, q⟩ := h
  obtain rfl : u = Value.ref p := ry
  obtain ⟨t, rfl⟩ := rx
  obtain ⟨f, hm, hf⟩ := map_kdI I hk
  refine wpAny_in_of (knd := PySem.intKind X.prog X.w) (key := .int i t) (k := i) (show Value.isInt i (.int i t) = true by simp [Value.isInt]) hp hm ⟨.bl _, H, I.tok _, rfl, ?_⟩
  rw [hf i]
  rw [Bool.false_bne] at q
  exact q
theorem notIn_kdI : OpR X (compareOp .NotIn) (rInK X.K true) := by
  intro pins s σ H x y v u Q I rx ry h
  obtain ⟨p, kvs, i, rfl, rfl, hk, hp, q⟩ := h
  obtain rfl : u = Value.ref p := ry
  obtain ⟨t, rfl⟩ := rx
  obtain ⟨f, hm, hf⟩ := map_kdI I hk
  refine wpAny_notIn_of (knd := PySem.intKind X.prog X.w) (key := .int i t) (k := i) (show Value.isInt i (.int i t) = true by simp [Value.isInt]) hp hm ⟨.bl _, H, I.tok _, rfl, ?_⟩
  rw [hf i]
  rw [Bool.true_bne] at q
  exact q
def gdinD (neg : Bool) (kvs : List (Int × Int)) : PyData → Option Rv
  | .int i => bD (neg != (gdx kvs i).isSome)
  | _ => none
theorem opd_gdin {K : PySem.W.Frag} {a : Addr} {kvs : List (Int × Int)} (hk : KDctI K a kvs) (hp : (a == sysModules) = false) (neg : Bool) : Op1 K (fun x H Q => rInK K neg x (.ref a) H Q) (gdinD neg kvs) := by
  intro H y d z Q rb e q
  cases d with
  | int i =>
    cases e
    cases rb with
    | fz h =>
      cases fz_int h
      exact ⟨a, kvs, i, rfl, rfl, hk, hp, q _ _ (fun _ _ h => h) (.bl _)⟩
  | _ => cases e
theorem sd_gdin {kvs : List (Int × Int)} (hg : Gl X x) (hm : ∃ a, X.mg x = some (.ref a) ∧ KDctI X.K a kvs) (hp : ∀ a, X.mg x = some (.ref a) → (a == sysModules) = false) (ha : PE X a (tE xr X.K W fa)) (hd : (x == ("__debug__" : Str)) = false := by decide) (hb : behindInMarks .In (.Name x p2) = false := by with_unfolding_all rfl) : PE X (.Compare a [.In] [.Name x p2] pos) (tE xr X.K W (op1E (gdinD false kvs) fa)) := by
  obtain ⟨b, hm, hk⟩ := hm
  exact pe_imp (pe_cmpR in_kdI ha (pe_glob (v := .ref b) hg hm rfl hd) hb) fun σ H Q h => op1_ok (opd_gdin hk (hp b hm) false) h
theorem sd_gdnin {kvs : List (Int × Int)} (hg : Gl X x) (hm : ∃ a, X.mg x = some (.ref a) ∧ KDctI X.K a kvs) (hp : ∀ a, X.mg x = some (.ref a) → (a == sysModules) = false) (ha : PE X a (tE xr X.K W fa)) (hd : (x == ("__debug__" : Str)) = false := by decide) (hb : behindInMarks .NotIn (.Name x p2) = false := by with_unfolding_all rfl) : PE X (.Compare a [.NotIn] [.Name x p2] pos) (tE xr X.K W (op1E (gdinD true kvs) fa)) := by
  obtain ⟨b, hm, hk⟩ := hm
  exact pe_imp (pe_cmpR notIn_kdI ha (pe_glob (v := .ref b) hg hm rfl hd) hb) fun σ H Q h => op1_ok (opd_gdin hk (hp b hm) true) h
theorem st_gdin {kvs : List (Int × Int)} (hg : Gl X x) (hm : ∃ a, X.mg x = some (.ref a) ∧ KDctI X.K a kvs) (hp : ∀ a, X.mg x = some (.ref a) → (a == sysModules) = false) (ha : PE X a (tE xr X.K W fa)) (hd : (x == ("__debug__" : Str)) = false := by decide) (hb : behindInMarks .In (.Name x p2) = false := by with_unfolding_all rfl) : PT X (.Compare a [.In] [.Name x p2] pos) (tT xr X.K W (boolE (op1E (gdinD false kvs) fa))) := by
  obtain ⟨b, hm, hk⟩ := hm
  exact pt_imp (pt_cmpR in_kdI ha (pe_glob (v := .ref b) hg hm rfl hd) hb) fun σ H Q h => op1_ok (opd_gdin hk (hp b hm) false) (boolE_ok h)
theorem st_gdnin {kvs : List (Int × Int)} (hg : Gl X x) (hm : ∃ a, X.mg x = some (.ref a) ∧ KDctI X.K a kvs) (hp : ∀ a, X.mg x = some (.ref a) → (a == sysModules) = false) (ha : PE X a (tE xr X.K W fa)) (hd : (x == ("__debug__" : Str)) = false := by decide) (hb : behindInMarks .NotIn (.Name x p2) = false := by with_unfolding_all rfl) : PT X (.Compare a [.NotIn] [.Name x p2] pos) (tT xr X.K W (boolE (op1E (gdinD true kvs) fa))) := by
  obtain ⟨b, hm, hk⟩ := hm
  exact pt_imp (pt_cmpR notIn_kdI ha (pe_glob (v := .ref b) hg hm rfl hd) hb) fun σ H Q h => op1_ok (opd_gdin hk (hp b hm) true) (boolE_ok h)
/-! ### bool(i) -/
def booD : List PyData → Option Rv
  | [.int i] => bD (i != 0)
  | [.bool b] => bD b
  | _ => none
theorem opd_boo {K : PySem.W.Frag} : OpN K (fun xs H Q => (∃ i, xs = [.int i] ∧ Q (.bl (i != 0)) H) ∨ ∃ k, xs = [.bl k] ∧ Q (.bl k) H) booD := by
  intro H xs as z Q rx e q
  unfold booD at e
  split at e
  · cases e
    obtain ⟨v, rfl, hv⟩ := rba1 rx
    cases hv with
    | fz h => cases fz_int h; exact .inl ⟨_, rfl, q _ _ (fun _ _ h => h) (.bl _)⟩
  · cases e
    obtain ⟨v, rfl, hv⟩ := rba1 rx
    cases hv with
    | fz h => cases fz_bool h; exact .inr ⟨_, rfl, q _ _ (fun _ _ h => h) (.bl _)⟩
  · cases e
end
end PyE

/-! PyB: t[::-1], t a tuple -/
namespace PyE
open PySem PySem.Spec PyProof.Rows
open L2
theorem fmap_all {α β : Type} {f : α → Option β} {g : α → β} : ∀ {l : List α}, (∀ m ∈ l, f m = some (g m)) → l.filterMap f = l.map g
  | [], _ => rfl
  | m :: l, h => by
    rw [List.filterMap_cons, h m (List.mem_cons_self ..), fmap_all fun y hy => h y (List.mem_cons_of_mem _ hy)]
    rfl
theorem rev_pick (items : Array Value) : ((List.range items.size).filterMap fun (m : Nat) => items[(((items.size : Int) - 1) + (m : Int) * (-1)).toNat]?).toArray = items.toList.reverse.toArray := by
  congr 1
  refine List.ext_getElem? fun i => ?_
  have e : ((List.range items.size).filterMap fun (m : Nat) => items[(((items.size : Int) - 1) + (m : Int) * (-1)).toNat]?) = (List.range items.size).map fun (m : Nat) => items.getD (items.size - 1 - m) .none := by
    refine fmap_all fun m hm => ?_
    have hm : m < items.size := List.mem_range.mp hm
    have h1 : (((items.size : Int) - 1) + (m : Int) * (-1)).toNat = items.size - 1 - m := by omega
    rw [h1]
    have h2 : items.size - 1 - m < items.size := by omega
    rw [Array.getElem?_eq_getElem h2, Array.getD_eq_getD_getElem?, Array.getElem?_eq_getElem h2]
    rfl
  rw [e]
  by_cases hi : i < items.size
  · rw [List.getElem?_map, List.getElem?_range hi, List.getElem?_reverse (by simpa using hi), Array.length_toList]
    have h2 : items.size - 1 - i < items.size := by omega
    rw [Array.getElem?_toList, Array.getElem?_eq_getElem h2]
    show some (items.getD (items.size - 1 - i) .none) = _
    rw [Array.getD_eq_getD_getElem?, Array.getElem?_eq_getElem h2]
    rfl
  · rw [List.getElem?_eq_none (by simp; omega), List.getElem?_eq_none (by simp; omega)]
theorem rev_adjust (n : Nat) : Builtin.Slice.sliceAdjust none none (-1) (n : Int) = ((n : Int) - 1, -1) := rfl
theorem rev_places (n : Nat) : Builtin.Slice.slicePlaces ((n : Int) - 1) (-1) (-1) = n := by
  unfold Builtin.Slice.slicePlaces
  rw [if_neg (by decide)]
  by_cases h : n = 0
  · subst h; rfl
  · rw [if_pos (by omega), Int.neg_neg, Int.ediv_one]
    omega
section
variable {prog : Program} {w : World} {A : Around} {E : Value → Shared → Prop} {s : Shared}
theorem sliceApplied_rev {sl : Addr} {vl vu vs : Value} {n : Nat} {Q : Int × Int × Nat → Shared → Prop} (hs : s.heap.IsSliceOf sl vl vu vs) (pl : IsPart vl none) (pu : IsPart vu none) (ps : IsPart vs (some (-1)))
    (h : Q ((n : Int) - 1, -1, n) s) : wpAny (model prog w) A (Builtin.Slice.sliceApplied (.ref sl) (pure (n : Int))) Q E s := by
  obtain ⟨os, hos, hcs, hds⟩ := id hs
  unfold Builtin.Slice.sliceApplied Builtin.Slice.sliceFields
  refine wpAny_bind (wpAny_bind (wpAny_field hos hds (x := vl) rfl (wpAny_bind (wpAny_field hos hds (x := vu) rfl (wpAny_bind (wpAny_field hos hds (x := vs) rfl (wpAny_pure ?_)))))))
  refine wpAny_bind (HT.slicePart_ ps ?_)
  show wpAny _ _ (if ((-1 : Int) == 0) = true then _ else _) _ _ s
  rw [if_neg (by decide)]
  refine wpAny_bind (HT.slicePart_ pl (wpAny_bind (HT.slicePart_ pu (wpAny_bind (wpAny_pure ?_)))))
  show wpAny _ _ (match Builtin.Slice.sliceAdjust none none (-1) (n : Int) with | (lo, hi) => pure (lo, (-1 : Int), Builtin.Slice.slicePlaces lo hi (-1))) _ _ s
  rw [rev_adjust]
  show wpAny _ _ (pure ((n : Int) - 1, (-1 : Int), Builtin.Slice.slicePlaces ((n : Int) - 1) (-1) (-1))) _ _ s
  rw [rev_places]
  exact wpAny_pure h
theorem getItem_tuple_rev {t sl : Addr} {items : Array Value} {vl vu vs : Value} {Q : Value → Shared → Prop} (ht : IsTup s.heap t items) (hs : s.heap.IsSliceOf sl vl vu vs) (pl : IsPart vl none) (pu : IsPart vu none) (ps : IsPart vs (some (-1)))
    (h : Q (.ref s.heap.objs.size) { s with heap := s.heap.push { cls := .type "tuple", data := .seq items.toList.reverse.toArray } })
    (hsz : items.size ≤ sizeLine) : wpAny (model prog w) A (getItem (.ref t) (.ref sl)) Q E s := by
  have htake : sizeOk (.seq items.toList.reverse.toArray) := by
    show items.toList.reverse.toArray.size ≤ sizeLine
    rw [List.size_toArray, List.length_reverse, Array.length_toList]
    exact hsz
  obtain ⟨os, hos, hcs, hds⟩ := id hs
  have hTs : s.TypeIs (.ref sl) "slice" := ⟨os, hos, hcs⟩
  unfold getItem
  try with_reducible refine wpAny_holding ?_
  first | refine wpAny_bind (wpAny_pure ?_) | skip
  refine wpAny_bind (wpAny_sequenceKey ht.typeIs (by decide) ?_)
  refine wpAny_bind (wpAny_callSpecial?_slot (name := Str.ofString "__getitem__") ht.typeIs PyProof.Rows.slot_tuple_getitem
    (wpAny_call_entry PyProof.Rows.slot_tuple_getitem ht.typeIs PyProof.Rows.entry_tuple_getitem ?_ (PyProof.Rows.args_tuple_getitem _ _)))
  show wpAny _ _ (Builtin.Tuple.tupleItemsOf (.ref t) >>= _) _ _ s
  refine wpAny_bind (PyProof.Rows.tupleItemsOf_ ht ?_)
  refine wpAny_bind (wpAny_typeOf hTs ?_)
  rw [if_pos (by decide)]
  refine wpAny_bind (sliceApplied_rev hs pl pu ps ?_)
  have hno : ¬ ((((items.size : Int) - 1) == 0 && (-1 : Int) == 1 && items.size == items.size) = true) := by
    intro q
    rw [Bool.and_eq_true, Bool.and_eq_true] at q
    exact absurd q.1.2 (by decide)
  show wpAny _ _ (if (((items.size : Int) - 1) == 0 && (-1 : Int) == 1 && items.size == items.size) = true then _ else _) _ _ s
  rw [if_neg hno, rev_pick]
  first
    | exact wpAny_bind (m := Builtin.Tuple.tupleExact _) (wpAny_newObj_type (wpAny_pure ⟨_, rfl, wpAny_pure h⟩) htake)
    | exact wpAny_bind (m := Builtin.Tuple.tupleExact _) (wpAny_newObj_type (wpAny_bind (wpAny_pure (wpAny_pure ⟨_, rfl, wpAny_pure h⟩))) htake)
    | exact wpAny_bind (wpAny_bind (m := Builtin.Tuple.tupleExact _) (wpAny_newObj_type (wpAny_pure (wpAny_pure ⟨_, rfl, wpAny_pure h⟩)) htake))
    | exact wpAny_bind (wpAny_bind (m := Builtin.Tuple.tupleExact _) (wpAny_newObj_type (wpAny_pure ⟨_, rfl, wpAny_pure h⟩) htake))
end
def tRevT (K : PySem.W.Frag) (te : TE) : TE := fun σ H Q => te σ H fun x H1 => ∃ a xs, x = .ref a ∧ SqT K H1 a xs ∧ ∀ p o, H1 p = none → o.dict = none → Q (.ref p) (upd H1 p (.frz o (.tup xs.reverse)))
section
variable {X : Cx}
theorem pe_revT {e : Expr} {te : TE} {k : Nat} {p1 p2 p3 pos : Pos} (he : PE X e te) : PE X (.Subscript e (.Slice none none (some (.UnaryOp .USub (.Constant (.int 1) k p1) p2)) p3) pos) (tRevT X.K te) := by
  refine ⟨fun pins s σ H Q I h => ?_⟩
  refine Subscript_ (thn (he.run pins s σ H _ I h) fun v s1 ⟨x, H1, I1, r1, q1⟩ => ?_)
  obtain ⟨a, xs, ex, hx, q⟩ := q1
  subst ex
  cases r1
  have hst : PO X (some (.UnaryOp .USub (.Constant (.int 1) k p1) p2)) (tPart (tUn (rU fun i => .int (-i)) (tC (.int 1)))) := po_some (pe_un un_neg pe_int)
  refine wpAny_Slice (thn (po_none.run pins s1 σ H1 (fun o H2 => o = none ∧ H2 = H1) I1 ⟨rfl, rfl⟩) fun vl s2 ⟨l, H2, I2, pl, el, e2⟩ => ?_)
  subst el e2
  refine thn (po_none.run pins s2 σ H2 (fun o H3 => o = none ∧ H3 = H2) I2 ⟨rfl, rfl⟩) fun vu s3 ⟨u, H3, I3, pu, eu, e3⟩ => ?_
  subst eu e3
  refine thn (hst.run pins s3 σ H3 (fun o H4 => o = some (-1) ∧ H4 = H3) I3 ⟨1, rfl, -1, rfl, rfl, rfl⟩) fun vs s4 ⟨o, H4, I4, ps, eo, e4⟩ => ?_
  subst eo e4
  have I5 : Inv X pins σ H4 { s4 with heap := s4.heap.push { cls := .type "slice", data := .fields #[vl, vu, vs] } } := I4.kept (t' := s4.toks) fun b ob q => Heap.get?_push_of_some _ q
  obtain ⟨its, r, ht, hz⟩ := I5.tuple hx
  have hlen := r.length
  show wpAny (model X.prog X.w) X.A (subscriptTail e (.Slice none none (some (.UnaryOp .USub (.Constant (.int 1) k p1) p2)) p3) (.ref a) (.ref s4.heap.objs.size)) (EP X pins σ Q) X.xe { s4 with heap := s4.heap.push { cls := .type "slice", data := .fields #[vl, vu, vs] } }
  refine tail_any (ops := [.ref a, .ref s4.heap.objs.size]) ht.typeIs (PyProof.Rows.slot_tuple_getitem.lookup) ?_ (by with_unfolding_all rfl)
  refine getItem_tuple_rev ht (Heap.IsSliceOf.new _ vl vu vs) pl pu ps ?_ (by rw [List.size_toArray]; omega)
  have e := Heap.get?_push_size (s4.heap.push { cls := .type "slice", data := .fields #[vl, vu, vs] }) (o := { cls := .type "tuple", data := .seq its.toArray.toList.reverse.toArray }) rfl
  exact ⟨.ref _, _, I5.laid (t' := s4.toks) (o := .frz _ (.tup xs.reverse)) (fun b ob q => Heap.get?_push_of_some _ q) (Nat.le_refl _) ⟨e, by rw [List.length_reverse]; exact hz, _, r.reverse, IsTup.new _ _⟩, rfl, q _ _ (I5.hok.fresh (Nat.le_refl _)) rfl⟩
end
def revTK : Rv → Ev Rv := fun r m => match deref m r with
  | some (.tuple xs) => .ok (.d (.tuple xs.reverse)) m
  | _ => .no
def revTE (f : Ev Rv) : Ev Rv := bnd f revTK
section
variable {xr : XR} {W : WX} {X : Cx} {a : Expr} {f : Ev Rv} {pos : Pos}
theorem sd_revT {k : Nat} {p1 p2 p3 : Pos} (he : PE X a (tE xr X.K W f)) : PE X (.Subscript a (.Slice none none (some (.UnaryOp .USub (.Constant (.int 1) k p1) p2)) p3) pos) (tE xr X.K W (revTE f)) := by
  refine pe_imp (pe_revT he) fun σ H Q h => tG_bind (Rc := RelR X.K) h fun m fp r m1 v H1 fp1 r0 r1 s1 ra p => ?_
  unfold revTK at p
  cases e1 : deref m1 r with
  | none => simp only [e1] at p; exact p.elim
  | some d =>
    cases d with
    | tuple xs =>
      simp only [e1] at p
      have rb := ra.rb r1 e1
      obtain ⟨a, ys, rfl, hp, g⟩ : ∃ p ys, v = .ref p ∧ SqT X.K H1 p ys ∧ FzAll X.K H1 ys xs := by
        cases rb with
        | fz h1 => cases h1 with
          | tup h2 g => exact ⟨_, _, rfl, h2.sq, g⟩
      have up : ∀ {p : Addr} {o : HO}, H1 p = none → Same H1 (upd H1 p o) := fun hp b o e => by rw [upd_ne (ne_of_none e hp)]; exact e
      refine ⟨a, ys, rfl, hp, fun b o hb ho => ?_⟩
      exact p (.ref b) _ fp1 (r1.same (up hb)) (s1.trans (.same (up hb))) (.tup ⟨o, upd_same, ho⟩ ((g.reverse).keep (PyE.Same.toKeep (up hb))))
    | _ => simp only [e1] at p; exact p.elim
end
theorem ev_revT {f : Ev Rv} {m : Sm} : revTE f m = Res.bind (f m) revTK := rfl
theorem revTK_t {xs : List PyData} {m : Sm} : revTK (.d (.tuple xs)) m = .ok (.d (.tuple xs.reverse)) m := rfl
end PyE

/-! PyP: the plain side: data that are shown and compared without trouble -/
namespace PyE
open PySem PySem.Spec PyProof.Rows
open L2

mutual
/-- how many nodes, letters -/
def cnt : PyData → Nat
  | .none => 1
  | .bool _ => 1
  | .int _ => 1
  | .str x => 1 + x.cps.size
  | .list xs => 1 + cntAll xs
  | .tuple xs => 1 + cntAll xs
  | .dict _ => 1
def cntAll : List PyData → Nat
  | [] => 0
  | x :: xs => cnt x + cntAll xs
end
mutual
/-- no dict; ints of at most 100 digits; texts of code points -/
def tame : PyData → Bool
  | .none => true
  | .bool _ => true
  | .int i => decide (i.natAbs < 10 ^ 100)
  | .str x => PyData.strOk x
  | .list xs => tameAll xs
  | .tuple xs => tameAll xs
  | .dict _ => false
def tameAll : List PyData → Bool
  | [] => true
  | x :: xs => tame x && tameAll xs
end
mutual
theorem tame_lay : ∀ {d : PyData}, tame d = true → d.canLay0 = true
  | .none, _ => rfl
  | .bool _, _ => rfl
  | .int _, _ => rfl
  | .str x, h => by simpa only [tame, PyData.canLay0] using h
  | .list xs, h => by simp only [tame] at h; simpa only [PyData.canLay0] using tameAll_lay h
  | .tuple xs, h => by simp only [tame] at h; simpa only [PyData.canLay0] using tameAll_lay h
  | .dict _, h => by simp [tame] at h
theorem tameAll_lay : ∀ {ds : List PyData}, tameAll ds = true → PyData.canLayAll0 ds = true
  | [], _ => by simp only [PyData.canLayAll0]
  | x :: xs, h => by
    simp only [tameAll, Bool.and_eq_true] at h
    simp only [PyData.canLayAll0, Bool.and_eq_true]
    exact ⟨tame_lay h.1, tameAll_lay h.2⟩
end
theorem log2_lt {n : Nat} (h : n < 10 ^ 100) : n.log2 < 1920 := by
  by_cases h0 : n = 0
  · subst h0; decide
  · exact (Nat.log2_lt h0).mpr (Nat.lt_of_lt_of_le h (by decide +kernel))
mutual
theorem tame_showable : ∀ {d : PyData}, tame d = true → d.showable = true
  | .none, _ => rfl
  | .bool _, _ => rfl
  | .int i, h => by simp only [tame, decide_eq_true_eq] at h; simp only [PyData.showable, decide_eq_true_eq]; exact log2_lt h
  | .str x, h => rfl
  | .list xs, h => by simp only [tame] at h; simpa only [PyData.showable] using tameAll_showable h
  | .tuple xs, h => by simp only [tame] at h; simpa only [PyData.showable] using tameAll_showable h
  | .dict _, h => by simp [tame] at h
theorem tameAll_showable : ∀ {ds : List PyData}, tameAll ds = true → PyData.showableAll ds = true
  | [], _ => by simp only [PyData.showableAll]
  | x :: xs, h => by
    simp only [tameAll, Bool.and_eq_true] at h
    simp only [PyData.showableAll, Bool.and_eq_true]
    exact ⟨tame_showable h.1, tameAll_showable h.2⟩
end
mutual
theorem tame_len : ∀ {d : PyData}, tame d = true → d.shown.length + 2 ≤ 112 * cnt d
  | .none, _ => by decide
  | .bool b, _ => by cases b <;> decide
  | .int i, h => by
    simp only [tame, decide_eq_true_eq] at h
    have e := int_text_length_le10 (k := 100) (by decide) h
    have e2 : (PyData.shown (.int i)).length ≤ 101 := by
      show (Str.ofString (toString i)).length ≤ 101
      rw [PySem.ofString_length]; exact e
    simp only [cnt]
    omega
  | .str x, h => by
    simp only [tame] at h
    have hx : ∀ c ∈ x.cps.toList, c < 16 ^ 8 := fun c hc => by
      have := (Array.all_eq_true_iff_forall_mem.mp h) c (Array.mem_toList_iff.mp hc)
      have : c < 0x110000 := by simpa using this
      omega
    have e := PySem.StrLaws.reprText_len x hx
    have e2 : x.length = x.cps.size := rfl
    simp only [PyData.shown, cnt]
    omega
  | .list xs, h => by
    simp only [tame] at h
    have h1 := tameAll_len h
    have h2 := listText_len_le (PyData.shownAll xs)
    have h3 := PyData.shownAll_length xs
    simp only [PyData.shown, cnt]
    omega
  | .tuple xs, h => by
    simp only [tame] at h
    have h1 := tameAll_len h
    have h2 := tupleText_len_le (PyData.shownAll xs)
    have h3 := PyData.shownAll_length xs
    simp only [PyData.shown, cnt]
    omega
  | .dict _, h => by simp [tame] at h
theorem tameAll_len : ∀ {ds : List PyData}, tameAll ds = true → ((PyData.shownAll ds).map (·.length)).sum + 2 * ds.length ≤ 112 * cntAll ds
  | [], _ => by simp [PyData.shownAll, cntAll]
  | x :: xs, h => by
    simp only [tameAll, Bool.and_eq_true] at h
    have h1 := tame_len h.1
    have h2 := tameAll_len h.2
    have h3 : 1 ≤ cnt x := by cases x <;> simp [cnt] <;> omega
    simp only [PyData.shownAll, cntAll, List.map_cons, List.sum_cons, List.length_cons]
    omega
end
end PyE

/-! PyP: the evaluator's equations, one per word, each with a named rest: simp evaluates from the inside -/
namespace PyE
open PySem PySem.Spec PyProof.Rows
open L2
section
variable {α β : Type} {m m' : Sm} {f g h fa fb : Ev Rv} {fs gs : List (Ev Rv)}
theorem eb_ok {a : α} {k : α → Ev β} : Res.bind (.ok a m) k = k a m := rfl
theorem eb_no {k : α → Ev β} : Res.bind .no k = .no := rfl
theorem eb_ex {e : Ex} {k : α → Ev β} : Res.bind (.ex e m) k = .ex e m := rfl
theorem eb_bnd {f : Ev α} {k : α → Ev β} : bnd f k m = Res.bind (f m) k := rfl
/-! ### values -/
def frS (i : Nat) : Option (Option Mv) → Ev PyData := fun o m => match o with
  | some (some (.fz d)) => .ok d m
  | some (some (.ol xs)) => .ok (.list xs) (m.set i (some (.fz (.list xs))))
  | some (some (.od kvs)) => .ok (.dict kvs) (m.set i (some (.fz (.dict kvs))))
  | _ => .no
theorem ev_frz_nd {kvs : Kvs} : frz (.nd kvs) m = .ok (.dict kvs) m := rfl
theorem ev_frS_od {i : Nat} {kvs : Kvs} : frS i (some (some (.od kvs))) m = .ok (.dict kvs) (m.set i (some (.fz (.dict kvs)))) := rfl
theorem ev_frz : frzE f m = Res.bind (f m) frz := rfl
theorem ev_frz_d {d : PyData} : frz (.d d) m = .ok d m := rfl
theorem ev_frz_nl {xs : List PyData} : frz (.nl xs) m = .ok (.list xs) m := rfl
theorem ev_frz_s {i : Nat} : frz (.s i) m = frS i m[i]? m := rfl
theorem ev_frS_fz {i : Nat} {d : PyData} : frS i (some (some (.fz d))) m = .ok d m := rfl
theorem ev_frS_ol {i : Nat} {xs : List PyData} : frS i (some (some (.ol xs))) m = .ok (.list xs) (m.set i (some (.fz (.list xs)))) := rfl
def dK : PyData → Ev Rv := fun x m => .ok (.d x) m
theorem ev_dE {f : Ev PyData} : dE f m = Res.bind (f m) dK := rfl
theorem ev_dK {x : PyData} : dK x m = .ok (.d x) m := rfl
def slK (i : Nat) : Option (Option Mv) → Ev Rv := fun o m => match o with
  | some (some (.fz d)) => .ok (.d d) m
  | some (some _) => .ok (.s i) m
  | _ => .no
theorem ev_slot {i : Nat} : slotE i m = slK i m[i]? m := rfl
theorem ev_slK_fz {i : Nat} {d : PyData} : slK i (some (some (.fz d))) m = .ok (.d d) m := rfl
theorem ev_slK_ol {i : Nat} {xs : List PyData} : slK i (some (some (.ol xs))) m = .ok (.s i) m := rfl
theorem ev_slK_od {i : Nat} {xs : Kvs} : slK i (some (some (.od xs))) m = .ok (.s i) m := rfl
theorem ev_slK_rs {i k : Nat} {c : List Int} {a b : Int} : slK i (some (some (.rs k c a b))) m = .ok (.s i) m := rfl
theorem ev_data {d : PyData} : dataE d m = .ok (.d d) m := rfl
def drS : Option (Option Mv) → Option PyData
  | some (some (.fz d)) => some d
  | some (some (.ol xs)) => some (.list xs)
  | some (some (.od kvs)) => some (.dict kvs)
  | _ => none
theorem ev_de_d {d : PyData} : deref m (.d d) = some d := rfl
theorem ev_de_nl {xs : List PyData} : deref m (.nl xs) = some (.list xs) := rfl
theorem ev_de_nd {kvs : Kvs} : deref m (.nd kvs) = some (.dict kvs) := rfl
theorem ev_de_s {i : Nat} : deref m (.s i) = drS m[i]? := rfl
theorem ev_drS_fz {d : PyData} : drS (some (some (.fz d))) = some d := rfl
theorem ev_drS_ol {xs : List PyData} : drS (some (some (.ol xs))) = some (.list xs) := rfl
theorem ev_drS_od {xs : Kvs} : drS (some (some (.od xs))) = some (.dict xs) := rfl
theorem ev_fin {r : Rv} : fin1 (some r) m = .ok r m := rfl
/-! ### operators -/
def o2c (g : PyData → PyData → Option Rv) : Option PyData → Option PyData → Ev Rv := fun a b m => match a, b with
  | some a, some b => fin1 (g a b) m
  | _, _ => .no
def o2b (g : PyData → PyData → Option Rv) (x : Rv) : Rv → Ev Rv := fun y m => o2c g (deref m x) (deref m y) m
def o2a (g : PyData → PyData → Option Rv) (fb : Ev Rv) : Rv → Ev Rv := fun x m => (fb m).bind (o2b g x)
variable {g2 : PyData → PyData → Option Rv} {g1 : PyData → Option Rv} {gN : List PyData → Option Rv}
theorem ev_op2 : op2E g2 fa fb m = Res.bind (fa m) (o2a g2 fb) := rfl
theorem ev_o2a {x : Rv} : o2a g2 fb x m = Res.bind (fb m) (o2b g2 x) := rfl
theorem ev_o2b {x y : Rv} : o2b g2 x y m = o2c g2 (deref m x) (deref m y) m := rfl
theorem ev_o2c {a b : PyData} : o2c g2 (some a) (some b) m = fin1 (g2 a b) m := rfl
def o1b (g : PyData → Option Rv) : Option PyData → Ev Rv := fun a m => match a with
  | some a => fin1 (g a) m
  | _ => .no
def o1a (g : PyData → Option Rv) : Rv → Ev Rv := fun x m => o1b g (deref m x) m
theorem ev_op1 : op1E g1 fa m = Res.bind (fa m) (o1a g1) := rfl
theorem ev_o1a {x : Rv} : o1a g1 x m = o1b g1 (deref m x) m := rfl
theorem ev_o1b {a : PyData} : o1b g1 (some a) m = fin1 (g1 a) m := rfl
/-! ### tests -/
def te3 : Option Bool → Ev Bool := fun b m => match b with
  | some b => .ok b m
  | none => .no
def te2 : Option PyData → Ev Bool := fun d m => match d with
  | some d => te3 (truth d) m
  | none => .no
def teK : Rv → Ev Bool := fun x m => te2 (deref m x) m
theorem ev_test : testE f m = Res.bind (f m) teK := rfl
theorem ev_teK {x : Rv} : teK x m = te2 (deref m x) m := rfl
theorem ev_te2 {d : PyData} : te2 (some d) m = te3 (truth d) m := rfl
theorem ev_te3 {b : Bool} : te3 (some b) m = .ok b m := rfl
def boK : Rv → Ev Bool := fun x m => match x with
  | .d (.bool b) => .ok b m
  | _ => .no
theorem ev_bool : boolE f m = Res.bind (f m) boK := rfl
theorem ev_boK {b : Bool} : boK (.d (.bool b)) m = .ok b m := rfl
variable {c d : Ev Bool} {b : Bool}
def anK (g : Ev Bool) : Bool → Ev Bool := fun b => if b = true then g else fun m => .ok false m
def orK (g : Ev Bool) : Bool → Ev Bool := fun b => if b = true then fun m => .ok true m else g
def noK : Bool → Ev Bool := fun b m => .ok (!b) m
theorem ev_and : andT c d m = Res.bind (c m) (anK d) := rfl
theorem ev_anK_t : anK d true m = d m := rfl
theorem ev_anK_f : anK d false m = .ok false m := rfl
theorem ev_or : orT c d m = Res.bind (c m) (orK d) := rfl
theorem ev_orK_t : orK d true m = .ok true m := rfl
theorem ev_orK_f : orK d false m = d m := rfl
theorem ev_not : notT c m = Res.bind (c m) noK := rfl
theorem ev_noK : noK b m = .ok (!b) m := rfl
def aeK (g : Ev Rv) : Rv → Ev Rv := fun x => match x with
  | .d (.bool b) => if b = true then g else fun m => .ok (.d (.bool false)) m
  | _ => fun _ => .no
def oeK (g : Ev Rv) : Rv → Ev Rv := fun x => match x with
  | .d (.bool b) => if b = true then fun m => .ok (.d (.bool true)) m else g
  | _ => fun _ => .no
def neK : Rv → Ev Rv := fun x m => match x with
  | .d (.bool b) => .ok (.d (.bool !b)) m
  | _ => .no
theorem ev_andE : andE f g m = Res.bind (f m) (aeK g) := rfl
theorem ev_aeK_t : aeK g (.d (.bool true)) m = g m := rfl
theorem ev_aeK_f : aeK g (.d (.bool false)) m = .ok (.d (.bool false)) m := rfl
theorem ev_orE : orE f g m = Res.bind (f m) (oeK g) := rfl
theorem ev_oeK_t : oeK g (.d (.bool true)) m = .ok (.d (.bool true)) m := rfl
theorem ev_oeK_f : oeK g (.d (.bool false)) m = g m := rfl
theorem ev_notE : notE f m = Res.bind (f m) neK := rfl
theorem ev_neK : neK (.d (.bool b)) m = .ok (.d (.bool !b)) m := rfl
def ieK (f g : Ev Rv) : Bool → Ev Rv := fun b => if b = true then f else g
theorem ev_ifE : ifE c f g m = Res.bind (c m) (ieK f g) := rfl
theorem ev_ieK_t : ieK f g true m = f m := rfl
theorem ev_ieK_f : ieK f g false m = g m := rfl
/-! ### several -/
def aeD (r : Rv) : List Rv → Ev (List Rv) := fun rs m => .ok (r :: rs) m
def aeC (fs : List (Ev Rv)) : Rv → Ev (List Rv) := fun r m => (argsE fs m).bind (aeD r)
theorem ev_args0 : argsE [] m = .ok [] m := rfl
theorem ev_args : argsE (f :: fs) m = Res.bind (f m) (aeC fs) := rfl
theorem ev_aeC {r : Rv} : aeC fs r m = Res.bind (argsE fs m) (aeD r) := rfl
theorem ev_aeD {r : Rv} {rs : List Rv} : aeD r rs m = .ok (r :: rs) m := rfl
def adD (r : PyData) : List PyData → Ev (List PyData) := fun rs m => .ok (r :: rs) m
def adC (fs : List (Ev Rv)) : PyData → Ev (List PyData) := fun r m => (argsD fs m).bind (adD r)
theorem ev_argd0 : argsD [] m = .ok [] m := rfl
theorem ev_argd : argsD (f :: fs) m = Res.bind (frzE f m) (adC fs) := rfl
theorem ev_adC {r : PyData} : adC fs r m = Res.bind (argsD fs m) (adD r) := rfl
theorem ev_adD {r : PyData} {rs : List PyData} : adD r rs m = .ok (r :: rs) m := rfl
def tuK : List PyData → Ev Rv := fun ds m => .ok (.d (.tuple ds)) m
def liK : List PyData → Ev Rv := fun ds m => .ok (.nl ds) m
theorem ev_tup : tupE fs m = Res.bind (argsD fs m) tuK := rfl
theorem ev_tuK {ds : List PyData} : tuK ds m = .ok (.d (.tuple ds)) m := rfl
theorem ev_lst : lstE fs m = Res.bind (argsD fs m) liK := rfl
theorem ev_liK {ds : List PyData} : liK ds m = .ok (.nl ds) m := rfl
def onO (g : List PyData → Option Rv) : Option (List PyData) → Ev Rv := fun o m => match o with
  | some ds => fin1 (g ds) m
  | none => .no
def onK (g : List PyData → Option Rv) : List Rv → Ev Rv := fun rs m => onO g (derefs m rs) m
def consO : Option PyData → Option (List PyData) → Option (List PyData)
  | some d, some ds => some (d :: ds)
  | _, _ => none
theorem ev_opN : opNE gN fs m = Res.bind (argsE fs m) (onK gN) := rfl
theorem ev_onK {rs : List Rv} : onK gN rs m = onO gN (derefs m rs) m := rfl
theorem ev_onO {ds : List PyData} : onO gN (some ds) m = fin1 (gN ds) m := rfl
theorem ev_des0 : derefs m [] = some [] := rfl
theorem ev_des {r : Rv} {rs : List Rv} : derefs m (r :: rs) = consO (deref m r) (derefs m rs) := rfl
theorem ev_consO {d : PyData} {ds : List PyData} : consO (some d) (some ds) = some (d :: ds) := rfl
/-! ### slices -/
def slC (a : Rv) (l : Option Int) : Option Int → Ev Rv := fun u m => match deref m a with
  | some a => fin1 (sliceD a l u) m
  | none => .no
def slB (a : Rv) (hi : Option (Ev Rv)) : Option Int → Ev Rv := fun l m => (partE hi m).bind (slC a l)
def slA (lo hi : Option (Ev Rv)) : Rv → Ev Rv := fun x m => (partE lo m).bind (slB x hi)
def paK : Rv → Ev (Option Int) := fun r m => match r with
  | .d (.int i) => .ok (some i) m
  | _ => .no
variable {lo hi : Option (Ev Rv)}
theorem ev_slice : sliceE f lo hi m = Res.bind (f m) (slA lo hi) := rfl
theorem ev_slA {x : Rv} : slA lo hi x m = Res.bind (partE lo m) (slB x hi) := rfl
theorem ev_slB {x : Rv} {l : Option Int} : slB x hi l m = Res.bind (partE hi m) (slC x l) := rfl
theorem ev_slC_d {x : PyData} {l u : Option Int} : slC (.d x) l u m = fin1 (sliceD x l u) m := rfl
theorem ev_slC_nl {x : List PyData} {l u : Option Int} : slC (.nl x) l u m = fin1 (sliceD (.list x) l u) m := rfl
def slD (l u : Option Int) : Option PyData → Ev Rv := fun o m => match o with
  | some a => fin1 (sliceD a l u) m
  | none => .no
theorem ev_slC_s {i : Nat} {l u : Option Int} : slC (.s i) l u m = slD l u (drS m[i]?) m := rfl
theorem ev_slD {x : PyData} {l u : Option Int} : slD l u (some x) m = fin1 (sliceD x l u) m := rfl
theorem ev_part0 : partE none m = .ok none m := rfl
theorem ev_part : partE (some f) m = Res.bind (f m) paK := rfl
theorem ev_paK {i : Int} : paK (.d (.int i)) m = .ok (some i) m := rfl
/-! ### sources of walks -/
def isK : PyData → Ev (List PyData) := fun d m => match d with
  | .list xs => .ok xs m
  | .tuple xs => .ok xs m
  | _ => .no
theorem ev_seq : itSeq f m = Res.bind (frzE f m) isK := rfl
theorem ev_isK_l {xs : List PyData} : isK (.list xs) m = .ok xs m := rfl
theorem ev_isK_t {xs : List PyData} : isK (.tuple xs) m = .ok xs m := rfl
def irK (a b : Int) : Ev (List PyData) := fun m => if okRg a b = true then .ok (rangeD a b) m else .no
def ir1 : List Rv → Ev (List PyData) := fun rs m => match rs with
  | [.d (.int n)] => if okRg 0 n = true then .ok (rangeD 0 n) m else .no
  | _ => .no
def ir2 : List Rv → Ev (List PyData) := fun rs m => match rs with
  | [.d (.int a), .d (.int b)] => if okRg a b = true then .ok (rangeD a b) m else .no
  | _ => .no
theorem ev_rg1 : itRange1 fs m = Res.bind (argsE fs m) ir1 := rfl
theorem ev_ir1 {n : Int} : ir1 [.d (.int n)] m = irK 0 n m := rfl
theorem ev_rg2 : itRange2 fs m = Res.bind (argsE fs m) ir2 := rfl
theorem ev_ir2 {a b : Int} : ir2 [.d (.int a), .d (.int b)] m = irK a b m := rfl
theorem ev_irK {a b : Int} (h : okRg a b = true) : irK a b m = .ok (rangeD a b) m := if_pos h
def enK : List PyData → Ev (List PyData) := fun ds m => .ok (enumD ds) m
theorem ev_enum : itEnum f m = Res.bind (itSeq f m) enK := rfl
theorem ev_enK {ds : List PyData} : enK ds m = .ok (enumD ds) m := rfl
end
end PyE

/-! PyP: equations of zip, comprehensions, statements, calls -/
namespace PyE
open PySem PySem.Spec PyProof.Rows
open L2
section
variable {α β : Type} {m m' : Sm} {f fa fb : Ev Rv} {fs gs : List (Ev Rv)} {g h : Sf}
def ziO : Option (List PyData) → Option (List PyData) → Ev (List PyData) := fun a b m => match a, b with
  | some xs, some ys => .ok (zipD xs ys) m
  | _, _ => .no
def ziK : List PyData → Ev (List PyData) := fun ds m => match ds with
  | [x, y] => match seqOf x, seqOf y with
    | some xs, some ys => .ok (zipD xs ys) m
    | _, _ => .no
  | _ => .no
theorem ev_zip : itZip fs m = Res.bind (argsD fs m) ziK := rfl
theorem ev_ziK {x y : PyData} : ziK [x, y] m = ziO (seqOf x) (seqOf y) m := rfl
theorem ev_ziO {xs ys : List PyData} : ziO (some xs) (some ys) m = .ok (zipD xs ys) m := rfl
theorem ev_sq_l {xs : List PyData} : seqOf (.list xs) = some xs := rfl
theorem ev_sq_t {xs : List PyData} : seqOf (.tuple xs) = some xs := rfl
def zi3K : List PyData → Ev (List PyData) := fun ds m => match ds with
  | [x, y, z] => match seqOf x, seqOf y, seqOf z with
    | some xs, some ys, some zs => .ok (zip3D xs ys zs) m
    | _, _, _ => .no
  | _ => .no
theorem ev_zip3 : itZip3 fs m = Res.bind (argsD fs m) zi3K := rfl
/-! ### comprehensions -/
variable {own : List Nat} {it : Ev (List PyData)} {bt : Tg} {tst : Ev Bool} {e : Ev PyData}
def coF (own : List Nat) (m1 : Sm) : Res (List PyData) → Res Rv
  | .ok acc m2 => .ok (.nl acc) (restM m1 m2 own)
  | _ => .no
def coK (own : List Nat) (bt : Tg) (tst : Ev Bool) (elt : Ev Rv) : List PyData → Ev Rv := fun ds m => coF own m (compL own bt tst (frzE elt) ds [] (wipeM m own))
theorem ev_comp : compE own it bt tst f m = Res.bind (it m) (coK own bt tst f) := by
  unfold compE bnd
  cases it m <;> rfl
theorem ev_coK {ds : List PyData} : coK own bt tst f ds m = coF own m (compL own bt tst (frzE f) ds [] (wipeM m own)) := rfl
theorem ev_coF {acc : List PyData} {m2 : Sm} : coF own m (.ok acc m2) = .ok (.nl acc) (restM m m2 own) := rfl
theorem ev_wipe0 : wipeM m [] = m := rfl
theorem ev_wipe {v : Nat} {vs : List Nat} : wipeM m (v :: vs) = (wipeM m vs).set v none := rfl
theorem ev_rest0 : restM m m' [] = m' := rfl
theorem ev_rest {v : Nat} {vs : List Nat} : restM m m' (v :: vs) = (restM m m' vs).set v (m.getD v none) := rfl
theorem ev_yes : yesT m = .ok true m := rfl
/-- one turn of a comprehension -/
def stepE (own : List Nat) : PyData → Ev (Option PyData) := fun y m => .ok (some y) (wipeM m own)
def stepT (own : List Nat) (e : Ev PyData) : Bool → Ev (Option PyData) := fun b m => if b = true then (e m).bind (stepE own) else .ok none (wipeM m own)
def stepO (own : List Nat) (tst : Ev Bool) (e : Ev PyData) : Option Sm → Res (Option PyData)
  | none => .no
  | some m1 => (tst m1).bind (stepT own e)
def compStep (own : List Nat) (bt : Tg) (tst : Ev Bool) (e : Ev PyData) (d : PyData) (m : Sm) : Res (Option PyData) := stepO own tst e (bt d m)
variable {d y : PyData}
theorem ev_step : compStep own bt tst e d m = stepO own tst e (bt d m) := rfl
theorem ev_stepO : stepO own tst e (some m) = Res.bind (tst m) (stepT own e) := rfl
theorem ev_stepT_t : stepT own e true m = Res.bind (e m) (stepE own) := rfl
theorem ev_stepT_f : stepT own e false m = .ok none (wipeM m own) := rfl
theorem ev_stepE : stepE own y m = .ok (some y) (wipeM m own) := rfl
def adds (acc : List PyData) : Option PyData → List PyData
  | some y => acc ++ [y]
  | none => acc
theorem compL_step {ds acc : List PyData} {o : Option PyData} {m1 : Sm} (h : compStep own bt tst e d m = .ok o m1) : compL own bt tst e (d :: ds) acc m = compL own bt tst e ds (adds acc o) m1 := by
  unfold compStep stepO at h
  conv => lhs; unfold compL
  cases eb : bt d m with
  | none => rw [eb] at h; cases h
  | some m2 =>
    rw [eb] at h
    simp only at h ⊢
    cases et : tst m2 with
    | no => rw [et] at h; cases h
    | ex x m' => rw [et] at h; cases h
    | ok b m3 =>
      rw [et] at h
      simp only [Res.bind] at h ⊢
      cases b with
      | false =>
        have h : Res.ok none (wipeM m3 own) = Res.ok o m1 := h
        cases h; rfl
      | true =>
        have h : Res.bind (e m3) (stepE own) = .ok o m1 := h
        simp only [if_true]
        cases ee : e m3 with
        | no => rw [ee] at h; cases h
        | ex x m' => rw [ee] at h; cases h
        | ok y m4 => rw [ee] at h; cases h; rfl
/-- a comprehension that leaves the slots as they were -/
theorem compL_ok (r : PyData → Option PyData) : ∀ {ds acc : List PyData}, (∀ d ∈ ds, compStep own bt tst e d m = .ok (r d) m) → compL own bt tst e ds acc m = .ok (acc ++ ds.filterMap r) m
  | [], acc, _ => by rw [List.filterMap_nil, List.append_nil]; rfl
  | d :: ds, acc, h => by
    rw [compL_step (h d (List.mem_cons_self ..)), compL_ok r fun x hx => h x (List.mem_cons_of_mem _ hx)]
    cases er : r d with
    | none => rw [List.filterMap_cons_none er]; rfl
    | some y => rw [List.filterMap_cons_some er]; simp [adds]
theorem compL_map (r : PyData → PyData) {ds : List PyData} (h : ∀ d ∈ ds, compStep own bt tst e d m = .ok (some (r d)) m) : compL own bt tst e ds [] m = .ok (ds.map r) m := by
  rw [compL_ok (fun d => some (r d)) h, List.nil_append]
  congr 1
  induction ds with
  | nil => rfl
  | cons d ds ih => rw [List.filterMap_cons_some (f := fun d => some (r d)) (b := r d) rfl, List.map_cons, ih fun x hx => h x (List.mem_cons_of_mem _ hx)]
/-- .. that changes them, by what holds at each turn -/
theorem compL_inv (P : Nat → Sm → Prop) (R : Nat → PyData → Option PyData → Prop) : ∀ {ds acc : List PyData} {i : Nat} {m : Sm}, (∀ j d m, ds[j]? = some d → P (i + j) m → ∃ o m', compStep own bt tst e d m = .ok o m' ∧ P (i + j + 1) m' ∧ R (i + j) d o) → P i m →
    ∃ (os : List (Option PyData)) (m' : Sm), compL own bt tst e ds acc m = .ok (acc ++ os.filterMap id) m' ∧ P (i + ds.length) m' ∧ os.length = ds.length ∧ ∀ j d, ds[j]? = some d → ∃ o, os[j]? = some o ∧ R (i + j) d o
  | [], acc, i, m, h, p => ⟨[], m, by rw [List.filterMap_nil, List.append_nil]; rfl, p, rfl, fun j d q => by simp at q⟩
  | d :: ds, acc, i, m, h, p => by
    obtain ⟨o, m1, e1, p1, r1⟩ := h 0 d m rfl p
    obtain ⟨os, m2, e2, p2, l2, r2⟩ := compL_inv P R (ds := ds) (acc := adds acc o) (i := i + 1) (m := m1) (fun j x m' q p' => by
      have z := h (j + 1) x m' (by simpa using q) (by rw [show i + (j + 1) = i + 1 + j by omega]; exact p')
      rw [show i + (j + 1) = i + 1 + j by omega] at z
      exact z) p1
    refine ⟨o :: os, m2, ?_, by rw [List.length_cons, show i + (ds.length + 1) = i + 1 + ds.length by omega]; exact p2, by simp [l2], fun j x q => ?_⟩
    · rw [compL_step e1, e2]
      cases o with
      | none => rw [List.filterMap_cons_none (f := id) rfl]; rfl
      | some y => rw [List.filterMap_cons_some (f := id) (b := y) rfl]; simp [adds]
    · cases j with
      | zero => simp at q; subst q; exact ⟨o, rfl, r1⟩
      | succ j =>
        obtain ⟨o', z1, z2⟩ := r2 j x (by simpa using q)
        exact ⟨o', by simpa using z1, by rw [show i + (j + 1) = i + 1 + j by omega]; exact z2⟩
/-- .. where every turn gives an item of a kind -/
theorem compL_all (P : Sm → Prop) (R : PyData → Prop) {ds : List PyData} {m : Sm} (h : ∀ d ∈ ds, ∀ m, P m → ∃ y m', compStep own bt tst e d m = .ok (some y) m' ∧ P m' ∧ R y) (p : P m) :
    ∃ (ys : List PyData) (m' : Sm), compL own bt tst e ds [] m = .ok ys m' ∧ P m' ∧ ys.length = ds.length ∧ ∀ y ∈ ys, R y := by
  suffices q : ∀ (ds acc : List PyData) (m : Sm), (∀ d ∈ ds, ∀ m, P m → ∃ y m', compStep own bt tst e d m = .ok (some y) m' ∧ P m' ∧ R y) → P m → ∃ (ys : List PyData) (m' : Sm), compL own bt tst e ds acc m = .ok (acc ++ ys) m' ∧ P m' ∧ ys.length = ds.length ∧ ∀ y ∈ ys, R y by
    obtain ⟨ys, m', z⟩ := q ds [] m h p
    exact ⟨ys, m', by simpa using z⟩
  intro ds
  induction ds with
  | nil => exact fun acc m h p => ⟨[], m, by rw [List.append_nil]; rfl, p, rfl, fun y hy => by cases hy⟩
  | cons d ds ih =>
    intro acc m h p
    obtain ⟨y, m1, e1, p1, r1⟩ := h d (List.mem_cons_self ..) m p
    obtain ⟨ys, m2, e2, p2, l2, r2⟩ := ih (acc ++ [y]) m1 (fun x hx => h x (List.mem_cons_of_mem _ hx)) p1
    refine ⟨y :: ys, m2, ?_, p2, by simp [l2], fun x hx => ?_⟩
    · rw [compL_step e1]
      show compL own bt tst e ds (acc ++ [y]) m1 = _
      rw [e2]; simp
    · rcases List.mem_cons.mp hx with z | z
      · rw [z]; exact r1
      · exact r2 x z
/-! ### targets -/
theorem ev_tgN {i : Nat} : tgName i d m = some (m.set i (some (.fz d))) := rfl
variable {t : Tg} {ts : List Tg} {ds : List PyData}
def tgO (ts : List Tg) (ds : List PyData) : Option Sm → Option Sm
  | some m => tgAll ts ds m
  | none => none
theorem ev_tgT (h : ds.length = ts.length) : tgTup ts (.tuple ds) m = tgAll ts ds m := if_pos h
theorem ev_tgA0 : tgAll [] [] m = some m := rfl
theorem ev_tgA : tgAll (t :: ts) (d :: ds) m = tgO ts ds (t d m) := by
  conv => lhs; unfold tgAll
  cases t d m <;> rfl
theorem ev_tgO : tgO ts ds (some m) = tgAll ts ds m := rfl
/-! ### statements -/
def sqK (h : Sf) : Fo → Sf := fun o m1 => match o with
  | .nx => h m1
  | o => .ok o m1
theorem ev_sq : seqS g h m = Res.bind (g m) (sqK h) := rfl
theorem ev_sqK_nx : sqK h .nx m = h m := rfl
theorem ev_sqK_rt {mv : Mv} : sqK h (.rt mv) m = .ok (.rt mv) m := rfl
theorem ev_sqK_bk : sqK h .bk m = .ok .bk m := rfl
theorem ev_sqK_ct : sqK h .ct m = .ok .ct m := rfl
theorem ev_skip : skipS m = .ok .nx m := rfl
def drK : Rv → Sf := fun _ m => .ok .nx m
theorem ev_drop : dropS f m = Res.bind (f m) drK := rfl
theorem ev_drK {r : Rv} : drK r m = .ok .nx m := rfl
def ifK (g h : Sf) : Bool → Sf := fun b => if b = true then g else h
theorem ev_if {c : Ev Bool} : ifS c g h m = Res.bind (c m) (ifK g h) := rfl
theorem ev_ifK_t : ifK g h true m = g m := rfl
theorem ev_ifK_f : ifK g h false m = h m := rfl
def owD : PyData → Ev Rv := fun d m => .ok (.d d) m
def owK : Rv → Ev Rv := fun r m => match r with
  | .s i => (frz (.s i) m).bind fun d m1 => .ok (.d d) m1
  | r => .ok r m
theorem ev_own : ownF f m = Res.bind (f m) owK := rfl
theorem ev_owK_d : owK (.d d) m = .ok (.d d) m := rfl
theorem ev_owK_nl {xs : List PyData} : owK (.nl xs) m = .ok (.nl xs) m := rfl
theorem ev_owK_nd {kvs : Kvs} : owK (.nd kvs) m = .ok (.nd kvs) m := rfl
theorem ev_owK_nr {k : Nat} {c : List Int} {a b : Int} : owK (.nr k c a b) m = .ok (.nr k c a b) m := rfl
theorem ev_owK_s {i : Nat} : owK (.s i) m = Res.bind (frS i m[i]? m) owD := rfl
theorem ev_owD : owD d m = .ok (.d d) m := rfl
variable {i : Nat}
theorem ev_put_d : putM i (.d d) m = .ok .nx (m.set i (some (.fz d))) := rfl
theorem ev_put_nl {xs : List PyData} : putM i (.nl xs) m = .ok .nx (m.set i (some (.ol xs))) := rfl
theorem ev_put_nd {xs : Kvs} : putM i (.nd xs) m = .ok .nx (m.set i (some (.od xs))) := rfl
theorem ev_put_nr {k : Nat} {c : List Int} {a b : Int} : putM i (.nr k c a b) m = .ok .nx (m.set i (some (.rs k c a b))) := rfl
theorem ev_set : setS i f m = Res.bind (ownF f m) (putM i) := rfl
def stO : Option Sm → Res Fo
  | some m' => .ok .nx m'
  | none => .no
def stK (t : Tg) : PyData → Sf := fun d m => match t d m with
  | some m' => .ok .nx m'
  | none => .no
theorem ev_setT : setT t f m = Res.bind (frzE f m) (stK t) := rfl
theorem ev_stK : stK t d m = stO (t d m) := by
  show (match t d m with | some m' => Res.ok Fo.nx m' | none => .no) = _
  cases t d m <;> rfl
theorem ev_stO : stO (some m) = .ok .nx m := rfl
theorem ev_ret : retS f m = Res.bind (ownF f m) giveM := rfl
theorem ev_give_d : giveM (.d d) m = .ok (.rt (.fz d)) m := rfl
theorem ev_give_nl {xs : List PyData} : giveM (.nl xs) m = .ok (.rt (.ol xs)) m := rfl
theorem ev_give_nd {xs : Kvs} : giveM (.nd xs) m = .ok (.rt (.od xs)) m := rfl
theorem ev_give_nr {k : Nat} {c : List Int} {a b : Int} : giveM (.nr k c a b) m = .ok (.rt (.rs k c a b)) m := rfl
theorem ev_for : forS it t g m = Res.bind (it m) (forL t g) := rfl
def prE (j : Nat) (r2 : Rv) : Fo → Sf := fun _ m1 => putM j r2 m1
def prD (i j : Nat) (r1 : Rv) : Rv → Sf := fun r2 m => (putM i r1 m).bind (prE j r2)
def prC (i j : Nat) (f2 : Ev Rv) : Rv → Sf := fun r1 m => (ownF f2 m).bind (prD i j r1)
variable {j : Nat} {f1 f2 : Ev Rv} {r r1 r2 : Rv}
theorem ev_par : parS i j f1 f2 m = Res.bind (ownF f1 m) (prC i j f2) := rfl
theorem ev_prC : prC i j f2 r1 m = Res.bind (ownF f2 m) (prD i j r1) := rfl
theorem ev_prD : prD i j r1 r2 m = Res.bind (putM i r1 m) (prE j r2) := rfl
theorem ev_prE {o : Fo} : prE j r2 o m = putM j r2 m := rfl
def poK (rs : List Rv) : Ev Rv := potK rs
theorem ev_pot : potE fs m = Res.bind (argsE fs m) potK := rfl
theorem ev_potK {ns : List Int} {a b : Int} : potK [.nl (ns.map .int), .d (.int a), .d (.int b)] m = .ok (.nr 0 ns a b) m := by
  have h : ∀ ns : List Int, intsOf (ns.map PyData.int) = some ns := by
    intro ns
    induction ns with
    | nil => rfl
    | cons n ns ih => simp [intsOf, ih]
  unfold potK
  simp only [h]
/-! ### loops -/
def forT (t : Tg) (g : Sf) (ds : List PyData) : Fo → Sf := fun o m2 => match o with
  | .nx => forL t g ds m2
  | .ct => forL t g ds m2
  | .bk => .ok .nx m2
  | .rt v => .ok (.rt v) m2
def bodyO (g : Sf) : Option Sm → Res Fo
  | some m => g m
  | none => .no
theorem forL_nil : forL t g [] m = .ok .nx m := rfl
theorem forL_cons : forL t g (d :: ds) m = Res.bind (bodyO g (t d m)) (forT t g ds) := by
  conv => lhs; unfold forL
  cases t d m <;> rfl
theorem ev_bodyO : bodyO g (some m) = g m := rfl
theorem ev_forT_nx : forT t g ds .nx m = forL t g ds m := rfl
theorem ev_forT_ct : forT t g ds .ct m = forL t g ds m := rfl
theorem ev_forT_bk : forT t g ds .bk m = .ok .nx m := rfl
theorem ev_forT_rt {v : Mv} : forT t g ds (.rt v) m = .ok (.rt v) m := rfl
/-- a loop that goes through -/
theorem forL_inv (P : Nat → Sm → Prop) : ∀ {ds : List PyData} {i : Nat} {m : Sm}, (∀ j d m, ds[j]? = some d → P (i + j) m → ∃ o m', bodyO g (t d m) = .ok o m' ∧ (o = .nx ∨ o = .ct) ∧ P (i + j + 1) m') → P i m → ∃ m', forL t g ds m = .ok .nx m' ∧ P (i + ds.length) m'
  | [], i, m, h, p => ⟨m, rfl, p⟩
  | d :: ds, i, m, h, p => by
    obtain ⟨o, m1, e1, ho, p1⟩ := h 0 d m rfl p
    obtain ⟨m2, e2, p2⟩ := forL_inv P (ds := ds) (i := i + 1) (m := m1) (fun j x m' q p' => by
      have z := h (j + 1) x m' (by simpa using q) (by rw [show i + (j + 1) = i + 1 + j by omega]; exact p')
      rw [show i + (j + 1) = i + 1 + j by omega] at z
      exact z) p1
    refine ⟨m2, ?_, by rw [List.length_cons, show i + (ds.length + 1) = i + 1 + ds.length by omega]; exact p2⟩
    rw [forL_cons, e1, eb_ok]
    rcases ho with z | z <;> subst z
    · rw [ev_forT_nx]; exact e2
    · rw [ev_forT_ct]; exact e2
/-- a body that goes on, to a state where P holds -/
inductive Goes (P : Sm → Prop) : Res Fo → Prop
  | nx {m : Sm} : P m → Goes P (.ok .nx m)
  | ct {m : Sm} : P m → Goes P (.ok .ct m)
theorem forL_goes (P : Nat → Sm → Prop) {ds : List PyData} {m : Sm} (h : ∀ j d m, ds[j]? = some d → P j m → Goes (P (j + 1)) (bodyO g (t d m))) (p : P 0 m) : ∃ m', forL t g ds m = .ok .nx m' ∧ P ds.length m' := by
  obtain ⟨m', e, q⟩ := forL_inv (t := t) (g := g) P (ds := ds) (i := 0) (m := m) (fun j d m hd p => by
    have z := h j d m hd (by simpa using p)
    generalize bodyO g (t d m) = r at z
    cases z with
    | nx q => exact ⟨_, _, rfl, .inl rfl, by simpa using q⟩
    | ct q => exact ⟨_, _, rfl, .inr rfl, by simpa using q⟩) p
  exact ⟨m', e, by simpa using q⟩
/-! ### calls -/
variable {F : Fm} {rs : List Rv} {ms : List Mv}
def apD (r : Rv) : List Rv → Ev (List Rv) := fun rs m => .ok (r :: rs) m
def apC (fs : List (Ev Rv)) : Rv → Ev (List Rv) := fun r m => (argsP fs m).bind (apD r)
def paN : Rv → Ev Rv := fun r m => match r with
  | .nl xs => .ok (.d (.list xs)) m
  | r => .ok r m
theorem ev_argp0 : argsP [] m = .ok [] m := rfl
theorem ev_argp : argsP (f :: fs) m = Res.bind (passF f m) (apC fs) := rfl
theorem ev_apC {r : Rv} : apC fs r m = Res.bind (argsP fs m) (apD r) := rfl
theorem ev_apD {r : Rv} : apD r rs m = .ok (r :: rs) m := rfl
theorem ev_pass : passF f m = Res.bind (f m) paN := rfl
theorem ev_paN_d : paN (.d d) m = .ok (.d d) m := rfl
theorem ev_paN_s : paN (.s i) m = .ok (.s i) m := rfl
theorem ev_paN_nl {xs : List PyData} : paN (.nl xs) m = .ok (.d (.list xs)) m := rfl
theorem ev_call : callE F fs m = Res.bind (argsP fs m) (callM F) := rfl
def caF (rs : List Rv) (m : Sm) : Res Mv → Res Rv
  | .ok r m' => .ok (mvR r) (backM rs m' m)
  | .ex e m' => .ex e (backM rs m' m)
  | .no => .no
def caO (F : Fm) (rs : List Rv) (m : Sm) : Option (List Mv) → Res Rv
  | some ms => caF rs m (F ms)
  | none => .no
theorem ev_callM (h : distinct (slotsOf rs) = true) : callM F rs m = caO F rs m (passM m rs) := by
  unfold callM
  rw [if_pos h]
  cases passM m rs with
  | none => rfl
  | some ms =>
    show (match F ms with | .ok r m' => Res.ok (mvR r) (backM rs m' m) | .ex e m' => .ex e (backM rs m' m) | .no => .no) = caF rs m (F ms)
    cases F ms <;> rfl
theorem ev_caO : caO F rs m (some ms) = caF rs m (F ms) := rfl
theorem ev_caF {mv : Mv} {os : Sm} : caF rs m (.ok mv os) = .ok (mvR mv) (backM rs os m) := rfl
def conM : Option Mv → Option (List Mv) → Option (List Mv)
  | some a, some b => some (a :: b)
  | _, _ => none
theorem ev_pm0 : passM m [] = some [] := rfl
theorem ev_pm_d : passM m (.d d :: rs) = conM (some (.fz d)) (passM m rs) := by
  conv => lhs; unfold passM
  cases passM m rs <;> rfl
theorem ev_pm_s : passM m (.s i :: rs) = conM m[i]?.join (passM m rs) := by
  conv => lhs; unfold passM
  show (match m[i]? with | some (some mv) => (passM m rs).map (mv :: ·) | _ => none) = _
  cases m[i]? with
  | none => rfl
  | some o => cases o <;> cases passM m rs <;> rfl
theorem ev_conM {a : Mv} {b : List Mv} : conM (some a) (some b) = some (a :: b) := rfl
variable {o : Option Mv} {os : Sm}
theorem ev_bm0 {os : Sm} : backM [] os m = m := by cases os <;> rfl
theorem ev_bm_s : backM (.s i :: rs) (o :: os) m = backM rs os (m.set i o) := rfl
theorem ev_bm_d : backM (.d d :: rs) (o :: os) m = backM rs os m := rfl
theorem ev_so0 : slotsOf [] = [] := rfl
theorem ev_so_d : slotsOf (.d d :: rs) = slotsOf rs := rfl
theorem ev_so_s : slotsOf (.s i :: rs) = i :: slotsOf rs := rfl
theorem ev_mv_fz : mvR (.fz d) = .d d := rfl
theorem ev_mv_ol {xs : List PyData} : mvR (.ol xs) = .nl xs := rfl
theorem ev_mv_od {xs : Kvs} : mvR (.od xs) = .nd xs := rfl
theorem ev_mv_rs {k : Nat} {c : List Int} {a b : Int} : mvR (.rs k c a b) = .nr k c a b := rfl
def ckK (F : Fm) (n j : Nat) (perm : List Nat) (rs : List Rv) : List Rv → Ev Rv := fun qs => callM F (permL n j perm (.d .none) rs qs)
def ckC (F : Fm) (n j : Nat) (perm : List Nat) (gs : List (Ev Rv)) : List Rv → Ev Rv := fun rs m => (argsP gs m).bind (ckK F n j perm rs)
variable {n : Nat} {perm : List Nat} {qs : List Rv}
theorem ev_callK : callKE F n j perm fs gs m = Res.bind (argsP fs m) (ckC F n j perm gs) := rfl
theorem ev_ckC : ckC F n j perm gs rs m = Res.bind (argsP gs m) (ckK F n j perm rs) := rfl
theorem ev_ckK (h1 : rs.length = n) (h2 : qs.length = j) : ckK F n j perm rs qs m = callM F (perm.map fun i => (rs ++ qs).getD i (.d .none)) m := by
  unfold ckK permL
  rw [if_pos ⟨h1, h2⟩]
/-! ### a def -/
variable {np nn : Nat} {ro : List Nat} {st : Sm}
theorem run_rt {mv : Mv} (h1 : ms.length = np) (h2 : allFz ro 0 ms = true) (h3 : ms.map some ++ List.replicate (nn - np) none = st) (h : g st = .ok (.rt mv) m') : runF np nn ro g ms = .ok mv (backP ro 0 ms m') := by
  unfold runF
  rw [if_pos h1, if_pos h2, h3, h]
theorem run_nx (h1 : ms.length = np) (h2 : allFz ro 0 ms = true) (h3 : ms.map some ++ List.replicate (nn - np) none = st) (h : g st = .ok .nx m') : runF np nn ro g ms = .ok (.fz .none) (backP ro 0 ms m') := by
  unfold runF
  rw [if_pos h1, if_pos h2, h3, h]
def runR (ro : List Nat) (ms : List Mv) : Res Fo → Res Mv
  | .ok (.rt mv) m => .ok mv (backP ro 0 ms m)
  | .ok .nx m => .ok (.fz .none) (backP ro 0 ms m)
  | .ex e m => .ex e (backP ro 0 ms m)
  | _ => .no
theorem run_ev (h1 : ms.length = np) (h2 : allFz ro 0 ms = true) (h3 : ms.map some ++ List.replicate (nn - np) none = st) : runF np nn ro g ms = runR ro ms (g st) := by
  unfold runF
  rw [if_pos h1, if_pos h2, h3]
  cases g st with
  | no => rfl
  | ex x m => rfl
  | ok o m => cases o <;> rfl
/-- a def's answer, whatever its parameters hold then -/
inductive Gives (v : Mv) : Res Mv → Prop
  | mk {m : Sm} : Gives v (.ok v m)
theorem ev_runR_rt {mv : Mv} : runR ro ms (.ok (.rt mv) m) = .ok mv (backP ro 0 ms m) := rfl
theorem ev_runR_nx : runR ro ms (.ok .nx m) = .ok (.fz .none) (backP ro 0 ms m) := rfl
end
end PyE

/-! PyP: what operations give; lists of ints; draws -/
namespace PyE
open PySem PySem.Spec PyProof.Rows
open L2
theorem smallI_of {i : Int} (h : -18446744073709551616 < i) (h2 : i < 18446744073709551616) : smallI i = true := decide_eq_true ⟨by omega, by omega⟩
theorem mulD_l {i j : Int} (h : smallI i = true) : mulD (.int i) (.int j) = some (.d (.int (i * j))) := if_pos (.inl h)
theorem mulD_r {i j : Int} (h : smallI j = true) : mulD (.int i) (.int j) = some (.d (.int (i * j))) := if_pos (.inr h)
theorem addD_int {i j : Int} : addD (.int i) (.int j) = some (.d (.int (i + j))) := rfl
theorem addD_list {xs ys : List PyData} (h : xs.length + ys.length ≤ 10000000) : addD (.list xs) (.list ys) = some (.nl (xs ++ ys)) := if_pos (by rw [sizeLine_eq]; omega)
theorem addD_tuple {xs ys : List PyData} (h : xs.length + ys.length ≤ 10000000) : addD (.tuple xs) (.tuple ys) = some (.d (.tuple (xs ++ ys))) := if_pos (by rw [sizeLine_eq]; omega)
theorem fdivD_ok {i j : Int} (h : 0 < j) (h2 : j < 1073741824) : fdivD (.int i) (.int j) = some (.d (.int (i / j))) := by
  have : fdivD (.int i) (.int j) = iD (i.fdiv j) := if_pos ⟨by omega, by omega⟩
  rw [this, Int.fdiv_eq_ediv_of_nonneg i (by omega)]; rfl
theorem modD_ok {i j : Int} (h : 0 < j) : modD (.int i) (.int j) = some (.d (.int (i % j))) := by
  have : modD (.int i) (.int j) = iD (i.fmod j) := if_pos (by omega)
  rw [this, Int.fmod_eq_emod_of_nonneg i (by omega)]; rfl
theorem lenL {xs : List PyData} : lenD [.list xs] = some (.d (.int xs.length)) := rfl
theorem lenT {xs : List PyData} : lenD [.tuple xs] = some (.d (.int xs.length)) := rfl
theorem tupL {xs : List PyData} : tupleD [.list xs] = some (.d (.tuple xs)) := rfl
theorem tupT {xs : List PyData} : tupleD [.tuple xs] = some (.d (.tuple xs)) := rfl
theorem lisL {xs : List PyData} : listD [.list xs] = some (.nl xs) := rfl
theorem lisT {xs : List PyData} : listD [.tuple xs] = some (.nl xs) := rfl
theorem sum_ints {ns : List Int} : sumD [.list (ns.map .int)] = some (.d (.int ns.sum)) := by
  unfold sumD
  simp only [intsOf_map]
  rfl
theorem eqD_int {i j : Int} : eqD (.int i) (.int j) = some (.d (.bool (i == j))) := rfl
theorem neD_int {i j : Int} : neD (.int i) (.int j) = some (.d (.bool (!(i == j)))) := rfl
theorem eqD_str {i j : Str} : eqD (.str i) (.str j) = some (.d (.bool (i == j))) := rfl
theorem neD_str {i j : Str} : neD (.str i) (.str j) = some (.d (.bool (!(i == j)))) := rfl
/-! ### shown without trouble -/
def Fine (d : PyData) : Prop := tame d = true ∧ d.depth ≤ 60 ∧ cnt d ≤ 140000
theorem repr_ok {d : PyData} (h : Fine d) : reprD [d] = some (.d (.str d.shown)) := by
  obtain ⟨h1, h2, h3⟩ := h
  have h4 := tame_len h1
  exact if_pos ⟨tame_showable h1, h2, by rw [sizeLine_eq]; omega, .inl (PyData.hasDict_of_canLay _ (tame_lay h1))⟩
theorem rangeD_nat (n : Nat) : rangeD 0 (n : Int) = (List.range n).map fun (i : Nat) => PyData.int (i : Int) := by
  unfold rangeD
  rw [show ((n : Int) - 0).toNat = n by omega]
  exact List.map_congr_left fun i _ => by rw [Int.zero_add]
theorem okRg_nat {n : Nat} (h : n ≤ 1000000) : okRg 0 (n : Int) = true := decide_eq_true ⟨by omega, by omega, by omega, by omega⟩
theorem zip_eq {α β : Type} (q : α → PyData) (q2 : β → PyData) (a : List α) (b : List β) : zipD (a.map q) (b.map q2) = (a.zip b).map fun p => .tuple [q p.1, q2 p.2] := by
  unfold zipD
  rw [List.length_map, List.length_map]
  apply List.ext_getElem?
  intro i
  rw [List.getElem?_map, List.getElem?_map]
  by_cases h : i < min a.length b.length
  · have h1 : i < a.length := by omega
    have h2 : i < b.length := by omega
    rw [List.getElem?_range h, List.getElem?_eq_getElem (by rw [List.length_zip]; exact h), List.getElem_zip]
    simp [List.getD_eq_getElem?_getD, h1, h2]
  · rw [List.getElem?_eq_none (by simpa using by omega), List.getElem?_eq_none (by rw [List.length_zip]; omega)]
    rfl
theorem enum_eq {α : Type} (q : α → PyData) (a : List α) : enumD (a.map q) = a.zipIdx.map fun p => .tuple [.int (p.2 : Int), q p.1] := by
  unfold enumD
  rw [List.length_map]
  apply List.ext_getElem?
  intro i
  rw [List.getElem?_map, List.getElem?_map, List.getElem?_zipIdx]
  by_cases h : i < a.length
  · rw [List.getElem?_range h, List.getElem?_eq_getElem h]
    simp [List.getD_eq_getElem?_getD, h]
  · rw [List.getElem?_eq_none (by simpa using by omega), List.getElem?_eq_none (by omega)]
    rfl
section
variable {own : List Nat} {bt : Tg} {tst : Ev Bool} {e : Ev PyData} {m : Sm} {γ : Type}
theorem compL_mapOf (L : List γ) (q r : γ → PyData) (h : ∀ x ∈ L, compStep own bt tst e (q x) m = .ok (some (r x)) m) : compL own bt tst e (L.map q) [] m = .ok (L.map r) m := by
  suffices z : ∀ (L : List γ) (acc : List PyData), (∀ x ∈ L, compStep own bt tst e (q x) m = .ok (some (r x)) m) → compL own bt tst e (L.map q) acc m = .ok (acc ++ L.map r) m by simpa using z L [] h
  intro L
  induction L with
  | nil => intro acc h; rw [List.map_nil, List.map_nil, List.append_nil]; rfl
  | cons x L ih =>
    intro acc h
    rw [List.map_cons, compL_step (h x (List.mem_cons_self ..)), ih _ fun y hy => h y (List.mem_cons_of_mem _ hy)]
    simp [adds]
theorem compL_filterOf (L : List γ) (p : γ → Bool) (q r : γ → PyData) (h : ∀ x ∈ L, compStep own bt tst e (q x) m = .ok (if p x = true then some (r x) else none) m) : compL own bt tst e (L.map q) [] m = .ok ((L.filter p).map r) m := by
  suffices z : ∀ (L : List γ) (acc : List PyData), (∀ x ∈ L, compStep own bt tst e (q x) m = .ok (if p x = true then some (r x) else none) m) → compL own bt tst e (L.map q) acc m = .ok (acc ++ (L.filter p).map r) m by simpa using z L [] h
  intro L
  induction L with
  | nil => intro acc h; rw [List.map_nil, List.filter_nil, List.map_nil, List.append_nil]; rfl
  | cons x L ih =>
    intro acc h
    rw [List.map_cons, compL_step (h x (List.mem_cons_self ..)), ih _ fun y hy => h y (List.mem_cons_of_mem _ hy)]
    cases hp : p x with
    | true => rw [List.filter_cons_of_pos hp]; simp [adds]
    | false => rw [List.filter_cons_of_neg (by simp [hp])]; simp [adds]
end
/-! ### ints drawn -/
theorem ix_tuple {ds : List PyData} {i : Nat} {d : PyData} (h : ds[i]? = some d) : ixD (.tuple ds) (.int (i : Int)) = some (.d d) := by
  have e : atI ds (i : Int) = some d := atI_nat h
  unfold ixD
  simp only [e, Option.map_some]
theorem ix_list {ds : List PyData} {i : Nat} {d : PyData} (h : ds[i]? = some d) : ixD (.list ds) (.int (i : Int)) = some (.d d) := by
  have e : atI ds (i : Int) = some d := atI_nat h
  unfold ixD
  simp only [e, Option.map_some]
/-- a draw of the first kind -/
theorem drawA_of (cells : List Int) (a b many : Int) : 0 ≤ (drawA cells a b many).1 ∧ (1 ≤ many → (drawA cells a b many).1 < many) ∧ (drawA cells a b many).2.1.length ≤ cells.length := by
  unfold drawA
  split
  · exact ⟨Int.le_refl _, fun h => by show (0 : Int) < many; omega, Nat.le_refl _⟩
  · rename_i h
    have hm : (0 : Int) < many := by omega
    split
    · rename_i cell rest e
      have hl : cells.length = rest.length + 1 := by have := congrArg List.length e; simpa using this
      refine ⟨Int.emod_nonneg _ (by omega), fun _ => Int.emod_lt_of_pos _ hm, ?_⟩
      show (if cell ≥ many then rest.reverse ++ [cell / many] else rest.reverse).length ≤ cells.length
      split <;> simp <;> omega
    · exact ⟨Int.emod_nonneg _ (by omega), fun _ => Int.emod_lt_of_pos _ hm, Nat.zero_le _⟩
theorem draw_ok (cells : List Int) (a b many : Int) (hm : many < 1073741824) (hc : cells.length ≤ 1000) : ∃ (v : Int) (c : List Int) (b' : Int), drawFA [.rs 0 cells a b, .fz (.int many)] = .ok (.fz (.int v)) [some (.rs 0 c a b'), some (.fz (.int many))] ∧ c.length ≤ 1000 ∧ 0 ≤ v ∧ (1 ≤ many → v < many) := by
  obtain ⟨h1, h2, h3⟩ := drawA_of cells a b many
  refine ⟨(drawA cells a b many).1, (drawA cells a b many).2.1, (drawA cells a b many).2.2, ?_, Nat.le_trans h3 hc, h1, h2⟩
  show (if many < 1073741824 ∧ cells.length ≤ 1000 then _ else _) = _
  rw [if_pos ⟨hm, hc⟩]
end PyE

/-! PyP: sizes of shown data; points -/
namespace PyE
open PySem PySem.Spec PyProof.Rows
open L2
/-- a tuple of ints -/
abbrev pt (ns : List Int) : PyData := .tuple (ns.map .int)
/-- shown without trouble: at most so deep, so many nodes -/
def Sz (d : PyData) (dp c : Nat) : Prop := tame d = true ∧ d.depth ≤ dp ∧ cnt d ≤ c
theorem Sz.fine {d : PyData} {dp c : Nat} (h : Sz d dp c) (h1 : dp ≤ 60) (h2 : c ≤ 140000) : Fine d := ⟨h.1, Nat.le_trans h.2.1 h1, Nat.le_trans h.2.2 h2⟩
theorem Sz.mono {d : PyData} {dp c dp' c' : Nat} (h : Sz d dp c) (h1 : dp ≤ dp') (h2 : c ≤ c') : Sz d dp' c' := ⟨h.1, Nat.le_trans h.2.1 h1, Nat.le_trans h.2.2 h2⟩
theorem sz_int {i : Int} (h : i.natAbs < 10 ^ 100) : Sz (.int i) 0 1 := ⟨decide_eq_true h, Nat.le_refl _, Nat.le_refl _⟩
theorem sz_bool {b : Bool} : Sz (.bool b) 0 1 := ⟨rfl, Nat.le_refl _, Nat.le_refl _⟩
theorem sz_none : Sz .none 0 1 := ⟨rfl, Nat.le_refl _, Nat.le_refl _⟩
theorem szs_of {dp c : Nat} : ∀ {xs : List PyData}, (∀ x ∈ xs, Sz x dp c) → tameAll xs = true ∧ PyData.depthAll xs ≤ dp ∧ cntAll xs ≤ xs.length * c
  | [], _ => ⟨rfl, Nat.zero_le _, Nat.zero_le _⟩
  | x :: xs, h => by
    obtain ⟨h1, h2, h3⟩ := h x (List.mem_cons_self ..)
    obtain ⟨g1, g2, g3⟩ := szs_of fun y hy => h y (List.mem_cons_of_mem _ hy)
    refine ⟨by simp only [tameAll, h1, g1, Bool.and_self], by simp only [PyData.depthAll]; omega, ?_⟩
    simp only [cntAll, List.length_cons, Nat.succ_mul]
    omega
theorem sz_list {xs : List PyData} {dp c : Nat} (h : ∀ x ∈ xs, Sz x dp c) : Sz (.list xs) (dp + 1) (1 + xs.length * c) := by
  obtain ⟨h1, h2, h3⟩ := szs_of h
  exact ⟨by simpa only [tame] using h1, by simp only [PyData.depth]; omega, by simp only [cnt]; omega⟩
theorem sz_tuple {xs : List PyData} {dp c : Nat} (h : ∀ x ∈ xs, Sz x dp c) : Sz (.tuple xs) (dp + 1) (1 + xs.length * c) := by
  obtain ⟨h1, h2, h3⟩ := szs_of h
  exact ⟨by simpa only [tame] using h1, by simp only [PyData.depth]; omega, by simp only [cnt]; omega⟩
theorem sz_pt {ns : List Int} (h : ∀ n ∈ ns, n.natAbs < 10 ^ 100) : Sz (pt ns) 1 (1 + ns.length) := by
  have := sz_tuple (xs := ns.map .int) (dp := 0) (c := 1) fun x hx => by
    obtain ⟨n, hn, rfl⟩ := List.mem_map.mp hx
    exact sz_int (h n hn)
  simpa using this
/-- ints of a small list -/
def Bd (B : Int) (ns : List Int) : Prop := ∀ n ∈ ns, -B ≤ n ∧ n ≤ B
theorem Bd.mono {B C : Int} {ns : List Int} (h : Bd B ns) (hc : B ≤ C) : Bd C ns := fun n hn => by have := h n hn; omega
theorem Bd.at {B : Int} {ns : List Int} (h : Bd B ns) {n : Int} (hn : n ∈ ns) (hB : B ≤ 1000000000000000000000000000000) : n.natAbs < 10 ^ 100 := by
  have := h n hn
  have e : (10 : Nat) ^ 30 ≤ 10 ^ 100 := by decide +kernel
  have : n.natAbs ≤ 10 ^ 30 := by omega
  have e2 : (10 : Nat) ^ 30 < 10 ^ 100 := by decide +kernel
  omega
theorem natAbs_ok {n : Int} (h1 : -1000000000000000000000000000000 ≤ n) (h2 : n ≤ 1000000000000000000000000000000) : n.natAbs < 10 ^ 100 := by
  have : n.natAbs ≤ 10 ^ 30 := by omega
  have e2 : (10 : Nat) ^ 30 < 10 ^ 100 := by decide +kernel
  omega
theorem bd_sum {B : Int} (hB : 0 ≤ B) : ∀ {ns : List Int}, Bd B ns → -(B * ns.length) ≤ ns.sum ∧ ns.sum ≤ B * ns.length
  | [], _ => by simp
  | n :: ns, h => by
    have h1 := h n (List.mem_cons_self ..)
    have h2 := bd_sum hB (ns := ns) fun x hx => h x (List.mem_cons_of_mem _ hx)
    have e : B * ((n :: ns).length : Int) = B * (ns.length : Int) + B := by
      rw [List.length_cons]; push_cast; rw [Int.mul_add, Int.mul_one]
    rw [List.sum_cons, e]
    omega
theorem shaped_pt {ns : List Int} : SeqAt.shaped (pt ns) = true := by
  have h : ∀ ns : List Int, PyData.canLayAll0 (ns.map PyData.int) = true ∧ PyData.depthAll (ns.map PyData.int) = 0 := by
    intro ns
    induction ns with
    | nil => exact ⟨rfl, rfl⟩
    | cons n r ih => exact ⟨by simp only [List.map_cons, PyData.canLayAll0, PyData.canLay0, ih.1, Bool.and_self], by simp only [List.map_cons, PyData.depthAll, PyData.depth, ih.2]; rfl⟩
  unfold SeqAt.shaped
  rw [Bool.and_eq_true]
  refine ⟨by simp only [PyData.canLay0]; exact (h ns).1, decide_eq_true ?_⟩
  simp only [PyData.depth]
  have := (h ns).2
  omega
theorem shaped_int {i : Int} : SeqAt.shaped (.int i) = true := rfl
theorem eqv_int {i j : Int} : PyData.eqv (.int i) (.int j) = (i == j) := by simp only [PyData.eqv]
theorem in_pt {ns : List Int} {i : Int} : inD false (.int i) (pt ns) = some (.d (.bool (ns.any fun z => z == i))) := by
  unfold inD
  rw [shaped_int, shaped_pt]
  show bD _ = _
  unfold bD
  simp only [List.any_map, Bool.false_bne]
  congr 3
/-- a source of the first kind of few cells -/
def PotA (mv : Mv) : Prop := ∃ c a b, mv = .rs 0 c a b ∧ c.length ≤ 1000
theorem potA_draw {mv : Mv} (h : PotA mv) {many : Int} (hm : many < 1073741824) : ∃ (v : Int) (mv' : Mv), drawFA [mv, .fz (.int many)] = .ok (.fz (.int v)) [some mv', some (.fz (.int many))] ∧ PotA mv' ∧ 0 ≤ v ∧ (1 ≤ many → v < many) := by
  obtain ⟨c, a, b, rfl, hc⟩ := h
  obtain ⟨v, c', b', e, h1, h2, h3⟩ := draw_ok c a b many hm hc
  exact ⟨v, _, e, ⟨c', a, b', rfl, h1⟩, h2, h3⟩
theorem potA_slot {mv : Mv} (h : PotA mv) {i : Nat} {m : Sm} : slK i (some (some mv)) m = .ok (.s i) m := by
  obtain ⟨c, a, b, rfl, _⟩ := h; rfl
/-- a comprehension of draws, each turn an item of a kind -/
theorem draws_gen {Pot : Mv → Prop} {γ : Type} (S : Mv → Sm) (q : γ → PyData) (R : γ → Prop) {own : List Nat} {bt : Tg} {tst : Ev Bool} {e : Ev PyData} {ds : List PyData} {mv : Mv} (hp : Pot mv)
    (hF : ∀ d ∈ ds, ∀ mv, Pot mv → ∃ k mv', compStep own bt tst e d (S mv) = .ok (some (q k)) (S mv') ∧ Pot mv' ∧ R k) :
    ∃ (ks : List γ) (mv' : Mv), compL own bt tst e ds [] (S mv) = .ok (ks.map q) (S mv') ∧ Pot mv' ∧ ks.length = ds.length ∧ ∀ k ∈ ks, R k := by
  obtain ⟨ys, m', e1, ⟨mv', rfl, hp'⟩, hl, hy⟩ := compL_all (own := own) (bt := bt) (tst := tst) (e := e) (fun m => ∃ mv', m = S mv' ∧ Pot mv') (fun y => ∃ k : γ, y = q k ∧ R k) (ds := ds) (m := S mv)
    (fun d hd m ⟨mv1, hm, hp1⟩ => by
      subst hm
      obtain ⟨k, mv2, e2, hp2, h1⟩ := hF d hd mv1 hp1
      exact ⟨_, _, e2, ⟨mv2, rfl, hp2⟩, k, rfl, h1⟩) ⟨mv, rfl, hp⟩
  obtain ⟨ks, rfl, hk⟩ : ∃ ks : List γ, ys = ks.map q ∧ ∀ k ∈ ks, R k := by
    clear e1 hl
    induction ys with
    | nil => exact ⟨[], rfl, fun k hk => by cases hk⟩
    | cons y ys ih =>
      obtain ⟨k, rfl, hR⟩ := hy y (List.mem_cons_self ..)
      obtain ⟨ks, rfl, hk⟩ := ih fun z hz => hy z (List.mem_cons_of_mem _ hz)
      exact ⟨k :: ks, rfl, fun x hx => (List.mem_cons.mp hx).elim (fun z => z ▸ hR) (hk x)⟩
  exact ⟨ks, mv', e1, hp', by simpa using hl, hk⟩
/-- .. with a test: some of the turns give an item -/
theorem draws_some {Pot : Mv → Prop} {γ : Type} (S : Mv → Sm) (q : γ → PyData) (R : γ → Prop) {own : List Nat} {bt : Tg} {tst : Ev Bool} {e : Ev PyData} : ∀ {ds acc : List PyData} {mv : Mv}, Pot mv →
    (∀ d ∈ ds, ∀ mv, Pot mv → ∃ o mv', compStep own bt tst e d (S mv) = .ok (Option.map q o) (S mv') ∧ Pot mv' ∧ ∀ k, o = some k → R k) →
    ∃ (ks : List γ) (mv' : Mv), compL own bt tst e ds acc (S mv) = .ok (acc ++ ks.map q) (S mv') ∧ Pot mv' ∧ ks.length ≤ ds.length ∧ ∀ k ∈ ks, R k
  | [], acc, mv, hp, hF => ⟨[], mv, by rw [List.map_nil, List.append_nil]; rfl, hp, Nat.le_refl _, fun k hk => by cases hk⟩
  | d :: ds, acc, mv, hp, hF => by
    obtain ⟨o, mv1, e1, hp1, h1⟩ := hF d (List.mem_cons_self ..) mv hp
    obtain ⟨ks, mv2, e2, hp2, hl, hk⟩ := draws_some S q R (ds := ds) (acc := adds acc (Option.map q o)) hp1 fun x hx => hF x (List.mem_cons_of_mem _ hx)
    cases o with
    | none => exact ⟨ks, mv2, by rw [compL_step e1]; exact e2, hp2, by rw [List.length_cons]; omega, hk⟩
    | some k =>
      refine ⟨k :: ks, mv2, by rw [compL_step e1, e2]; simp [adds], hp2, by simp only [List.length_cons]; omega, fun x hx => ?_⟩
      rcases List.mem_cons.mp hx with z | z
      · rw [z]; exact h1 k rfl
      · exact hk x z
end PyE

/-! PyP: equations of the further words: chains, ranges, dicts, errors -/
namespace PyE
open PySem PySem.Spec PyProof.Rows
open L2
section
variable {α β : Type} {m m' : Sm} {f fa fb fc : Ev Rv} {fs gs : List (Ev Rv)} {g h : Sf} {g2 g2' : PyData → PyData → Option Rv} {x y z : Rv}
/-! ### chains -/
def ch3 (g' : PyData → PyData → Option Rv) : Option PyData → Option PyData → Ev Rv := fun b c m => match b, c with
  | some b, some c => fin1 (g' b c) m
  | _, _ => .no
def ch2 (g' : PyData → PyData → Option Rv) (fc : Ev Rv) (y : Rv) : Option Rv → Ev Rv := fun o m => match o with
  | some (.d (.bool k)) => if k = true then (fc m).bind (chK2 g' y) else .ok (.d (.bool false)) m
  | _ => .no
def ch1 (g g' : PyData → PyData → Option Rv) (fc : Ev Rv) (y : Rv) : Option PyData → Option PyData → Ev Rv := fun a b m => match a, b with
  | some a, some b => ch2 g' fc y (g a b) m
  | _, _ => .no
def chB (g g' : PyData → PyData → Option Rv) (fc : Ev Rv) (x : Rv) : Rv → Ev Rv := fun y m => ch1 g g' fc y (deref m x) (deref m y) m
def chA (g g' : PyData → PyData → Option Rv) (fb fc : Ev Rv) : Rv → Ev Rv := fun x m => (fb m).bind (chB g g' fc x)
theorem ev_chain : chainE g2 g2' fa fb fc m = Res.bind (fa m) (chA g2 g2' fb fc) := rfl
theorem ev_chA : chA g2 g2' fb fc x m = Res.bind (fb m) (chB g2 g2' fc x) := rfl
theorem ev_chB : chB g2 g2' fc x y m = ch1 g2 g2' fc y (deref m x) (deref m y) m := rfl
theorem ev_ch1 {a b : PyData} : ch1 g2 g2' fc y (some a) (some b) m = ch2 g2' fc y (g2 a b) m := rfl
theorem ev_ch2_t : ch2 g2' fc y (some (.d (.bool true))) m = Res.bind (fc m) (chK2 g2' y) := rfl
theorem ev_ch2_f : ch2 g2' fc y (some (.d (.bool false))) m = .ok (.d (.bool false)) m := rfl
theorem ev_chK2 : chK2 g2' y z m = ch3 g2' (deref m y) (deref m z) m := rfl
theorem ev_ch3 {a b : PyData} : ch3 g2' (some a) (some b) m = fin1 (g2' a b) m := rfl
/-! ### comparisons -/
theorem cmpDT_int {p : Int → Int → Bool} {q : List Int → List Int → Bool} {i j : Int} : cmpDT p q (.int i) (.int j) = some (.d (.bool (p i j))) := rfl
theorem cmpDT_pt {p : Int → Int → Bool} {q : List Int → List Int → Bool} {a b : List Int} : cmpDT p q (.tuple (a.map .int)) (.tuple (b.map .int)) = some (.d (.bool (q a b))) := by
  show cmpT q (intsOf _) (intsOf _) = _
  rw [intsOf_map, intsOf_map]; rfl
/-! ### ranges made -/
variable {n a b : Int} {tp : Bool}
theorem ev_rge1 : rgE1 tp f m = Res.bind (f m) (rg1K tp) := rfl
def rgO (tp : Bool) (a b : Int) : Ev Rv := fun m => if okRg a b = true then .ok (if tp = true then .d (.tuple (rangeD a b)) else .nl (rangeD a b)) m else .no
theorem ev_rg1K : rg1K tp (.d (.int n)) m = rgO tp 0 n m := rfl
def rg2A (tp : Bool) (fb : Ev Rv) : Rv → Ev Rv := fun x m => (fb m).bind (rg2K tp x)
theorem ev_rge2 : rgE2 tp fa fb m = Res.bind (fa m) (rg2A tp fb) := rfl
theorem ev_rg2A : rg2A tp fb x m = Res.bind (fb m) (rg2K tp x) := rfl
theorem ev_rg2K : rg2K tp (.d (.int a)) (.d (.int b)) m = rgO tp a b m := rfl
theorem ev_rgO_l (h : okRg a b = true) : rgO false a b m = .ok (.nl (rangeD a b)) m := if_pos h
theorem ev_rgO_t (h : okRg a b = true) : rgO true a b m = .ok (.d (.tuple (rangeD a b))) m := if_pos h
def revO : Option PyData → Ev Rv := fun o m => match o with
  | some (.list xs) => .ok (.nl xs.reverse) m
  | _ => .no
theorem ev_rev : revE f m = Res.bind (f m) revK := rfl
theorem ev_revK : revK x m = revO (deref m x) m := rfl
theorem ev_revO {xs : List PyData} : revO (some (.list xs)) m = .ok (.nl xs.reverse) m := rfl
/-! ### three names at once -/
variable {i j l : Nat} {f1 f2 f3 : Ev Rv} {r r1 r2 r3 : Rv} {o : Fo}
def p3F (l : Nat) (r3 : Rv) : Fo → Sf := fun _ m => putM l r3 m
def p3E (j l : Nat) (r2 r3 : Rv) : Fo → Sf := fun _ m => (putM j r2 m).bind (p3F l r3)
def p3D (i j l : Nat) (r1 r2 : Rv) : Rv → Sf := fun r3 m => (putM i r1 m).bind (p3E j l r2 r3)
def p3C (i j l : Nat) (f3 : Ev Rv) (r1 : Rv) : Rv → Sf := fun r2 m => (ownF f3 m).bind (p3D i j l r1 r2)
def p3B (i j l : Nat) (f2 f3 : Ev Rv) : Rv → Sf := fun r1 m => (ownF f2 m).bind (p3C i j l f3 r1)
theorem ev_par3 : par3S i j l f1 f2 f3 m = Res.bind (ownF f1 m) (p3B i j l f2 f3) := rfl
theorem ev_p3B : p3B i j l f2 f3 r1 m = Res.bind (ownF f2 m) (p3C i j l f3 r1) := rfl
theorem ev_p3C : p3C i j l f3 r1 r2 m = Res.bind (ownF f3 m) (p3D i j l r1 r2) := rfl
theorem ev_p3D : p3D i j l r1 r2 r3 m = Res.bind (putM i r1 m) (p3E j l r2 r3) := rfl
theorem ev_p3E : p3E j l r2 r3 o m = Res.bind (putM j r2 m) (p3F l r3) := rfl
theorem ev_p3F : p3F l r3 o m = putM l r3 m := rfl
/-! ### dicts -/
variable {kvs : Kvs} {k d dd : PyData} {xs : List PyData}
def dcO : Option PyData → Option Kvs := fun o => match o with
  | some (.dict kvs) => some kvs
  | _ => none
theorem ev_dictOf : dictOf m x = dcO (deref m x) := rfl
theorem ev_dcO : dcO (some (.dict kvs)) = some kvs := rfl
def getA (x : Rv) (fs : List (Ev Rv)) : Option Kvs → Ev Rv := fun o m => match o with
  | some _ => (argsD fs m).bind (getK2 x)
  | none => .no
def getB : Option Kvs → List PyData → Ev Rv := fun o ds m => match o, ds with
  | some kvs, [k] => if keyOk kvs k = true then .ok (.d ((findP kvs k).getD .none)) m else .no
  | some kvs, [k, d] => if keyOk kvs k = true then .ok (.d ((findP kvs k).getD d)) m else .no
  | _, _ => .no
theorem ev_get : getE f fs m = Res.bind (f m) (getK fs) := rfl
theorem ev_getK : getK fs x m = getA x fs (dictOf m x) m := rfl
theorem ev_getA : getA x fs (some kvs) m = Res.bind (argsD fs m) (getK2 x) := rfl
theorem ev_getK2 {ds : List PyData} : getK2 x ds m = getB (dictOf m x) ds m := rfl
theorem ev_getB1 (h : keyOk kvs k = true) : getB (some kvs) [k] m = .ok (.d ((findP kvs k).getD .none)) m := if_pos h
theorem ev_getB2 (h : keyOk kvs k = true) : getB (some kvs) [k, d] m = .ok (.d ((findP kvs k).getD d)) m := if_pos h
theorem ev_dict : dictE f m = Res.bind (frzE f m) dictK := rfl
theorem ev_dictK : dictK d m = dictO (seqOf d) m := rfl
theorem ev_dictO : dictO (some xs) m = fin1 (dictP xs) m := rfl
theorem ix_dict_of (h : keyOk kvs k = true) (h2 : findP kvs k = some d) : ixDD (.dict kvs) k = some (.d d) := by
  show (if keyOk kvs k = true then (findP kvs k).map Rv.d else none) = _
  rw [if_pos h, h2]; rfl
theorem in_dict_of (neg : Bool) (h : keyOk kvs k = true) : inDD neg k (.dict kvs) = some (.d (.bool (neg != (findP kvs k).isSome))) := if_pos h
theorem ixDD_l : ixDD (.list xs) k = ixD (.list xs) k := rfl
theorem ixDD_t : ixDD (.tuple xs) k = ixD (.tuple xs) k := rfl
theorem inDD_l {neg : Bool} : inDD neg k (.list xs) = inD neg k (.list xs) := rfl
theorem inDD_t {neg : Bool} : inDD neg k (.tuple xs) = inD neg k (.tuple xs) := rfl
def sx3 (i : Nat) (d k : PyData) : Option (Option Mv) → Sf := fun o m => match o with
  | some (some (.ol xs)) => match k with
    | .int k => match ixN xs.length k with
      | some j => .ok .nx (m.set i (some (.ol (xs.set j d))))
      | none => .no
    | _ => .no
  | some (some (.od kvs)) => if keyOk kvs k = true ∧ kvs.length < 1000000 then .ok .nx (m.set i (some (.od (putP kvs k d)))) else .no
  | _ => .no
def sx1 (i : Nat) (fi : Ev Rv) (d : PyData) : Option (Option Mv) → Sf := fun o m => match o with
  | some (some (.ol _)) => (frzE fi m).bind (setK2 i d)
  | some (some (.od _)) => (frzE fi m).bind (setK2 i d)
  | _ => .no
theorem ev_setX : setX i fa fb m = Res.bind (frzE fb m) (setK1 i fa) := rfl
theorem ev_setK1 : setK1 i fa d m = sx1 i fa d m[i]? m := rfl
theorem ev_sx1_ol : sx1 i fa d (some (some (.ol xs))) m = Res.bind (frzE fa m) (setK2 i d) := rfl
theorem ev_sx1_od : sx1 i fa d (some (some (.od kvs))) m = Res.bind (frzE fa m) (setK2 i d) := rfl
theorem ev_setK2 : setK2 i d k m = sx3 i d k m[i]? m := rfl
theorem ev_sx3_od (h : keyOk kvs k = true) (h2 : kvs.length < 1000000) : sx3 i d k (some (some (.od kvs))) m = .ok .nx (m.set i (some (.od (putP kvs k d)))) := if_pos ⟨h, h2⟩
theorem ev_sx3_ol {jj : Nat} (h : jj < xs.length) : sx3 i d (.int (jj : Int)) (some (some (.ol xs))) m = .ok .nx (m.set i (some (.ol (xs.set jj d)))) := by
  show (match ixN xs.length (jj : Int) with | some j => Res.ok Fo.nx (m.set i (some (.ol (xs.set j d)))) | none => .no) = _
  have : ixN xs.length (jj : Int) = some jj := by unfold ixN; rw [if_pos (by omega), if_pos (by omega)]; simp
  rw [this]
/-! ### errors -/
variable {c : Str} {e : Ex} {hs : Hs}
def rsK (c : Str) : PyData → Sf := fun d m => .ex ⟨c, some d⟩ m
def reO : Option (Option Mv) → Nat → Sf := fun o i m => match o with
  | some (some (.od kvs)) => .ok (.rt (.od kvs)) (m.set i none)
  | _ => .no
theorem ev_retO {i : Nat} {m : Sm} : retO i m = reO m[i]? i m := by
  unfold retO reO
  split <;> simp_all
theorem ev_reO {i : Nat} {m : Sm} {kvs : Kvs} : reO (some (some (.od kvs))) i m = .ok (.rt (.od kvs)) (m.set i none) := rfl
theorem ev_raise1 : raise1 c f m = Res.bind (frzE f m) (rsK c) := rfl
theorem ev_rsK : rsK c d m = .ex ⟨c, some d⟩ m := rfl
theorem ev_raise0 : raise0 c m = .ex ⟨c, none⟩ m := rfl
def trO (hs : Hs) : Res Fo → Res Fo
  | .ex e m => hdGo hs e m
  | r => r
theorem ev_try : tryS g hs m = trO hs (g m) := by
  show (match g m with | .ex e m1 => hdGo hs e m1 | r => r) = _
  cases g m <;> rfl
theorem ev_trO_ok : trO hs (.ok o m) = .ok o m := rfl
theorem ev_trO_ex : trO hs (.ex e m) = hdGo hs e m := rfl
def hdC : Bool → Option PyData → Sf := fun b o m => if b = true then match o with | some d => .ok (.rt (.fz d)) m | none => .no else .no
def hdB (b : Bool) (i : Option Nat) (h : He) (r : Hs) (e : Ex) : Sf := fun m => if b = true then hdC (hdAt i m) (h e) m else hdGo r e m
theorem ev_hd {i : Option Nat} {h : He} {n : Str} {r : Hs} : hdGo ((n, i, h) :: r) e m = hdB (catches e.cls n) i h r e m := by
  unfold hdGo hdB hdC
  by_cases q : catches e.cls n = true
  · (simp only [q, if_true]) <;> (by_cases q2 : hdAt i m = true <;> simp only [q2, Bool.false_eq_true, if_true, if_false] <;> (cases h e <;> rfl))
  · simp only [q, Bool.false_eq_true, if_false]
theorem ev_hd0 : hdGo [] e m = .ex e m := rfl
theorem ev_hdB_t {i : Option Nat} {h : He} {r : Hs} : hdB true i h r e m = hdC (hdAt i m) (h e) m := rfl
theorem ev_hdB_f {i : Option Nat} {h : He} {r : Hs} : hdB false i h r e m = hdGo r e m := rfl
theorem ev_hdC {d : PyData} : hdC true (some d) m = .ok (.rt (.fz d)) m := rfl
theorem ev_hdAt0 : hdAt none m = true := rfl
theorem ev_hdAt : hdAt (some i) m = decide (i < m.length) := rfl
theorem ev_hdD : hdD d e = some d := rfl
theorem ev_hdArg {x : Option PyData} : hdArg c ⟨c, x⟩ = x := if_pos rfl
theorem ev_hdNil : hdNil e = some [] := rfl
def hcO : Option PyData → Option (List PyData) → Option (List PyData)
  | some d, some ds => some (d :: ds)
  | _, _ => none
theorem ev_hdCons {h : He} {hs : Ex → Option (List PyData)} : hdCons h hs e = hcO (h e) (hs e) := rfl
theorem ev_hcO {ds : List PyData} : hcO (some d) (some ds) = some (d :: ds) := rfl
theorem ev_hdTup {hs : Ex → Option (List PyData)} : hdTup hs e = (hs e).map .tuple := rfl
theorem ev_hdLst {hs : Ex → Option (List PyData)} : hdLst hs e = (hs e).map .list := rfl
theorem catch_self : catches c c = true := by simp [catches]
theorem catch_all : catches c "HillError" = true := by simp [catches]
theorem catch_UT : catches "Unfit" "TooMany" = false := by decide
theorem catch_TU : catches "TooMany" "Unfit" = false := by decide
theorem ev_runR_ex {ro : List Nat} {ms : List Mv} : runR ro ms (.ex e m) = .ex e (backP ro 0 ms m) := rfl
theorem ev_sqK_ex : Res.bind (Res.ex e m : Res Fo) (sqK h) = .ex e m := rfl
theorem ev_caF_ex {rs : List Rv} {os : Sm} : caF rs m (.ex e os) = .ex e (backM rs os m) := rfl
end
end PyE

/-! PyP: hills as rows of plain numbers: order, sorting, dicts -/
namespace PyE
open PySem PySem.Spec PyProof.Rows
open L2
open PySem.W (keyToksAll alike alikeAll AllAlike Sortable dataLe dataLt dataLt_cons dataLt_pair)
abbrev Hl := List (List Int × Int)
abbrev prP (p : List Int × Int) : PyData := .tuple [pt p.1, .int p.2]
/-! ### the order of rows of ints -/
theorem ltL_irrefl : ∀ (a : List Int), ltL a a = false
  | [] => rfl
  | x :: xs => by simp only [ltL, if_true, ltL_irrefl xs]
theorem ltL_trans : ∀ {a b c : List Int}, ltL a b = true → ltL b c = true → ltL a c = true
  | [], [], _, h, _ => by simp [ltL] at h
  | [], _ :: _, [], _, h => by simp [ltL] at h
  | [], _ :: _, _ :: _, _, _ => rfl
  | _ :: _, [], _, h, _ => by simp [ltL] at h
  | _ :: _, _ :: _, [], _, h => by simp [ltL] at h
  | x :: xs, y :: ys, z :: zs, h1, h2 => by
    simp only [ltL] at h1 h2 ⊢
    by_cases e1 : x = y
    · subst e1
      rw [if_pos rfl] at h1
      by_cases e2 : x = z
      · subst e2
        rw [if_pos rfl] at h2 ⊢
        exact ltL_trans h1 h2
      · rw [if_neg e2] at h2 ⊢
        exact h2
    · rw [if_neg e1] at h1
      have h1 := of_decide_eq_true h1
      by_cases e2 : y = z
      · subst e2
        rw [if_neg e1]
        exact decide_eq_true h1
      · rw [if_neg e2] at h2
        have h2 := of_decide_eq_true h2
        rw [if_neg (by omega)]
        exact decide_eq_true (by omega)
theorem ltL_tri : ∀ (a b : List Int), ltL a b = true ∨ a = b ∨ ltL b a = true
  | [], [] => .inr (.inl rfl)
  | [], _ :: _ => .inl rfl
  | _ :: _, [] => .inr (.inr rfl)
  | x :: xs, y :: ys => by
    simp only [ltL]
    by_cases e : x = y
    · subst e
      rw [if_pos rfl, if_pos rfl]
      rcases ltL_tri xs ys with h | h | h
      · exact .inl h
      · exact .inr (.inl (by rw [h]))
      · exact .inr (.inr h)
    · rw [if_neg e, if_neg (fun z => e z.symm)]
      by_cases h : x < y
      · exact .inl (decide_eq_true h)
      · exact .inr (.inr (decide_eq_true (by omega)))
theorem ltL_asymm {a b : List Int} (h : ltL a b = true) : ltL b a = false := by
  cases e : ltL b a with
  | false => rfl
  | true => have := ltL_trans h e; rw [ltL_irrefl] at this; cases this
theorem ltL_ne {a b : List Int} (h : ltL a b = true) : a ≠ b := fun e => by rw [e, ltL_irrefl] at h; cases h
/-- ascending -/
def Asc (l : List (List Int)) : Prop := l.Pairwise fun a b => ltL a b = true
theorem Asc.nodup {l : List (List Int)} (h : Asc l) : l.Nodup := h.imp fun h e => ltL_ne h e
/-- pairs, by their points, then by their worths -/
def ltR (p q : List Int × Int) : Bool := if p.1 = q.1 then decide (p.2 < q.2) else ltL p.1 q.1
theorem alike_ints : ∀ (a b : List Int), alikeAll (a.map .int) (b.map .int) = true
  | [], _ => by simp [alikeAll]
  | _ :: _, [] => by simp [alikeAll]
  | x :: xs, y :: ys => by simp only [List.map_cons, alikeAll, alike, alike_ints xs ys, Bool.and_self]
theorem alike_pt (a b : List Int) : alike (pt a) (pt b) = true := by simp only [alike]; exact alike_ints a b
theorem alike_pr (p q : List Int × Int) : alike (prP p) (prP q) = true := by
  simp only [prP, alike, alikeAll, alike_ints, Bool.and_self]
theorem eqv_pt (a b : List Int) : PyData.eqv (pt a) (pt b) = decide (a = b) := keysI_eq a b
theorem eqv_i (i j : Int) : PyData.eqv (.int i) (.int j) = decide (i = j) := by
  simp only [PyData.eqv]; rfl
theorem dataLt_i (i j : Int) : dataLt (.int i) (.int j) = decide (i < j) := PySem.W.dataLt_int i j
theorem dataLt_pt : ∀ (a b : List Int), dataLt (pt a) (pt b) = ltL a b
  | [], [] => by rfl
  | [], y :: ys => by rfl
  | x :: xs, [] => by rfl
  | x :: xs, y :: ys => by
    have h : dataLt (pt (x :: xs)) (pt (y :: ys)) = PyProof.Rows.lexLt itemOrd (keyToksAll (.int x :: xs.map .int)) (keyToksAll (.int y :: ys.map .int)) := rfl
    rw [h, dataLt_cons (by simp [alike])]
    have h2 : PyProof.Rows.lexLt itemOrd (keyToksAll (xs.map .int)) (keyToksAll (ys.map .int)) = dataLt (pt xs) (pt ys) := rfl
    rw [h2, dataLt_pt xs ys, eqv_i, dataLt_i]
    simp only [ltL, decide_eq_true_eq]
theorem dataLt_pr (p q : List Int × Int) : dataLt (prP p) (prP q) = ltR p q := by
  unfold prP
  rw [dataLt_pair (alike_pt _ _) (by simp [alike]), eqv_pt, eqv_i, dataLt_i, dataLt_pt]
  unfold ltR
  by_cases h : p.1 = q.1
  · rw [if_pos (decide_eq_true h), if_pos h]
    by_cases h2 : p.2 = q.2
    · rw [if_pos (decide_eq_true h2)]; simp [h2]
    · rw [if_neg (by simpa using h2)]
  · rw [if_neg (by simpa using h), if_neg h]
def sortR (h : Hl) : Hl := h.mergeSort fun a b => !ltR b a
theorem sortL_pr (h : Hl) : sortL (h.map prP) = (sortR h).map prP := by
  unfold sortL sortR
  rw [List.map_mergeSort (r := fun a b => !ltR b a) (s := dataLe false id)]
  intro a _ b _
  show (!ltR b a) = (!dataLt (prP b) (prP a))
  rw [dataLt_pr]
theorem ltR_trans {p q r : List Int × Int} (h1 : ltR p q = true) (h2 : ltR q r = true) : ltR p r = true := by
  unfold ltR at *
  by_cases e1 : p.1 = q.1
  · rw [if_pos e1] at h1
    by_cases e2 : q.1 = r.1
    · rw [if_pos e2] at h2
      rw [if_pos (e1.trans e2)]
      exact decide_eq_true (Int.lt_trans (of_decide_eq_true h1) (of_decide_eq_true h2))
    · rw [if_neg e2] at h2
      rw [if_neg (by rw [e1]; exact e2), e1]; exact h2
  · rw [if_neg e1] at h1
    by_cases e2 : q.1 = r.1
    · rw [if_neg (by rw [← e2]; exact e1), ← e2]; exact h1
    · rw [if_neg e2] at h2
      have h3 := ltL_trans h1 h2
      rw [if_neg (ltL_ne h3)]; exact h3
theorem ltR_irrefl (p : List Int × Int) : ltR p p = false := by simp [ltR]
theorem ltR_tri (p q : List Int × Int) : ltR p q = true ∨ p = q ∨ ltR q p = true := by
  unfold ltR
  rcases ltL_tri p.1 q.1 with h | h | h
  · exact .inl (by rw [if_neg (ltL_ne h)]; exact h)
  · rw [if_pos h, if_pos h.symm]
    by_cases h2 : p.2 < q.2
    · exact .inl (decide_eq_true h2)
    · by_cases h3 : p.2 = q.2
      · exact .inr (.inl (Prod.ext h h3))
      · exact .inr (.inr (decide_eq_true (by omega)))
  · exact .inr (.inr (by rw [if_neg (ltL_ne h)]; exact h))
theorem leR_trans (a b c : List Int × Int) (h1 : (!ltR b a) = true) (h2 : (!ltR c b) = true) : (!ltR c a) = true := by
  simp only [Bool.not_eq_true'] at *
  cases e : ltR c a with
  | false => rfl
  | true =>
    rcases ltR_tri a b with h | h | h
    · have := ltR_trans e h; rw [h2] at this; cases this
    · subst h; rw [h2] at e; cases e
    · rw [h1] at h; cases h
theorem leR_total (a b : List Int × Int) : ((!ltR b a) || !ltR a b) = true := by
  cases e : ltR b a with
  | false => rfl
  | true =>
    cases e2 : ltR a b with
    | false => rfl
    | true => have := ltR_trans e e2; rw [ltR_irrefl] at this; cases this
theorem sortR_perm (h : Hl) : (sortR h).Perm h := List.mergeSort_perm _ _
theorem sortR_sorted (h : Hl) : (sortR h).Pairwise fun a b => (!ltR b a) = true := List.pairwise_mergeSort leR_trans leR_total h
/-- a hill whose points ascend -/
def AscH (h : Hl) : Prop := Asc (h.map (·.1))
theorem AscH.rows {h : Hl} (a : AscH h) : h.Pairwise fun p q => ltR p q = true := by
  have := List.pairwise_map.mp a
  exact this.imp fun {p q} z => by unfold ltR; rw [if_neg (ltL_ne z)]; exact z
theorem sortR_asc {h : Hl} (a : AscH h) : sortR h = h := by
  unfold sortR
  refine List.mergeSort_of_pairwise (a.rows.imp fun {p q} z => ?_)
  cases e : ltR q p with
  | false => rfl
  | true => have := ltR_trans z e; rw [ltR_irrefl] at this; cases this
/-- .. sorted again by other rows of the same -/
theorem sortR_of_perm {h h' : Hl} (p : h.Perm h') : sortR h = sortR h' := by
  refine List.Perm.eq_of_pairwise (le := fun a b => (!ltR b a) = true) (fun a b _ _ h1 h2 => ?_) (sortR_sorted h) (sortR_sorted h') (((sortR_perm h).trans p).trans (sortR_perm h').symm)
  simp only [Bool.not_eq_true'] at h1 h2
  rcases ltR_tri a b with z | z | z
  · rw [h2] at z; cases z
  · exact z
  · rw [h1] at z; cases z
theorem sorted_pr {h : Hl} : sortedD [.list (h.map prP)] = some (.nl ((sortR h).map prP)) := by
  have hB : sortB (h.map prP) = true := by
    unfold sortB
    simp only [Bool.and_eq_true, Bool.or_eq_true, List.all_eq_true, decide_eq_true_eq]
    refine ⟨⟨fun x hx y hy => ?_, .inl fun x hx => ?_⟩, ?_⟩
    · obtain ⟨p, _, rfl⟩ := List.mem_map.mp hx
      obtain ⟨q, _, rfl⟩ := List.mem_map.mp hy
      exact alike_pr p q
    · obtain ⟨p, _, rfl⟩ := List.mem_map.mp hx
      rfl
    · have hi : ∀ l : List Int, PyData.depthAll (l.map .int) = 0 := fun l => by
        induction l with
        | nil => rfl
        | cons x l ih => simp only [List.map_cons, PyData.depthAll, PyData.depth, ih]; rfl
      have hp : ∀ p, (prP p).depth ≤ 2 := fun p => by
        simp only [prP, PyData.depth, PyData.depthAll, hi]; omega
      have : ∀ h : Hl, PyData.depthAll (h.map prP) ≤ 2 := fun h => by
        induction h with
        | nil => exact Nat.zero_le _
        | cons p h ih => have := hp p; simp only [List.map_cons, PyData.depthAll]; omega
      exact Nat.le_trans (this h) (by omega)
  show (if sortB (h.map prP) = true then some (Rv.nl (sortL (h.map prP))) else none) = _
  rw [if_pos hB, sortL_pr]
/-! ### hills as dicts -/
def kvH (h : Hl) : Kvs := h.map fun p => (pt p.1, .int p.2)
def look (h : Hl) (x : List Int) : Option Int := (h.find? fun p => decide (p.1 = x)).map (·.2)
theorem kvH_length (h : Hl) : (kvH h).length = h.length := List.length_map _
theorem kind_pt (x : List Int) : keyKind (pt x) = some true := kind_keysI x
theorem keyOk_H (h : Hl) (x : List Int) : keyOk (kvH h) (pt x) = true := by
  cases h with
  | nil => show (keyKind (pt x)).isSome = true; rw [kind_pt]; rfl
  | cons p h => show ((keyKind (pt x)).isSome && keyKind (pt p.1) == keyKind (pt x)) = true; rw [kind_pt, kind_pt]; rfl
theorem findP_H (h : Hl) (x : List Int) : findP (kvH h) (pt x) = (look h x).map .int := by
  unfold findP look kvH
  induction h with
  | nil => rfl
  | cons p h ih =>
    simp only [List.map_cons, List.find?_cons, eqv_pt]
    by_cases e : p.1 = x
    · rw [decide_eq_true e]; rfl
    · rw [decide_eq_false e]; exact ih
theorem any_H (h : Hl) (x : List Int) : ((kvH h).any fun p => PyData.eqv p.1 (pt x)) = (h.any fun p => decide (p.1 = x)) := by
  unfold kvH
  rw [List.any_map]
  congr 1
  funext p
  exact eqv_pt _ _
theorem putP_H {h : Hl} {x : List Int} {w : Int} (hn : x ∉ h.map (·.1)) : putP (kvH h) (pt x) (.int w) = kvH (h ++ [(x, w)]) := by
  unfold putP
  have e : (h.any fun p => decide (p.1 = x)) = false := by
    rw [List.any_eq_false]
    intro p hp q
    exact hn (List.mem_map.mpr ⟨p, hp, of_decide_eq_true q⟩)
  rw [any_H, e, if_neg Bool.false_ne_true]
  simp [kvH]
theorem putAll_H : ∀ (h a : Hl), ((a ++ h).map (·.1)).Nodup → putAll (kvH a) (kvH h) = kvH (a ++ h)
  | [], a, _ => by rw [List.append_nil]; rfl
  | p :: h, a, hn => by
    show putAll (putP (kvH a) (pt p.1) (.int p.2)) (kvH h) = _
    have hx : p.1 ∉ a.map (·.1) := fun hm => by
      rw [List.map_append, List.nodup_append] at hn
      exact hn.2.2 _ hm _ (by simp) rfl
    rw [putP_H hx, putAll_H h (a ++ [(p.1, p.2)]) (by simpa using hn)]
    simp
theorem pairs_H : ∀ (h : Hl), pairsOf (h.map prP) = some (kvH h)
  | [] => rfl
  | p :: h => by
    show (match pairsOf (h.map prP) with | some q => some ((pt p.1, PyData.int p.2) :: q) | none => none) = _
    rw [pairs_H h]; rfl
theorem dictP_H {h : Hl} (hn : (h.map (·.1)).Nodup) (hl : h.length < 1000000) : dictP (h.map prP) = some (.nd (kvH h)) := by
  unfold dictP
  rw [pairs_H]
  have hk : kindAll true (kvH h) = true := by
    unfold kindAll
    rw [List.all_eq_true]
    intro q hq
    obtain ⟨p, _, rfl⟩ := List.mem_map.mp hq
    rw [show keyKind (pt p.1) = some true from kind_pt _]; rfl
  have e := putAll_H h [] (by simpa using hn)
  show (if (kindAll false (kvH h) || kindAll true (kvH h)) = true ∧ (kvH h).length < 1000000 then some (Rv.nd (putAll [] (kvH h))) else none) = _
  rw [if_pos ⟨by rw [hk, Bool.or_true], by rw [kvH_length]; exact hl⟩, show putAll [] (kvH h) = kvH h from e]
theorem look_some {h : Hl} (hn : (h.map (·.1)).Nodup) {x : List Int} {w : Int} (hm : (x, w) ∈ h) : look h x = some w := by
  unfold look
  induction h with
  | nil => cases hm
  | cons p h ih =>
    rw [List.find?_cons]
    rw [List.map_cons, List.nodup_cons] at hn
    rcases List.mem_cons.mp hm with e | e
    · subst e; simp
    · have : p.1 ≠ x := fun z => hn.1 (List.mem_map.mpr ⟨_, e, z.symm⟩)
      rw [decide_eq_false this]
      exact ih hn.2 e
theorem look_mem {h : Hl} {x : List Int} {w : Int} (hw : look h x = some w) : (x, w) ∈ h := by
  unfold look at hw
  cases e : h.find? fun p => decide (p.1 = x) with
  | none => rw [e] at hw; cases hw
  | some p =>
    rw [e] at hw
    have h1 := List.find?_some e
    have h2 := List.mem_of_find?_eq_some e
    have e1 := of_decide_eq_true h1
    cases hw
    rw [← e1]; exact h2
theorem look_none {h : Hl} {x : List Int} (hx : x ∉ h.map (·.1)) : look h x = none := by
  cases e : look h x with
  | none => rfl
  | some w => exact absurd (List.mem_map.mpr ⟨_, look_mem e, rfl⟩) hx
theorem look_isSome {h : Hl} {x : List Int} : (look h x).isSome = true ↔ x ∈ h.map (·.1) := by
  refine ⟨fun q => ?_, fun q => ?_⟩
  · obtain ⟨w, e⟩ := Option.isSome_iff_exists.mp q
    exact List.mem_map.mpr ⟨_, look_mem e, rfl⟩
  · obtain ⟨p, hp, e⟩ := List.mem_map.mp q
    unfold look
    rw [Option.isSome_map, List.find?_isSome]
    exact ⟨p, hp, decide_eq_true e⟩
end PyE

/-! PyP: changing lists; while; sources of draws as they stand; lists of small things -/
namespace PyE
open PySem PySem.Spec PyProof.Rows
open L2
section
variable {m : Sm} {i : Nat} {g : Gm} {fs : List (Ev Rv)} {xs ys ds : List PyData} {r d : PyData}
def mu4 (i : Nat) : Option (PyData × List PyData) → Ev Rv := fun o m => match o with
  | some (r, ys) => .ok (.d r) (m.set i (some (.ol ys)))
  | none => .no
def mu3 (i : Nat) (g : Gm) (ds : List PyData) : Option (Option Mv) → Ev Rv := fun o m1 => match o with
  | some (some (.ol xs)) => mu4 i (g xs ds) m1
  | _ => .no
def mu2 (i : Nat) (g : Gm) : List PyData → Ev Rv := fun ds m1 => mu3 i g ds m1[i]? m1
def mu1 (i : Nat) (g : Gm) (fs : List (Ev Rv)) : Option (Option Mv) → Ev Rv := fun o m => match o with
  | some (some (.ol _)) => (argsD fs m).bind (mu2 i g)
  | _ => .no
theorem ev_mut : mutE i g fs m = mu1 i g fs m[i]? m := by
  unfold mutE mu1
  cases m[i]? with
  | none => rfl
  | some o =>
    cases o with
    | none => rfl
    | some mv =>
      cases mv with
      | ol zs =>
        rfl
      | _ => rfl
theorem ev_mu1 : mu1 i g fs (some (some (.ol xs))) m = Res.bind (argsD fs m) (mu2 i g) := rfl
theorem ev_mu2 : mu2 i g ds m = mu3 i g ds m[i]? m := rfl
theorem ev_mu3 : mu3 i g ds (some (some (.ol xs))) m = mu4 i (g xs ds) m := rfl
theorem ev_mu4 : mu4 i (some (r, ys)) m = .ok (.d r) (m.set i (some (.ol ys))) := rfl
theorem append_ok (h : xs.length < 1000000) : appendG xs [d] = some (.none, xs ++ [d]) := if_pos h
theorem extend_ok (h : xs.length + ys.length ≤ 1000000) : extendG xs [.list ys] = some (.none, xs ++ ys) := if_pos h
theorem popAt_ok {k : Nat} (h : xs[k]? = some d) (hl : xs.length ≤ 1000000) : popAtG xs [.int (k : Int)] = some (d, xs.eraseIdx k) := by
  have hk : k < xs.length := (List.getElem?_eq_some_iff.mp h).1
  unfold popAtG
  simp only
  rw [if_pos (by omega)]
  have : seqIndex? (k : Int) xs.length = some k := by
    unfold seqIndex?
    simp
    omega
  simp only [this, h]
end
/-! ### while -/
section
variable {c : Ev Bool} {g : Sf} {m : Sm}
def whK (c : Ev Bool) (g : Sf) (n : Nat) : Bool → Sf := fun b => if b = true then fun m => (g m).bind (fun o m2 => match o with
      | .nx => whileS c g n m2
      | .ct => whileS c g n m2
      | .bk => .ok .nx m2
      | .rt v => .ok (.rt v) m2) else fun m => .ok .nx m
theorem whileS_succ {n : Nat} : whileS c g (n + 1) m = (c m).bind (whK c g n) := rfl
/-- a while whose measure falls -/
theorem whileS_goes (P : Nat → Sm → Prop) : ∀ {k n : Nat} {m : Sm}, k < n → P k m → (∀ k m, P (k + 1) m → c m = .ok true m ∧ Goes (P k) (g m)) → (∀ m, P 0 m → c m = .ok false m) → ∃ m', whileS c g n m = .ok .nx m' ∧ P 0 m'
  | 0, n + 1, m, _, p, h1, h0 => ⟨m, by rw [whileS_succ, h0 m p]; rfl, p⟩
  | k + 1, n + 1, m, hk, p, h1, h0 => by
    obtain ⟨e, q⟩ := h1 k m p
    rw [whileS_succ, e]
    show ∃ m', whK c g n true m = _ ∧ _
    unfold whK
    simp only [if_true]
    generalize g m = r at q
    cases q with
    | nx q => exact whileS_goes P (Nat.lt_of_succ_lt_succ hk) q h1 h0
    | ct q => exact whileS_goes P (Nat.lt_of_succ_lt_succ hk) q h1 h0
end
/-! ### sources of draws, as they stand -/
/-- a source of few cells -/
structure Pot where
  k : Nat
  c : List Int
  a : Int
  b : Int
  few : c.length ≤ 1000
def Pot.mv (p : Pot) : Mv := .rs p.k p.c p.a p.b
theorem ev_slK_pot {p : Pot} {i : Nat} {m : Sm} : slK i (some (some p.mv)) m = .ok (.s i) m := rfl
theorem ev_mv_pot {p : Pot} : mvR p.mv = .nr p.k p.c p.a p.b := rfl
/-- a draw of the first kind -/
theorem Pot.drawA (p : Pot) (hk : p.k = 0) {many : Int} (hm : many < 1073741824) : ∃ (v : Int) (p' : Pot), p'.k = 0 ∧ drawFA [p.mv, .fz (.int many)] = .ok (.fz (.int v)) [some p'.mv, some (.fz (.int many))] ∧ 0 ≤ v ∧ (1 ≤ many → v < many) := by
  obtain ⟨k, c, a, b, few⟩ := p
  cases hk
  obtain ⟨v, c', b', e, h1, h2, h3⟩ := draw_ok c a b many hm few
  exact ⟨v, ⟨0, c', a, b', h1⟩, rfl, e, h2, h3⟩
theorem truth_b {b : Bool} : truth (.bool b) = some b := rfl
theorem isD_n {neg : Bool} : isD neg .none .none = some (.d (.bool (!neg))) := by cases neg <;> rfl
theorem isD_i {neg : Bool} {i : Int} : isD neg (.int i) .none = some (.d (.bool neg)) := by cases neg <;> rfl
theorem isD_t {neg : Bool} {xs : List PyData} : isD neg (.tuple xs) .none = some (.d (.bool neg)) := by cases neg <;> rfl
theorem isD_l {neg : Bool} {xs : List PyData} : isD neg (.list xs) .none = some (.d (.bool neg)) := by cases neg <;> rfl
theorem isD_s {neg : Bool} {x : Str} : isD neg (.str x) .none = some (.d (.bool neg)) := by cases neg <;> rfl
theorem isD_b {neg b : Bool} : isD neg (.bool b) .none = some (.d (.bool neg)) := by cases neg <;> rfl
theorem any_map_i {α : Type} (f : α → Int) (l : List α) : l.map (fun x => PyData.int (f x)) = (l.map f).map .int := by rw [List.map_map]; rfl
/-- a comprehension of draws from a source as it stands -/
theorem pots_gen {γ : Type} (S : Mv → Sm) (q : γ → PyData) (R : γ → Prop) {own : List Nat} {bt : Tg} {tst : Ev Bool} {e : Ev PyData} {ds : List PyData} (I : Pot → Prop) {p : Pot} (hp : I p)
    (hF : ∀ d ∈ ds, ∀ p : Pot, I p → ∃ k, ∃ p' : Pot, I p' ∧ compStep own bt tst e d (S p.mv) = .ok (some (q k)) (S p'.mv) ∧ R k) :
    ∃ (ks : List γ) (p' : Pot), I p' ∧ compL own bt tst e ds [] (S p.mv) = .ok (ks.map q) (S p'.mv) ∧ ks.length = ds.length ∧ ∀ k ∈ ks, R k := by
  obtain ⟨ks, mv', e1, ⟨p', rfl, hp'⟩, h2, h3⟩ := draws_gen (Pot := fun mv => ∃ p : Pot, mv = p.mv ∧ I p) S q R (own := own) (bt := bt) (tst := tst) (e := e) (ds := ds) (mv := p.mv) ⟨p, rfl, hp⟩ fun d hd mv ⟨p, hm, hp⟩ => by
    subst hm
    obtain ⟨k, p', h1, h2, h3⟩ := hF d hd p hp
    exact ⟨k, _, h2, ⟨p', rfl, h1⟩, h3⟩
  exact ⟨ks, p', hp', e1, h2, h3⟩
/-- .. some turns of which give an item -/
theorem pots_some {γ : Type} (S : Mv → Sm) (q : γ → PyData) (R : γ → Prop) {own : List Nat} {bt : Tg} {tst : Ev Bool} {e : Ev PyData} {ds : List PyData} (I : Pot → Prop) {p : Pot} (hp : I p)
    (hF : ∀ d ∈ ds, ∀ p : Pot, I p → ∃ o, ∃ p' : Pot, I p' ∧ compStep own bt tst e d (S p.mv) = .ok (Option.map q o) (S p'.mv) ∧ ∀ k, o = some k → R k) :
    ∃ (ks : List γ) (p' : Pot), I p' ∧ compL own bt tst e ds [] (S p.mv) = .ok (ks.map q) (S p'.mv) ∧ ks.length ≤ ds.length ∧ ∀ k ∈ ks, R k := by
  obtain ⟨ks, mv', e1, ⟨p', rfl, hp'⟩, h2, h3⟩ := draws_some (Pot := fun mv => ∃ p : Pot, mv = p.mv ∧ I p) S q R (own := own) (bt := bt) (tst := tst) (e := e) (ds := ds) (acc := []) (mv := p.mv) ⟨p, rfl, hp⟩ fun d hd mv ⟨p, hm, hp⟩ => by
    subst hm
    obtain ⟨k, p', h1, h2, h3⟩ := hF d hd p hp
    exact ⟨k, _, h2, ⟨p', rfl, h1⟩, h3⟩
  exact ⟨ks, p', hp', by simpa using e1, h2, h3⟩
end PyE

/-! PyP: loops over rows of plain things -/
namespace PyE
open PySem PySem.Spec PyProof.Rows
open L2
section
variable {γ : Type} {t : Tg} {g : Sf} {q : γ → PyData}
/-- a loop that goes through all of a row; P: what holds behind the items so far -/
theorem forL_rel (P : List γ → Sm → Prop) : ∀ {L pre : List γ} {m : Sm}, (∀ (p : List γ) (x : γ) (s : List γ) (m : Sm), pre ++ L = p ++ x :: s → P p m → Goes (P (p ++ [x])) (bodyO g (t (q x) m))) → P pre m → ∃ m', forL t g (L.map q) m = .ok .nx m' ∧ P (pre ++ L) m'
  | [], pre, m, h, p => ⟨m, rfl, by rw [List.append_nil]; exact p⟩
  | x :: L, pre, m, h, p => by
    have z := h pre x L m rfl p
    rw [List.map_cons, forL_cons]
    generalize bodyO g (t (q x) m) = r at z
    have nxt : ∀ m1, P (pre ++ [x]) m1 → ∃ m', forL t g (L.map q) m1 = .ok .nx m' ∧ P (pre ++ x :: L) m' := fun m1 p1 => by
      obtain ⟨m', e, p2⟩ := forL_rel P (L := L) (pre := pre ++ [x]) (m := m1) (fun p y s m e => h p y s m (by rw [← e, List.append_assoc]; rfl)) p1
      exact ⟨m', e, by rw [List.append_assoc] at p2; exact p2⟩
    cases z with
    | nx p1 => rw [eb_ok, ev_forT_nx]; exact nxt _ p1
    | ct p1 => rw [eb_ok, ev_forT_ct]; exact nxt _ p1
theorem forL_all (P : List γ → Sm → Prop) {L : List γ} {m : Sm} (h0 : P [] m) (h : ∀ (p : List γ) (x : γ) (s : List γ) (m : Sm), L = p ++ x :: s → P p m → Goes (P (p ++ [x])) (bodyO g (t (q x) m))) : ∃ m', forL t g (L.map q) m = .ok .nx m' ∧ P L m' := by
  obtain ⟨m', e, p⟩ := forL_rel (t := t) (g := g) (q := q) P (L := L) (pre := []) (m := m) (fun p x s m e => h p x s m (by simpa using e)) h0
  exact ⟨m', e, by simpa using p⟩
/-- a body that goes on, or returns -/
inductive GoesR (P : Sm → Prop) (Q : Mv → Sm → Prop) : Res Fo → Prop
  | nx {m : Sm} : P m → GoesR P Q (.ok .nx m)
  | ct {m : Sm} : P m → GoesR P Q (.ok .ct m)
  | rt {v : Mv} {m : Sm} : Q v m → GoesR P Q (.ok (.rt v) m)
/-- a loop that goes through, or returns on its way -/
theorem forL_srch (P : List γ → Sm → Prop) (Q : List γ → γ → Mv → Sm → Prop) : ∀ {L pre : List γ} {m : Sm}, (∀ (p : List γ) (x : γ) (s : List γ) (m : Sm), pre ++ L = p ++ x :: s → P p m → GoesR (P (p ++ [x])) (Q p x) (bodyO g (t (q x) m))) → P pre m →
    (∃ m', forL t g (L.map q) m = .ok .nx m' ∧ P (pre ++ L) m') ∨ ∃ p x s v m', pre ++ L = p ++ x :: s ∧ forL t g (L.map q) m = .ok (.rt v) m' ∧ Q p x v m'
  | [], pre, m, h, p => .inl ⟨m, rfl, by rw [List.append_nil]; exact p⟩
  | x :: L, pre, m, h, p => by
    have z := h pre x L m rfl p
    rw [List.map_cons, forL_cons]
    generalize bodyO g (t (q x) m) = r at z
    have nxt : ∀ m1, P (pre ++ [x]) m1 → (∃ m', forL t g (L.map q) m1 = .ok .nx m' ∧ P (pre ++ x :: L) m') ∨ ∃ p y s v m', pre ++ x :: L = p ++ y :: s ∧ forL t g (L.map q) m1 = .ok (.rt v) m' ∧ Q p y v m' := fun m1 p1 => by
      rcases forL_srch P Q (L := L) (pre := pre ++ [x]) (m := m1) (fun p y s m e => h p y s m (by rw [← e, List.append_assoc]; rfl)) p1 with ⟨m', e, p2⟩ | ⟨p, y, s, v, m', e1, e2, q2⟩
      · exact .inl ⟨m', e, by rw [List.append_assoc] at p2; exact p2⟩
      · exact .inr ⟨p, y, s, v, m', by rw [← e1, List.append_assoc]; rfl, e2, q2⟩
    cases z with
    | nx p1 => rw [eb_ok, ev_forT_nx]; exact nxt _ p1
    | ct p1 => rw [eb_ok, ev_forT_ct]; exact nxt _ p1
    | rt q1 => exact .inr ⟨pre, x, L, _, _, rfl, by rw [eb_ok, ev_forT_rt], q1⟩
theorem forL_find (P : List γ → Sm → Prop) (Q : List γ → γ → Mv → Sm → Prop) {L : List γ} {m : Sm} (h0 : P [] m) (h : ∀ (p : List γ) (x : γ) (s : List γ) (m : Sm), L = p ++ x :: s → P p m → GoesR (P (p ++ [x])) (Q p x) (bodyO g (t (q x) m))) :
    (∃ m', forL t g (L.map q) m = .ok .nx m' ∧ P L m') ∨ ∃ p x s v m', L = p ++ x :: s ∧ forL t g (L.map q) m = .ok (.rt v) m' ∧ Q p x v m' := by
  have := forL_srch (t := t) (g := g) (q := q) P Q (L := L) (pre := []) (m := m) (fun p x s m e => h p x s m (by simpa using e)) h0
  simpa using this
end
/-! ### things that may be compared -/
theorem shaped_of {d : PyData} {dp c : Nat} (h : Sz d dp c) (h1 : dp ≤ 60) : SeqAt.shaped d = true := by
  unfold SeqAt.shaped
  rw [Bool.and_eq_true]
  exact ⟨tame_lay h.1, decide_eq_true (Nat.le_trans h.2.1 (by omega))⟩
theorem sz_pr {p : List Int × Int} {B : Int} {n : Nat} (h1 : Bd B p.1) (h2 : -B ≤ p.2 ∧ p.2 ≤ B) (hl : p.1.length ≤ n) (hB : B ≤ 1000000000000000000000000000000) : Sz (prP p) 2 (1 + 2 * (1 + n)) := by
  have s1 : Sz (pt p.1) 1 (1 + n) := (sz_pt fun n hn => h1.at hn hB).mono (by omega) (by omega)
  have s2 : Sz (.int p.2) 1 (1 + n) := (sz_int (natAbs_ok (by omega) (by omega))).mono (by omega) (by omega)
  exact (sz_tuple (xs := [pt p.1, .int p.2]) (dp := 1) (c := 1 + n) (by simp only [List.forall_mem_cons]; exact ⟨s1, s2, by simp⟩)).mono (by omega) (by simp)
theorem ne_nil {xs : List PyData} (h : SeqAt.shaped (.list xs) = true) : neD (.list xs) (.list []) = some (.d (.bool (!xs.isEmpty))) := by
  have e : eqP (.list xs) (.list []) = some xs.isEmpty := by
    show (if (SeqAt.shaped (.list xs) && SeqAt.shaped (.list [])) = true then some (PyData.eqv (.list xs) (.list [])) else none) = _
    rw [h]
    show some _ = _
    cases xs with
    | nil => rfl
    | cons x xs => rfl
  unfold neD
  rw [e]; rfl
theorem eq_nil {xs : List PyData} (h : SeqAt.shaped (.list xs) = true) : eqD (.list xs) (.list []) = some (.d (.bool xs.isEmpty)) := by
  have e : eqP (.list xs) (.list []) = some xs.isEmpty := by
    show (if (SeqAt.shaped (.list xs) && SeqAt.shaped (.list [])) = true then some (PyData.eqv (.list xs) (.list [])) else none) = _
    rw [h]
    show some _ = _
    cases xs with
    | nil => rfl
    | cons x xs => rfl
  unfold eqD
  rw [e]; rfl
theorem eq_nilT {xs : List PyData} (h : SeqAt.shaped (.tuple xs) = true) : eqD (.tuple xs) (.tuple []) = some (.d (.bool xs.isEmpty)) := by
  have e : eqP (.tuple xs) (.tuple []) = some xs.isEmpty := by
    show (if (SeqAt.shaped (.tuple xs) && SeqAt.shaped (.tuple [])) = true then some (PyData.eqv (.tuple xs) (.tuple [])) else none) = _
    rw [h]
    show some _ = _
    cases xs with
    | nil => rfl
    | cons x xs => rfl
  unfold eqD
  rw [e]; rfl
theorem ne_nilT {xs : List PyData} (h : SeqAt.shaped (.tuple xs) = true) : neD (.tuple xs) (.tuple []) = some (.d (.bool (!xs.isEmpty))) := by
  have e : eqP (.tuple xs) (.tuple []) = some xs.isEmpty := by
    show (if (SeqAt.shaped (.tuple xs) && SeqAt.shaped (.tuple [])) = true then some (PyData.eqv (.tuple xs) (.tuple [])) else none) = _
    rw [h]
    show some _ = _
    cases xs with
    | nil => rfl
    | cons x xs => rfl
  unfold neD
  rw [e]; rfl
/-! ### items by negative places -/
theorem ix_last {xs : List PyData} {d : PyData} : ixD (.list (xs ++ [d])) (.int (-1)) = some (.d d) := by
  have e : atI (xs ++ [d]) (-1 : Int) = some d := by
    unfold atI
    have : ixN (xs ++ [d]).length (-1) = some xs.length := by
      unfold ixN
      rw [if_neg (by omega), if_pos (by rw [List.length_append]; simp only [List.length_cons, List.length_nil]; omega)]
      congr 1
      rw [List.length_append]
      simp only [List.length_cons, List.length_nil]
      omega
    rw [this]
    simp
  unfold ixD
  simp only [e, Option.map_some]
theorem ix_lastT {xs : List PyData} {d : PyData} : ixD (.tuple (xs ++ [d])) (.int (-1)) = some (.d d) := by
  have e : atI (xs ++ [d]) (-1 : Int) = some d := by
    unfold atI
    have : ixN (xs ++ [d]).length (-1) = some xs.length := by
      unfold ixN
      rw [if_neg (by omega), if_pos (by rw [List.length_append]; simp only [List.length_cons, List.length_nil]; omega)]
      congr 1
      rw [List.length_append]
      simp only [List.length_cons, List.length_nil]
      omega
    rw [this]
    simp
  unfold ixD
  simp only [e, Option.map_some]
theorem sum_map {γ : Type} (f : γ → Int) (l : List γ) : sumD [.list (l.map fun x => PyData.int (f x))] = some (.d (.int (l.map f).sum)) := by
  rw [any_map_i, sum_ints]
theorem sumT_ints {ns : List Int} : sumD [.tuple (ns.map .int)] = some (.d (.int ns.sum)) := by
  unfold sumD
  simp only [intsOf_map]
  rfl
theorem range_ab (a b : Int) : rangeD a b = (List.range (b - a).toNat).map fun (i : Nat) => PyData.int (a + (i : Int)) := rfl
theorem okRg_of {a b : Int} (h1 : -1000000 ≤ a) (h2 : a ≤ 1000000) (h3 : -1000000 ≤ b) (h4 : b ≤ 1000000) : okRg a b = true := decide_eq_true ⟨h1, h2, h3, h4⟩
theorem zip3_eq {α β γ : Type} (q : α → PyData) (q2 : β → PyData) (q3 : γ → PyData) (a : List α) (b : List β) (c : List γ) : zip3D (a.map q) (b.map q2) (c.map q3) = (a.zip (b.zip c)).map fun p => .tuple [q p.1, q2 p.2.1, q3 p.2.2] := by
  unfold zip3D
  simp only [List.length_map]
  apply List.ext_getElem?
  intro i
  rw [List.getElem?_map, List.getElem?_map]
  by_cases h : i < min (min a.length b.length) c.length
  · have h1 : i < a.length := by omega
    have h2 : i < b.length := by omega
    have h3 : i < c.length := by omega
    rw [List.getElem?_range h, List.getElem?_eq_getElem (by simp only [List.length_zip]; omega), List.getElem_zip, List.getElem_zip]
    simp [List.getD_eq_getElem?_getD, h1, h2, h3]
  · rw [List.getElem?_eq_none (by simpa using by omega), List.getElem?_eq_none (by simp only [List.length_zip]; omega)]
    rfl
theorem ne_nil0 : neD (.list []) (.list []) = some (.d (.bool false)) := rfl
theorem ne_nil0T : neD (.tuple []) (.tuple []) = some (.d (.bool false)) := rfl
theorem eq_nil0 : eqD (.list []) (.list []) = some (.d (.bool true)) := rfl
theorem eq_nil0T : eqD (.tuple []) (.tuple []) = some (.d (.bool true)) := rfl
theorem erase_map {α β : Type} (q : α → β) : ∀ (l : List α) (i : Nat), (l.map q).eraseIdx i = (l.eraseIdx i).map q
  | [], _ => rfl
  | _ :: _, 0 => rfl
  | x :: l, i + 1 => by simp only [List.map_cons, List.eraseIdx_cons_succ, erase_map q l i]
theorem erase_perm {α : Type} : ∀ {l : List α} {i : Nat} (h : i < l.length), (l[i] :: l.eraseIdx i).Perm l
  | x :: l, 0, _ => .refl _
  | x :: l, i + 1, h => by
    simp only [List.getElem_cons_succ, List.eraseIdx_cons_succ]
    exact (List.Perm.swap _ _ _).trans ((erase_perm (l := l) (i := i) (by simpa using h)).cons x)
end PyE

/-! PyP: results met; boxes, bent rows, forms of hills -/
namespace PyE
open PySem PySem.Spec PyProof.Rows
open L2
/-- a result that is there, and what holds of it -/
inductive Meets (Q : Mv → Sm → Prop) : Res Mv → Prop
  | mk {v : Mv} {m : Sm} : Q v m → Meets Q (.ok v m)
theorem Meets.out {Q : Mv → Sm → Prop} {r : Res Mv} (h : Meets Q r) : ∃ v m, r = .ok v m ∧ Q v m := by
  cases h with
  | mk h => exact ⟨_, _, rfl, h⟩
theorem Meets.ret {Q : Mv → Sm → Prop} {v : Mv} {m : Sm} (h : Q v m) : Meets Q (.ok v m) := .mk h
theorem Meets.of {Q : Mv → Sm → Prop} {r r' : Res Mv} (e : r = r') (h : Meets Q r') : Meets Q r := e ▸ h
/-! ### boxes -/
def rng (a b : Int) : List Int := (List.range (b + 1 - a).toNat).map fun (i : Nat) => a + (i : Int)
theorem mem_rng {a b x : Int} : x ∈ rng a b ↔ a ≤ x ∧ x ≤ b := by
  unfold rng
  rw [List.mem_map]
  constructor
  · rintro ⟨i, hi, rfl⟩
    have := List.mem_range.mp hi
    omega
  · rintro ⟨h1, h2⟩
    exact ⟨(x - a).toNat, List.mem_range.mpr (by omega), by omega⟩
theorem rng_length (a b : Int) : (rng a b).length = (b + 1 - a).toNat := by simp [rng]
theorem rng_asc (a b : Int) : (rng a b).Pairwise (· < ·) := by
  unfold rng
  rw [List.pairwise_map]
  exact List.pairwise_lt_range.imp fun h => by omega
theorem rangeD_rng (a b : Int) : rangeD a (b + 1) = (rng a b).map .int := by
  rw [range_ab, rng, List.map_map]; rfl
def boxL : List (Int × Int) → List (List Int)
  | [] => [[]]
  | p :: r => (rng p.1 p.2).flatMap fun z => (boxL r).map (z :: ·)
def boxS (acc : List (List Int)) (p : Int × Int) : List (List Int) := acc.flatMap fun x => (rng p.1 p.2).map fun z => x ++ [z]
theorem boxS_foldl : ∀ (prs : List (Int × Int)) (acc : List (List Int)), prs.foldl boxS acc = acc.flatMap fun x => (boxL prs).map (x ++ ·)
  | [], acc => by simp [boxL]
  | p :: r, acc => by
    rw [List.foldl_cons, boxS_foldl r]
    unfold boxS
    rw [List.flatMap_assoc]
    congr 1
    funext x
    rw [boxL, List.map_flatMap, List.flatMap_map]
    congr 1
    funext z
    rw [List.map_map]
    congr 1
    funext y
    simp
theorem boxL_foldl (prs : List (Int × Int)) : prs.foldl boxS [[]] = boxL prs := by
  rw [boxS_foldl]; simp
theorem mem_boxL : ∀ {prs : List (Int × Int)} {x : List Int}, x ∈ boxL prs ↔ x.length = prs.length ∧ ∀ q ∈ x.zip prs, q.2.1 ≤ q.1 ∧ q.1 ≤ q.2.2
  | [], x => by
    rw [boxL, List.mem_singleton]
    constructor
    · rintro rfl; simp
    · rintro ⟨h, _⟩; exact List.eq_nil_of_length_eq_zero h
  | p :: r, x => by
    rw [boxL, List.mem_flatMap]
    constructor
    · rintro ⟨z, hz, hx⟩
      obtain ⟨y, hy, rfl⟩ := List.mem_map.mp hx
      have ⟨h1, h2⟩ := mem_boxL.mp hy
      refine ⟨by simp [h1], fun q hq => ?_⟩
      rw [List.zip_cons_cons, List.mem_cons] at hq
      rcases hq with rfl | hq
      · exact mem_rng.mp hz
      · exact h2 q hq
    · rintro ⟨h1, h2⟩
      cases x with
      | nil => cases h1
      | cons z y =>
        rw [List.zip_cons_cons] at h2
        refine ⟨z, mem_rng.mpr (h2 _ (List.mem_cons_self ..)), List.mem_map_of_mem (mem_boxL.mpr ⟨by simpa using h1, fun q hq => h2 q (List.mem_cons_of_mem _ hq)⟩)⟩
theorem boxL_asc : ∀ (prs : List (Int × Int)), Asc (boxL prs)
  | [] => List.pairwise_singleton ..
  | p :: r => by
    show List.Pairwise _ (List.flatMap _ _)
    rw [List.pairwise_flatMap]
    refine ⟨fun z _ => ?_, ?_⟩
    · rw [List.pairwise_map]
      refine (boxL_asc r).imp fun h => ?_
      simp [ltL, h]
    · refine (rng_asc _ _).imp fun {a b} hab x hx y hy => ?_
      obtain ⟨x', _, rfl⟩ := List.mem_map.mp hx
      obtain ⟨y', _, rfl⟩ := List.mem_map.mp hy
      simp [ltL, hab, show a ≠ b by omega]
def boxN : List (Int × Int) → Nat
  | [] => 1
  | p :: r => (p.2 + 1 - p.1).toNat * boxN r
theorem boxL_length : ∀ (prs : List (Int × Int)), (boxL prs).length = boxN prs
  | [] => rfl
  | p :: r => by
    rw [boxL, List.length_flatMap, boxN]
    simp only [List.length_map, boxL_length r]
    rw [List.map_const', List.sum_replicate_nat, rng_length]
theorem boxN_snoc : ∀ (r : List (Int × Int)) (p : Int × Int), boxN (r ++ [p]) = boxN r * (p.2 + 1 - p.1).toNat
  | [], p => by simp [boxN]
  | q :: r, p => by rw [List.cons_append, boxN, boxN, boxN_snoc r, Nat.mul_assoc]
/-! ### bent rows -/
def Bent (w : List Int) : Prop := ∀ i, i + 2 < w.length → 2 * w.getD (i + 1) 0 ≤ w.getD i 0 + w.getD (i + 2) 0
theorem getD_snoc {w : List Int} {x : Int} {i : Nat} : (w ++ [x]).getD i 0 = if i < w.length then w.getD i 0 else if i = w.length then x else 0 := by
  rw [List.getD_eq_getElem?_getD, List.getElem?_append]
  by_cases h : i < w.length
  · rw [if_pos h, if_pos h, ← List.getD_eq_getElem?_getD]
  · rw [if_neg h, if_neg h]
    by_cases h2 : i = w.length
    · subst h2; simp
    · rw [if_neg h2, List.getElem?_eq_none (by simp; omega)]; rfl
theorem getD_lt {w : List Int} {x : Int} {i : Nat} (h : i < w.length) : (w ++ [x]).getD i 0 = w.getD i 0 := by rw [getD_snoc, if_pos h]
theorem getD_eq {w : List Int} {x : Int} {i : Nat} (h : i = w.length) : (w ++ [x]).getD i 0 = x := by rw [getD_snoc, if_neg (by omega), if_pos h]
theorem bent_snoc {u : List Int} {z : Int} (h : Bent u) (hz : ∀ k, u.length = k + 2 → 2 * u.getD (k + 1) 0 ≤ u.getD k 0 + z) : Bent (u ++ [z]) := by
  intro i hi
  rw [List.length_append, List.length_singleton] at hi
  by_cases h2 : i + 2 < u.length
  · rw [getD_lt h2, getD_lt (by omega), getD_lt (by omega)]; exact h i h2
  · rw [getD_eq (show i + 2 = u.length by omega), getD_lt (by omega), getD_lt (by omega)]; exact hz i (by omega)
theorem bent_more {w : List Int} {a s v : Int} (h : Bent (w ++ [a] ++ [a + s])) (hv : 0 ≤ v) : Bent (w ++ [a] ++ [a + s] ++ [a + s + (s + v)]) := by
  refine bent_snoc h fun k hk => ?_
  have hk : k = w.length := by simp at hk; omega
  subst hk
  rw [getD_eq (by simp), getD_lt (by simp), getD_eq rfl]
  omega
theorem bent_init {w : List Int} {a : Int} (h : Bent (w ++ [a])) : Bent w := by
  intro i hi
  have h := h i (by simp; omega)
  rw [getD_lt hi, getD_lt (by omega), getD_lt (by omega)] at h
  exact h
theorem bent_two (a b : Int) : Bent ([] ++ [a] ++ [b]) := by
  intro i hi
  simp at hi
  exact absurd hi (by omega)
/-! ### hills -/
structure HillOk (n : Nat) (d : Int) (h : Hl) : Prop where
  ne : h ≠ []
  len : (h.length : Int) ≤ 998 + d
  dim : ∀ p ∈ h, p.1.length = n
  asc : AscH h
  bd : ∀ p ∈ h, Bd (28 + d) p.1
  wd : ∀ p ∈ h, -(999990 + d) ≤ p.2 ∧ p.2 ≤ 999990 + d
theorem HillOk.up {n : Nat} {h : Hl} (o : HillOk n 0 h) : HillOk n 2 h where
  ne := o.ne
  len := by have := o.len; omega
  dim := o.dim
  asc := o.asc
  bd := fun p hp => (o.bd p hp).mono (by omega)
  wd := fun p hp => by have := o.wd p hp; omega
/-- what is near to a hill -/
def Nr (h h' : Hl) : Prop := h'.length ≤ h.length + 1 ∧ ∀ q' ∈ h', ∃ q ∈ h, (∀ B : Int, 0 ≤ B → Bd B q.1 → Bd (B + 1) q'.1) ∧ q.2 - 2 ≤ q'.2 ∧ q'.2 ≤ q.2 + 2
structure HillIn (B W : Int) (N : Nat) (h : Hl) : Prop where
  len : h.length ≤ N
  bd : ∀ p ∈ h, Bd B p.1
  wd : ∀ p ∈ h, -W ≤ p.2 ∧ p.2 ≤ W
theorem HillIn.mono {B W B' W' : Int} {N N' : Nat} {h : Hl} (i : HillIn B W N h) (h1 : B ≤ B') (h2 : W ≤ W') (h3 : N ≤ N') : HillIn B' W' N' h :=
  ⟨Nat.le_trans i.len h3, fun p hp => (i.bd p hp).mono h1, fun p hp => by have := i.wd p hp; omega⟩
theorem HillIn.near {B W : Int} {N : Nat} {h h' : Hl} (i : HillIn B W N h) (hB : 0 ≤ B) (r : Nr h h') : HillIn (B + 1) (W + 2) (N + 1) h' :=
  ⟨by have := i.len; have := r.1; omega, fun p hp => by obtain ⟨q, hq, h1, _⟩ := r.2 p hp; exact h1 B hB (i.bd q hq), fun p hp => by obtain ⟨q, hq, _, h1, h2⟩ := r.2 p hp; have := i.wd q hq; omega⟩
abbrev Tab := List Nat × Int × List Int
abbrev lotP (l : List Nat) : PyData := .tuple (l.map fun (i : Nat) => .int (i : Int))
def sumAt (x : List Int) (l : List Nat) : Int := (l.map fun i => x.getD i 0).sum
abbrev tabP (t : Tab) : PyData := .tuple [lotP t.1, .int t.2.1, .list (t.2.2.map .int)]
def mval (T : List Tab) (x : List Int) : Int := (T.map fun t => t.2.2.getD (sumAt x t.1 - t.2.1).toNat 0).sum
structure Lots (n : Nat) (L : List (List Nat)) : Prop where
  few : L.length ≤ n + 3
  nod : ∀ l ∈ L, l.Nodup ∧ ∀ i ∈ l, i < n
  one : ∀ i, i < n → [i] ∈ L
  lam : ∀ a ∈ L, ∀ b ∈ L, (∀ i ∈ a, i ∈ b) ∨ (∀ i ∈ b, i ∈ a) ∨ (∀ i ∈ a, i ∉ b)
def capN : Nat → Int
  | 1 => 9
  | 2 => 5
  | 3 => 4
  | _ => 3
def tri : Nat → Nat
  | 0 => 0
  | k + 1 => tri k + k
def Qb (w : List Int) : Prop := ∀ i : Nat, -4 - 4 * (i : Int) ≤ w.getD i 0 ∧ w.getD i 0 ≤ 6 + (i : Int) * (i : Int)
def Bq (w : List Int) : Prop := Bd 20000 w ∧ Qb w
theorem qb_snoc {w : List Int} {z : Int} (h : Qb w) (h1 : -4 - 4 * (w.length : Int) ≤ z) (h2 : z ≤ 6 + (w.length : Int) * (w.length : Int)) : Qb (w ++ [z]) := fun i => by
  rw [getD_snoc]
  split
  · exact h i
  · split
    · rename_i e; subst e; exact ⟨h1, h2⟩
    · have : 0 ≤ (i : Int) * (i : Int) := Int.mul_nonneg (by omega) (by omega)
      omega
theorem qb_more {w : List Int} {a s : Int} (h : Qb (w ++ [a])) (h1 : -4 ≤ s) (h2 : s ≤ 1 + 2 * (w.length : Int)) : Qb (w ++ [a] ++ [a + s]) := by
  have h3 := h w.length
  rw [getD_eq rfl] at h3
  refine qb_snoc h ?_ ?_
  all_goals rw [List.length_append, List.length_singleton]
  · omega
  · have e : ((w.length + 1 : Nat) : Int) * ((w.length + 1 : Nat) : Int) = (w.length : Int) * (w.length : Int) + 2 * (w.length : Int) + 1 := by
      rw [Int.natCast_add, Int.add_mul, Int.mul_add]
      simp
      omega
    rw [e]
    omega
structure BoxOk (n most : Nat) (prs : List (Int × Int)) : Prop where
  len : prs.length = n
  bd : ∀ p ∈ prs, -3 ≤ p.1 ∧ p.1 ≤ 3 ∧ p.1 ≤ p.2 ∧ p.2 ≤ p.1 + 8
  few : boxN prs ≤ most
  cap : ∀ p ∈ prs, p.2 - p.1 < capN n
def keepM : Int → Int → List Int → Bool
  | 0, b, x => x.sum == b
  | 1, b, x => decide (x.sum ≤ b)
  | _, _, _ => true
def TabOk (prs : List (Int × Int)) (t : Tab) : Prop :=
  t.2.1 = sumAt (prs.map (·.1)) t.1 ∧ (t.2.2.length : Int) = sumAt (prs.map (·.2)) t.1 - t.2.1 + 1 ∧ Bent t.2.2 ∧ Bq t.2.2
def MHill (n most : Nat) (h : Hl) : Prop := ∃ (prs : List (Int × Int)) (T : List Tab) (k b : Int), BoxOk n most prs ∧ Lots n (T.map (·.1)) ∧ (∀ t ∈ T, TabOk prs t) ∧
  h = ((boxL prs).map fun x => (x, mval T x)).filter (fun p => keepM k b p.1) ∧ h ≠ []
abbrev Duo := Nat × Nat × Int × List Int
def uval (prs : List (Int × Int)) (rows : List (List Int)) (x : List Int) : Int := ((x.zip ((prs.map (·.1)).zip rows)).map fun q => q.2.2.getD (q.1 - q.2.1).toNat 0).sum
def dAt (t : Duo) (x : List Int) : Int := x.getD t.1 0 - x.getD t.2.1 0 - t.2.2.1
def dIn (t : Duo) (x : List Int) : Bool := decide (0 ≤ dAt t x ∧ dAt t x < t.2.2.2.length)
def lval (prs : List (Int × Int)) (rows : List (List Int)) (D : List Duo) (x : List Int) : Int := uval prs rows x + (D.map fun t => t.2.2.2.getD (dAt t x).toNat 0).sum
def LForm (n most : Nat) (prs : List (Int × Int)) (rows : List (List Int)) (D : List Duo) (h : Hl) : Prop :=
  BoxOk n most prs ∧ rows.length = n ∧ (∀ q ∈ prs.zip rows, (q.2.length : Int) = q.1.2 - q.1.1 + 1 ∧ Bent q.2 ∧ Bq q.2) ∧
  (∀ t ∈ D, t.1 < n ∧ t.2.1 < t.1 ∧ Bent t.2.2.2 ∧ Bq t.2.2.2 ∧ (prs.map (·.1)).getD t.1 0 - (prs.map (·.2)).getD t.2.1 0 - 3 ≤ t.2.2.1) ∧
  h = ((boxL prs).filter fun x => D.all fun t => dIn t x).map (fun x => (x, lval prs rows D x)) ∧ h ≠ []
def LHill (n most : Nat) (h : Hl) : Prop := ∃ prs rows D, D.length ≤ tri n ∧ LForm n most prs rows D h
end PyE

/-! PyP: facts of boxes, lots, forms -/
namespace PyE
open PySem PySem.Spec PyProof.Rows
open L2
open PySem.W (keyToksAll alike alikeAll AllAlike Sortable dataLe dataLt dataLt_cons dataLt_pair)
theorem zip_fs : ∀ (prs : List (Int × Int)), (prs.map (·.1)).zip (prs.map (·.2)) = prs
  | [] => rfl
  | p :: r => by rw [List.map_cons, List.map_cons, List.zip_cons_cons, zip_fs r]
theorem boxS_length (acc : List (List Int)) (p : Int × Int) : (boxS acc p).length = acc.length * (p.2 + 1 - p.1).toNat := by
  unfold boxS
  rw [List.length_flatMap]
  simp only [List.length_map, rng_length]
  rw [List.map_const', List.sum_replicate_nat]
theorem boxN_le : ∀ {prs : List (Int × Int)}, (∀ p ∈ prs, p.2 ≤ p.1 + 19) → boxN prs ≤ 20 ^ prs.length
  | [], _ => Nat.le_refl _
  | p :: r, h => by
    rw [boxN, List.length_cons, Nat.pow_succ, Nat.mul_comm]
    have := h p (List.mem_cons_self ..)
    exact Nat.mul_le_mul (boxN_le fun q hq => h q (List.mem_cons_of_mem _ hq)) (by omega)
theorem boxN_pos : ∀ {prs : List (Int × Int)}, (∀ p ∈ prs, p.1 ≤ p.2) → 1 ≤ boxN prs
  | [], _ => Nat.le_refl _
  | p :: r, h => by
    rw [boxN]
    have := h p (List.mem_cons_self ..)
    exact Nat.mul_pos (by omega) (boxN_pos fun q hq => h q (List.mem_cons_of_mem _ hq))
theorem box_at {prs : List (Int × Int)} {x : List Int} (hx : x ∈ boxL prs) {i : Nat} (hi : i < prs.length) : (prs.map (·.1)).getD i 0 ≤ x.getD i 0 ∧ x.getD i 0 ≤ (prs.map (·.2)).getD i 0 := by
  have ⟨h1, h2⟩ := mem_boxL.mp hx
  have hix : i < x.length := by omega
  have h := h2 (x[i], prs[i]) (by
    have : (x.zip prs)[i]'(by rw [List.length_zip]; omega) = (x[i], prs[i]) := List.getElem_zip ..
    rw [← this]; exact List.getElem_mem _)
  rw [List.getD_eq_getElem?_getD, List.getD_eq_getElem?_getD, List.getD_eq_getElem?_getD, List.getElem?_map, List.getElem?_map, List.getElem?_eq_getElem hix, List.getElem?_eq_getElem hi]
  exact h
theorem box_dim {n most : Nat} {prs : List (Int × Int)} (hb : BoxOk n most prs) {x : List Int} (hx : x ∈ boxL prs) : x.length = n := by
  rw [(mem_boxL.mp hx).1, hb.len]
theorem box_bd {n most : Nat} {prs : List (Int × Int)} (hb : BoxOk n most prs) {x : List Int} (hx : x ∈ boxL prs) : Bd 28 x := fun z hz => by
  obtain ⟨i, hi, rfl⟩ := List.getElem_of_mem hz
  have hi' : i < prs.length := by rw [← (mem_boxL.mp hx).1]; exact hi
  have := box_at hx hi'
  rw [List.getD_eq_getElem?_getD, List.getD_eq_getElem?_getD, List.getD_eq_getElem?_getD, List.getElem?_map, List.getElem?_map, List.getElem?_eq_getElem hi, List.getElem?_eq_getElem hi'] at this
  have h2 := hb.bd prs[i] (List.getElem_mem _)
  simp only [Option.map_some, Option.getD_some] at this
  omega
theorem box_ne {n most : Nat} {prs : List (Int × Int)} (hb : BoxOk n most prs) : boxL prs ≠ [] := fun h => by
  have := boxN_pos fun p hp => (hb.bd p hp).2.2.1
  rw [← boxL_length, h] at this
  cases this
theorem sumAt_cons (x : List Int) (i : Nat) (l : List Nat) : sumAt x (i :: l) = x.getD i 0 + sumAt x l := by simp [sumAt]
theorem sumAt_le {x y : List Int} : ∀ {l : List Nat}, (∀ i ∈ l, x.getD i 0 ≤ y.getD i 0) → sumAt x l ≤ sumAt y l
  | [], _ => Int.le_refl _
  | i :: l, h => by
    rw [sumAt_cons, sumAt_cons]
    have := h i (List.mem_cons_self ..)
    have := sumAt_le fun j hj => h j (List.mem_cons_of_mem _ hj)
    omega
theorem sumAt_wide {x y : List Int} {c : Int} : ∀ {l : List Nat}, (∀ i ∈ l, y.getD i 0 ≤ x.getD i 0 + c) → sumAt y l ≤ sumAt x l + c * l.length
  | [], _ => by simp [sumAt]
  | i :: l, h => by
    rw [sumAt_cons, sumAt_cons, List.length_cons]
    have := h i (List.mem_cons_self ..)
    have := sumAt_wide fun j hj => h j (List.mem_cons_of_mem _ hj)
    rw [show (c * ((l.length + 1 : Nat) : Int)) = c * l.length + c by rw [Int.natCast_add, Int.mul_add]; simp]
    omega
theorem box_lohi {n most : Nat} {prs : List (Int × Int)} (hb : BoxOk n most prs) {i : Nat} (hi : i < n) : (prs.map (·.1)).getD i 0 ≤ (prs.map (·.2)).getD i 0 ∧ (prs.map (·.2)).getD i 0 ≤ (prs.map (·.1)).getD i 0 + 8 := by
  have hi' : i < prs.length := by rw [hb.len]; exact hi
  have h2 := hb.bd prs[i] (List.getElem_mem _)
  rw [List.getD_eq_getElem?_getD, List.getD_eq_getElem?_getD, List.getElem?_map, List.getElem?_map, List.getElem?_eq_getElem hi']
  exact h2.2.2
theorem nodup_len {n : Nat} {l : List Nat} (h : l.Nodup) (h2 : ∀ i ∈ l, i < n) : l.length ≤ n := by
  have := h.length_le_of_subset (l₂ := List.range n) (fun i hi => List.mem_range.mpr (h2 i hi))
  rwa [List.length_range] at this
theorem lots_one (n : Nat) : Lots n ((List.range n).map fun i => [i]) where
  few := by simp
  nod := fun l hl => by
    obtain ⟨i, hi, rfl⟩ := List.mem_map.mp hl
    exact ⟨by simp, fun j hj => by rw [List.mem_singleton] at hj; subst hj; exact List.mem_range.mp hi⟩
  one := fun i hi => List.mem_map_of_mem (f := fun i => [i]) (List.mem_range.mpr hi)
  lam := fun a ha b hb => by
    obtain ⟨i, hi, rfl⟩ := List.mem_map.mp ha
    obtain ⟨j, hj, rfl⟩ := List.mem_map.mp hb
    by_cases h : i = j
    · subst h; exact .inl fun _ h => h
    · exact .inr (.inr fun k hk hk2 => h (by rw [List.mem_singleton] at hk hk2; rw [← hk, ← hk2]))
theorem Lots.add {n : Nat} {L : List (List Nat)} (h : Lots n L) {l : List Nat} (hd : l.Nodup) (hl : ∀ i ∈ l, i < n) (hm : ∀ a ∈ L, (∀ i ∈ a, i ∈ l) ∨ (∀ i ∈ l, i ∈ a) ∨ (∀ i ∈ a, i ∉ l)) (hf : L.length + 1 ≤ n + 3) : Lots n (L ++ [l]) where
  few := by rw [List.length_append]; exact hf
  nod := fun a ha => by
    rcases List.mem_append.mp ha with h1 | h1
    · exact h.nod a h1
    · rw [List.mem_singleton] at h1; subst h1; exact ⟨hd, hl⟩
  one := fun i hi => List.mem_append_left _ (h.one i hi)
  lam := fun a ha b hb => by
    rcases List.mem_append.mp ha with h1 | h1 <;> rcases List.mem_append.mp hb with h2 | h2
    · exact h.lam a h1 b h2
    · rw [List.mem_singleton] at h2; subst h2; exact hm a h1
    · rw [List.mem_singleton] at h1; subst h1
      rcases hm b h2 with h | h | h
      · exact .inr (.inl h)
      · exact .inl h
      · exact .inr (.inr fun i hi hi2 => h i hi2 hi)
    · rw [List.mem_singleton] at h1 h2; subst h1; subst h2; exact .inl fun _ h => h
theorem bd_getD {B : Int} {w : List Int} (h : Bd B w) (hB : 0 ≤ B) (i : Nat) : -B ≤ w.getD i 0 ∧ w.getD i 0 ≤ B := by
  rw [List.getD_eq_getElem?_getD]
  cases q : w[i]? with
  | none => simp only [Option.getD_none]; omega
  | some z => exact h z (List.mem_of_getElem? q)
theorem sum_bd {γ : Type} {B : Int} (hB : 0 ≤ B) (f : γ → Int) : ∀ {l : List γ}, (∀ x ∈ l, -B ≤ f x ∧ f x ≤ B) → -(B * l.length) ≤ (l.map f).sum ∧ (l.map f).sum ≤ B * l.length := fun {l} h => by
  have := bd_sum hB (ns := l.map f) fun n hn => by
    obtain ⟨x, hx, rfl⟩ := List.mem_map.mp hn
    exact h x hx
  rwa [List.length_map] at this
theorem asc_map {l : List (List Int)} (h : Asc l) (f : List Int → Int) : AscH (l.map fun x => (x, f x)) := by
  unfold AscH
  rw [List.map_map]
  exact (List.map_id l).symm ▸ h
theorem AscH.filter {h : Hl} (a : AscH h) (p : List Int × Int → Bool) : AscH (h.filter p) := by
  unfold AscH Asc at *
  rw [List.pairwise_map] at *
  exact a.sublist List.filter_sublist
theorem pts_sum (x : List Int) : sumD [pt x] = some (.d (.int x.sum)) := sumT_ints
/-! ### ints sorted -/
def sortI (l : List Int) : List Int := l.mergeSort fun a b => !decide (b < a)
theorem sortL_i (l : List Int) : sortL (l.map .int) = (sortI l).map .int := by
  unfold sortL sortI
  rw [List.map_mergeSort (r := fun a b => !decide (b < a)) (s := dataLe false id)]
  intro a _ b _
  show (!decide (b < a)) = (!dataLt (.int b) (.int a))
  rw [dataLt_i]
theorem sorted_i {l : List Int} : sortedD [.list (l.map .int)] = some (.nl ((sortI l).map .int)) := by
  have hB : sortB (l.map .int) = true := by
    unfold sortB
    simp only [Bool.and_eq_true, Bool.or_eq_true, List.all_eq_true, decide_eq_true_eq]
    refine ⟨⟨fun x hx y hy => ?_, .inr fun x hx => ?_⟩, ?_⟩
    · obtain ⟨p, _, rfl⟩ := List.mem_map.mp hx
      obtain ⟨q, _, rfl⟩ := List.mem_map.mp hy
      rfl
    · obtain ⟨p, _, rfl⟩ := List.mem_map.mp hx
      rfl
    · have hi : ∀ l : List Int, PyData.depthAll (l.map .int) = 0 := fun l => by
        induction l with
        | nil => rfl
        | cons x l ih => simp only [List.map_cons, PyData.depthAll, PyData.depth, ih]; rfl
      rw [hi]; omega
  show (if sortB (l.map .int) = true then some (Rv.nl (sortL (l.map .int))) else none) = _
  rw [if_pos hB, sortL_i]
theorem sortI_perm (l : List Int) : (sortI l).Perm l := List.mergeSort_perm _ _
theorem cut_to (ds : List PyData) (k : Nat) : cutP ds none (some (k : Int)) = ds.take k := by
  unfold cutP
  rw [HT.sIx_none, HT.sIx_nat, List.drop_zero, Nat.sub_zero]
  by_cases h : k ≤ ds.length
  · rw [Nat.min_eq_left h]
  · rw [Nat.min_eq_right (by omega), List.take_of_length_le (Nat.le_refl _), List.take_of_length_le (by omega)]
theorem cut_from (ds : List PyData) (k : Nat) : cutP ds (some (k : Int)) none = ds.drop k := by
  unfold cutP
  rw [HT.sIx_none, HT.sIx_nat]
  by_cases h : k ≤ ds.length
  · rw [Nat.min_eq_left h, List.take_of_length_le (by rw [List.length_drop]; omega)]
  · rw [Nat.min_eq_right (by omega), List.drop_eq_nil_of_le (by omega), List.drop_eq_nil_of_le (by omega), List.take_nil]
theorem slice_toT {ds : List PyData} (k : Nat) : sliceD (.tuple ds) none (some (k : Int)) = some (.d (.tuple (ds.take k))) := by rw [← cut_to]; rfl
theorem slice_fromT {ds : List PyData} (k : Nat) : sliceD (.tuple ds) (some (k : Int)) none = some (.d (.tuple (ds.drop k))) := by rw [← cut_from]; rfl
theorem slice_toL {ds : List PyData} (k : Nat) : sliceD (.list ds) none (some (k : Int)) = some (.nl (ds.take k)) := by rw [← cut_to]; rfl
theorem slice_fromL {ds : List PyData} (k : Nat) : sliceD (.list ds) (some (k : Int)) none = some (.nl (ds.drop k)) := by rw [← cut_from]; rfl
theorem slice_toLi {ds : List PyData} {k : Int} (h : 0 ≤ k) : sliceD (.list ds) none (some k) = some (.nl (ds.take k.toNat)) := by
  obtain ⟨j, rfl⟩ := Int.eq_ofNat_of_zero_le h
  exact slice_toL j
theorem slice_toTi {ds : List PyData} {k : Int} (h : 0 ≤ k) : sliceD (.tuple ds) none (some k) = some (.d (.tuple (ds.take k.toNat))) := by
  obtain ⟨j, rfl⟩ := Int.eq_ofNat_of_zero_le h
  exact slice_toT j
theorem slice_fromTi {ds : List PyData} {k : Int} (h : 0 ≤ k) : sliceD (.tuple ds) (some k) none = some (.d (.tuple (ds.drop k.toNat))) := by
  obtain ⟨j, rfl⟩ := Int.eq_ofNat_of_zero_le h
  exact slice_fromT j
theorem in_ptN {ns : List Int} {i : Int} : inD true (.int i) (pt ns) = some (.d (.bool (!ns.any fun z => z == i))) := by
  unfold inD
  rw [shaped_int, shaped_pt]
  show bD _ = _
  unfold bD
  simp only [List.any_map, Bool.true_bne]
  congr 4
theorem inDD_pt {neg : Bool} {a : PyData} {ns : List Int} : inDD neg a (pt ns) = inD neg a (pt ns) := rfl
theorem any_nat {q : List Nat} {i : Nat} : ((q.map fun (j : Nat) => (j : Int)).any fun z => z == (i : Int)) = q.contains i := by
  rw [List.any_map, Bool.eq_iff_iff, List.any_eq_true, List.contains_iff_mem]
  constructor
  · rintro ⟨j, hj, h⟩
    have : (j : Int) = i := by simpa using h
    have : j = i := by omega
    exact this ▸ hj
  · intro h
    exact ⟨i, h, by simp⟩
theorem in_ptG {neg : Bool} {ns : List Int} {i : Int} : inD neg (.int i) (pt ns) = some (.d (.bool (neg != ns.any fun z => z == i))) := by
  cases neg
  · rw [in_pt, Bool.false_bne]
  · rw [in_ptN, Bool.true_bne]
theorem in_lot {neg : Bool} {q : List Nat} {i : Nat} : inD neg (.int (i : Int)) (.tuple (q.map fun (j : Nat) => .int (j : Int))) = some (.d (.bool (neg != q.contains i))) := by
  have h := in_ptG (neg := neg) (ns := q.map fun (j : Nat) => (j : Int)) (i := (i : Int))
  rw [any_nat, pt, List.map_map] at h
  exact h
/-- a comprehension of draws, each over its own item -/
theorem pots_map {α γ : Type} (S : Mv → Sm) (qa : α → PyData) (q : γ → PyData) (R : α → γ → Prop) {own : List Nat} {bt : Tg} {tst : Ev Bool} {e : Ev PyData} (I : Pot → Prop) : ∀ {L : List α} {acc : List PyData} {p : Pot}, I p →
    (∀ x ∈ L, ∀ p : Pot, I p → ∃ k, ∃ p' : Pot, I p' ∧ compStep own bt tst e (qa x) (S p.mv) = .ok (some (q k)) (S p'.mv) ∧ R x k) →
    ∃ (ks : List γ) (p' : Pot), I p' ∧ compL own bt tst e (L.map qa) acc (S p.mv) = .ok (acc ++ ks.map q) (S p'.mv) ∧ ks.length = L.length ∧ ∀ z ∈ L.zip ks, R z.1 z.2
  | [], acc, p, hp, _ => ⟨[], p, hp, by rw [List.map_nil, List.map_nil, List.append_nil]; rfl, rfl, by simp⟩
  | x :: L, acc, p, hp, h => by
    obtain ⟨k, p1, hp1, e1, r1⟩ := h x (List.mem_cons_self ..) p hp
    obtain ⟨ks, p2, hp2, e2, l2, r2⟩ := pots_map S qa q R I (L := L) (acc := acc ++ [q k]) hp1 fun y hy => h y (List.mem_cons_of_mem _ hy)
    refine ⟨k :: ks, p2, hp2, ?_, by simp [l2], fun z hz => ?_⟩
    · rw [List.map_cons, compL_step e1]
      show compL own bt tst e (L.map qa) (acc ++ [q k]) (S p1.mv) = _
      rw [e2, List.map_cons, List.append_assoc]
      rfl
    · rw [List.zip_cons_cons, List.mem_cons] at hz
      rcases hz with rfl | hz
      · exact r1
      · exact r2 z hz
theorem shaped_H (h : Hl) : SeqAt.shaped (.list (h.map prP)) = true ∧ SeqAt.shaped (.tuple (h.map prP)) = true := by
  have hi : ∀ ns : List Int, PyData.canLayAll0 (ns.map PyData.int) = true ∧ PyData.depthAll (ns.map PyData.int) = 0 := by
    intro ns
    induction ns with
    | nil => exact ⟨rfl, rfl⟩
    | cons n r ih => exact ⟨by simp only [List.map_cons, PyData.canLayAll0, PyData.canLay0, ih.1, Bool.and_self], by simp only [List.map_cons, PyData.depthAll, PyData.depth, ih.2]; rfl⟩
  have hp : ∀ h : Hl, PyData.canLayAll0 (h.map prP) = true ∧ PyData.depthAll (h.map prP) ≤ 2 := by
    intro h
    induction h with
    | nil => exact ⟨rfl, Nat.zero_le _⟩
    | cons p r ih =>
      refine ⟨?_, ?_⟩
      · simp only [List.map_cons, PyData.canLayAll0, PyData.canLay0, ih.1, (hi p.1).1, Bool.and_self]
      · have := ih.2
        simp only [List.map_cons, PyData.depthAll, PyData.depth, (hi p.1).2]
        omega
  have := hp h
  unfold SeqAt.shaped
  simp only [PyData.canLay0, PyData.depth, this.1, Bool.true_and, decide_eq_true_eq]
  have h2 := this.2
  exact ⟨decide_eq_true (by omega), decide_eq_true (by omega)⟩
theorem ne_nil_H {h : Hl} : neD (.list (h.map prP)) (.list []) = some (.d (.bool (!h.isEmpty))) := by
  rw [ne_nil (shaped_H h).1, List.isEmpty_map]
abbrev rowP (w : List Int) : PyData := .list (w.map .int)
theorem uval_at {prs : List (Int × Int)} {rows : List (List Int)} (hr : ∀ q ∈ prs.zip rows, (q.2.length : Int) = q.1.2 - q.1.1 + 1) {x : List Int} (hx : x ∈ boxL prs) {z : Int × Int × List Int} (hz : z ∈ x.zip ((prs.map (·.1)).zip rows)) :
    0 ≤ z.1 - z.2.1 ∧ z.1 - z.2.1 < z.2.2.length ∧ ∃ q ∈ prs.zip rows, q.2 = z.2.2 := by
  obtain ⟨i, hi, rfl⟩ := List.getElem_of_mem hz
  rw [List.length_zip, List.length_zip, List.length_map] at hi
  have h1 : i < x.length := by omega
  have h2 : i < prs.length := by omega
  have h3 : i < rows.length := by omega
  have hb := box_at hx h2
  rw [List.getD_eq_getElem?_getD, List.getD_eq_getElem?_getD, List.getD_eq_getElem?_getD, List.getElem?_map, List.getElem?_map, List.getElem?_eq_getElem h1, List.getElem?_eq_getElem h2] at hb
  simp only [Option.map_some, Option.getD_some] at hb
  have hq : (prs[i], rows[i]) ∈ prs.zip rows := by
    have : (prs.zip rows)[i]'(by rw [List.length_zip]; omega) = (prs[i], rows[i]) := List.getElem_zip ..
    rw [← this]; exact List.getElem_mem _
  have hl := hr _ hq
  rw [List.getElem_zip, List.getElem_zip, List.getElem_map]
  refine ⟨?_, ?_, _, hq, rfl⟩
  · simp only; omega
  · simp only at *; omega
def zi3O : Option (List PyData) → Option (List PyData) → Option (List PyData) → Ev (List PyData) := fun a b c m => match a, b, c with
  | some xs, some ys, some zs => .ok (zip3D xs ys zs) m
  | _, _, _ => .no
theorem ev_zi3K {x y z : PyData} {m : Sm} : zi3K [x, y, z] m = zi3O (seqOf x) (seqOf y) (seqOf z) m := rfl
theorem ev_zi3O {xs ys zs : List PyData} {m : Sm} : zi3O (some xs) (some ys) (some zs) m = .ok (zip3D xs ys zs) m := rfl
theorem getD_at2 {a : List Int} {i : Nat} (h : i < a.length) : (a.map PyData.int)[i]? = some (.int (a.getD i 0)) := by
  rw [List.getElem?_map, List.getElem?_eq_getElem h, List.getD_eq_getElem?_getD, List.getElem?_eq_getElem h]; rfl
theorem ix_rowI {ns : List Int} {k : Int} (h0 : 0 ≤ k) (h : k < ns.length) : ixD (.list (ns.map .int)) (.int k) = some (.d (.int (ns.getD k.toNat 0))) := by
  obtain ⟨j, rfl⟩ := Int.eq_ofNat_of_zero_le h0
  exact ix_list (getD_at2 (by omega))
theorem ix_ptI {ns : List Int} {k : Int} (h0 : 0 ≤ k) (h : k < ns.length) : ixD (pt ns) (.int k) = some (.d (.int (ns.getD k.toNat 0))) := by
  obtain ⟨j, rfl⟩ := Int.eq_ofNat_of_zero_le h0
  exact ix_tuple (getD_at2 (by omega))
/-- a comprehension of draws that keeps some of the items -/
theorem pots_sub {α γ : Type} (S : Mv → Sm) (qa : α → PyData) (q : γ → PyData) (π : γ → α) (R : γ → Prop) {own : List Nat} {bt : Tg} {tst : Ev Bool} {e : Ev PyData} (I : Pot → Prop) : ∀ {L : List α} {acc : List PyData} {p : Pot}, I p →
    (∀ x ∈ L, ∀ p : Pot, I p → ∃ o : Option γ, ∃ p' : Pot, I p' ∧ compStep own bt tst e (qa x) (S p.mv) = .ok (o.map q) (S p'.mv) ∧ ∀ k, o = some k → π k = x ∧ R k) →
    ∃ (ks : List γ) (p' : Pot), I p' ∧ compL own bt tst e (L.map qa) acc (S p.mv) = .ok (acc ++ ks.map q) (S p'.mv) ∧ (ks.map π).Sublist L ∧ ∀ k ∈ ks, R k
  | [], acc, p, hp, _ => ⟨[], p, hp, by rw [List.map_nil, List.map_nil, List.append_nil]; rfl, List.Sublist.slnil, by simp⟩
  | x :: L, acc, p, hp, h => by
    obtain ⟨o, p1, hp1, e1, r1⟩ := h x (List.mem_cons_self ..) p hp
    cases o with
    | none =>
      obtain ⟨ks, p2, hp2, e2, l2, r2⟩ := pots_sub S qa q π R I (L := L) (acc := acc) hp1 fun y hy => h y (List.mem_cons_of_mem _ hy)
      refine ⟨ks, p2, hp2, ?_, l2.cons _, r2⟩
      rw [List.map_cons, compL_step e1]
      exact e2
    | some k =>
      obtain ⟨ks, p2, hp2, e2, l2, r2⟩ := pots_sub S qa q π R I (L := L) (acc := acc ++ [q k]) hp1 fun y hy => h y (List.mem_cons_of_mem _ hy)
      obtain ⟨ex, rk⟩ := r1 k rfl
      refine ⟨k :: ks, p2, hp2, ?_, ?_, fun z hz => ?_⟩
      · rw [List.map_cons, compL_step e1]
        show compL own bt tst e (L.map qa) (acc ++ [q k]) (S p1.mv) = _
        rw [e2, List.map_cons, List.append_assoc]
        rfl
      · rw [List.map_cons, ex]; exact l2.cons_cons _
      · rcases List.mem_cons.mp hz with rfl | hz
        · exact rk
        · exact r2 z hz
theorem lo_mem {n most : Nat} {prs : List (Int × Int)} (hb : BoxOk n most prs) : prs.map (·.1) ∈ boxL prs := by
  refine mem_boxL.mpr ⟨by simp, fun q hq => ?_⟩
  obtain ⟨i, hi, rfl⟩ := List.getElem_of_mem hq
  rw [List.getElem_zip, List.getElem_map]
  rw [List.length_zip, List.length_map] at hi
  have := hb.bd prs[i] (List.getElem_mem _)
  simp only
  omega
theorem in_pts {neg : Bool} {x : List Int} {l : List (List Int)} : inD neg (pt x) (.list (l.map pt)) = some (.d (.bool (neg != decide (x ∈ l)))) := by
  have hl : SeqAt.shaped (.list (l.map pt)) = true := by
    have := (shaped_H (l.map fun x => (x, 0))).1
    have hi : ∀ ns : List Int, PyData.canLayAll0 (ns.map PyData.int) = true ∧ PyData.depthAll (ns.map PyData.int) = 0 := by
      intro ns
      induction ns with
      | nil => exact ⟨rfl, rfl⟩
      | cons n r ih => exact ⟨by simp only [List.map_cons, PyData.canLayAll0, PyData.canLay0, ih.1, Bool.and_self], by simp only [List.map_cons, PyData.depthAll, PyData.depth, ih.2]; rfl⟩
    have hp : ∀ l : List (List Int), PyData.canLayAll0 (l.map pt) = true ∧ PyData.depthAll (l.map pt) ≤ 2 := by
      intro h
      induction h with
      | nil => exact ⟨rfl, Nat.zero_le _⟩
      | cons p r ih =>
        refine ⟨?_, ?_⟩
        · simp only [List.map_cons, PyData.canLayAll0, PyData.canLay0, ih.1, (hi p).1, Bool.and_self]
        · have := ih.2
          simp only [List.map_cons, PyData.depthAll, PyData.depth, (hi p).2]
          omega
    have := hp l
    unfold SeqAt.shaped
    simp only [PyData.canLay0, PyData.depth, this.1, Bool.true_and]
    exact decide_eq_true (by omega)
  unfold inD
  rw [shaped_pt, hl]
  show bD (neg != (l.map pt).any fun z => PyData.eqv z (pt x)) = _
  unfold bD
  congr 4
  rw [Bool.eq_iff_iff, List.any_map, List.any_eq_true, decide_eq_true_eq]
  constructor
  · rintro ⟨y, hy, h⟩
    have h : PyData.eqv (pt y) (pt x) = true := h
    rw [eqv_pt, decide_eq_true_eq] at h
    exact h ▸ hy
  · intro h
    exact ⟨x, h, by show PyData.eqv (pt x) (pt x) = true; rw [eqv_pt]; simp⟩
theorem sortR_ascH {h : Hl} (hn : (h.map (·.1)).Nodup) : AscH (sortR h) := by
  have hn2 : ((sortR h).map (·.1)).Nodup := ((sortR_perm h).map _).nodup_iff.mpr hn
  unfold AscH Asc
  rw [List.pairwise_map]
  have h1 := sortR_sorted h
  have h2 : (sortR h).Pairwise fun a b => a.1 ≠ b.1 := List.pairwise_map.mp hn2
  refine (h1.and h2).imp fun {a b} ⟨h1, h2⟩ => ?_
  rcases ltL_tri a.1 b.1 with z | z | z
  · exact z
  · exact absurd z h2
  · exfalso
    simp only [Bool.not_eq_true'] at h1
    unfold ltR at h1
    rw [if_neg (fun e => h2 e.symm), z] at h1
    cases h1
theorem sorted_prT {h : Hl} : sortedD [.tuple (h.map prP)] = some (.nl ((sortR h).map prP)) := sorted_pr (h := h)
end PyE

/-! PyP: greatest, least; sums of products; shown hills -/
namespace PyE
open PySem PySem.Spec PyProof.Rows
open L2
open PySem.W (alike minD maxD)
/-! ### greatest, least -/
def maxI : List Int → Int
  | [] => 0
  | n :: ns => ns.foldl max n
def minI : List Int → Int
  | [] => 0
  | n :: ns => ns.foldl min n
theorem alikeB_ints (ns : List Int) : alikeB (ns.map .int) = true := by
  unfold alikeB
  simp only [Bool.and_eq_true, List.all_eq_true, decide_eq_true_eq]
  refine ⟨⟨fun x hx y hy => ?_, fun x hx => ?_⟩, ?_⟩
  · obtain ⟨p, _, rfl⟩ := List.mem_map.mp hx
    obtain ⟨q, _, rfl⟩ := List.mem_map.mp hy
    rfl
  · obtain ⟨p, _, rfl⟩ := List.mem_map.mp hx
    rfl
  · have hi : ∀ l : List Int, PyData.depthAll (l.map .int) = 0 := fun l => by
      induction l with
      | nil => rfl
      | cons x l ih => simp only [List.map_cons, PyData.depthAll, PyData.depth, ih]; rfl
    rw [hi]; omega
theorem maxI_list {ns : List Int} (h : ns ≠ []) : maxLD [.list (ns.map .int)] = some (.d (.int (maxI ns))) := by
  cases ns with
  | nil => exact absurd rfl h
  | cons n ns =>
    have := alikeB_ints (n :: ns)
    rw [List.map_cons] at this
    show (if alikeB (.int n :: ns.map .int) = true then some (Rv.d (maxD (.int n) (ns.map .int))) else none) = _
    rw [if_pos this, PySem.W.maxD_ints]; rfl
theorem maxI_pt {ns : List Int} (h : ns ≠ []) : maxLD [.tuple (ns.map .int)] = some (.d (.int (maxI ns))) := by
  cases ns with
  | nil => exact absurd rfl h
  | cons n ns =>
    have := alikeB_ints (n :: ns)
    rw [List.map_cons] at this
    show (if alikeB (.int n :: ns.map .int) = true then some (Rv.d (maxD (.int n) (ns.map .int))) else none) = _
    rw [if_pos this, PySem.W.maxD_ints]; rfl
theorem minI_list {ns : List Int} (h : ns ≠ []) : minLD [.list (ns.map .int)] = some (.d (.int (minI ns))) := by
  cases ns with
  | nil => exact absurd rfl h
  | cons n ns =>
    have := alikeB_ints (n :: ns)
    rw [List.map_cons] at this
    show (if alikeB (.int n :: ns.map .int) = true then some (Rv.d (minD (.int n) (ns.map .int))) else none) = _
    rw [if_pos this, PySem.W.minD_ints]; rfl
theorem minI_pt {ns : List Int} (h : ns ≠ []) : minLD [.tuple (ns.map .int)] = some (.d (.int (minI ns))) := by
  cases ns with
  | nil => exact absurd rfl h
  | cons n ns =>
    have := alikeB_ints (n :: ns)
    rw [List.map_cons] at this
    show (if alikeB (.int n :: ns.map .int) = true then some (Rv.d (minD (.int n) (ns.map .int))) else none) = _
    rw [if_pos this, PySem.W.minD_ints]; rfl
theorem foldl_max : ∀ (ns : List Int) (n : Int), (ns.foldl max n = n ∨ ns.foldl max n ∈ ns) ∧ n ≤ ns.foldl max n ∧ ∀ x ∈ ns, x ≤ ns.foldl max n
  | [], n => ⟨.inl rfl, Int.le_refl _, by simp⟩
  | y :: ns, n => by
    obtain ⟨h1, h2, h3⟩ := foldl_max ns (max n y)
    rw [List.foldl_cons]
    refine ⟨?_, by omega, fun x hx => ?_⟩
    · rcases h1 with h1 | h1
      · rw [h1]
        by_cases h : n ≤ y
        · exact .inr (by rw [show max n y = y by omega]; simp)
        · exact .inl (by omega)
      · exact .inr (List.mem_cons_of_mem _ h1)
    · rcases List.mem_cons.mp hx with rfl | hx
      · omega
      · exact h3 x hx
theorem foldl_min : ∀ (ns : List Int) (n : Int), (ns.foldl min n = n ∨ ns.foldl min n ∈ ns) ∧ ns.foldl min n ≤ n ∧ ∀ x ∈ ns, ns.foldl min n ≤ x
  | [], n => ⟨.inl rfl, Int.le_refl _, by simp⟩
  | y :: ns, n => by
    obtain ⟨h1, h2, h3⟩ := foldl_min ns (min n y)
    rw [List.foldl_cons]
    refine ⟨?_, by omega, fun x hx => ?_⟩
    · rcases h1 with h1 | h1
      · rw [h1]
        by_cases h : y ≤ n
        · exact .inr (by rw [show min n y = y by omega]; simp)
        · exact .inl (by omega)
      · exact .inr (List.mem_cons_of_mem _ h1)
    · rcases List.mem_cons.mp hx with rfl | hx
      · omega
      · exact h3 x hx
theorem maxI_mem {ns : List Int} (h : ns ≠ []) : maxI ns ∈ ns := by
  cases ns with
  | nil => exact absurd rfl h
  | cons n ns =>
    rcases (foldl_max ns n).1 with e | e
    · show ns.foldl max n ∈ _; rw [e]; exact List.mem_cons_self ..
    · exact List.mem_cons_of_mem _ e
theorem le_maxI {ns : List Int} {x : Int} (h : x ∈ ns) : x ≤ maxI ns := by
  cases ns with
  | nil => cases h
  | cons n ns =>
    rcases List.mem_cons.mp h with rfl | h
    · exact (foldl_max ns x).2.1
    · exact (foldl_max ns n).2.2 x h
theorem minI_mem {ns : List Int} (h : ns ≠ []) : minI ns ∈ ns := by
  cases ns with
  | nil => exact absurd rfl h
  | cons n ns =>
    rcases (foldl_min ns n).1 with e | e
    · show ns.foldl min n ∈ _; rw [e]; exact List.mem_cons_self ..
    · exact List.mem_cons_of_mem _ e
theorem minI_le {ns : List Int} {x : Int} (h : x ∈ ns) : minI ns ≤ x := by
  cases ns with
  | nil => cases h
  | cons n ns =>
    rcases List.mem_cons.mp h with rfl | h
    · exact (foldl_min ns x).2.1
    · exact (foldl_min ns n).2.2 x h
theorem minI_eq {ns : List Int} {x : Int} (h : x ∈ ns) (hl : ∀ y ∈ ns, x ≤ y) : minI ns = x := by
  have h1 := minI_le h
  have h2 := hl _ (minI_mem (fun e => by rw [e] at h; cases h))
  omega
theorem maxI_eq {ns : List Int} {x : Int} (h : x ∈ ns) (hl : ∀ y ∈ ns, y ≤ x) : maxI ns = x := by
  have h1 := le_maxI h
  have h2 := hl _ (maxI_mem (fun e => by rw [e] at h; cases h))
  omega
theorem all_map {γ : Type} (p : γ → Bool) (l : List γ) : allD [.list (l.map fun x => PyData.bool (p x))] = some (.d (.bool (l.all p))) := by
  have : ∀ l : List γ, boolsOf (l.map fun x => PyData.bool (p x)) = some (l.map p) := fun l => by
    induction l with
    | nil => rfl
    | cons x l ih => rw [List.map_cons, boolsOf, ih]; rfl
  show (boolsOf _).bind _ = _
  rw [this]
  show bD _ = _
  unfold bD
  congr 3
  simp [List.all_map, Function.comp_def]
/-! ### sums of products -/
def tms (a b : List Int) : Int := ((a.zip b).map fun p => p.1 * p.2).sum
theorem mul_bd {B C x y : Int} (hB : 0 ≤ B) (hC : 0 ≤ C) (hx : -B ≤ x ∧ x ≤ B) (hy : -C ≤ y ∧ y ≤ C) : -(B * C) ≤ x * y ∧ x * y ≤ B * C := by
  have h1 : 0 ≤ (B - x) * (C - y) := Int.mul_nonneg (by omega) (by omega)
  have h2 : 0 ≤ (B + x) * (C + y) := Int.mul_nonneg (by omega) (by omega)
  have h3 : 0 ≤ (B - x) * (C + y) := Int.mul_nonneg (by omega) (by omega)
  have h4 : 0 ≤ (B + x) * (C - y) := Int.mul_nonneg (by omega) (by omega)
  have e1 : (B - x) * (C - y) = B * C - B * y - x * C + x * y := by rw [Int.sub_mul, Int.mul_sub, Int.mul_sub]; omega
  have e2 : (B + x) * (C + y) = B * C + B * y + x * C + x * y := by rw [Int.add_mul, Int.mul_add, Int.mul_add]; omega
  have e3 : (B - x) * (C + y) = B * C + B * y - x * C - x * y := by rw [Int.sub_mul, Int.mul_add, Int.mul_add]; omega
  have e4 : (B + x) * (C - y) = B * C - B * y + x * C - x * y := by rw [Int.add_mul, Int.mul_sub, Int.mul_sub]; omega
  omega
theorem tms_bd {B C : Int} {n : Nat} {p a : List Int} (hB : 0 ≤ B) (hC : 0 ≤ C) (hp : Bd B p) (ha : Bd C a) (hl : a.length ≤ n) : -(B * C * n) ≤ tms p a ∧ tms p a ≤ B * C * n := by
  have h := sum_bd (B := B * C) (Int.mul_nonneg hB hC) (fun q : Int × Int => q.1 * q.2) (l := p.zip a) fun q hq => mul_bd hB hC (hp q.1 (List.of_mem_zip hq).1) (ha q.2 (List.of_mem_zip hq).2)
  have h3 : (p.zip a).length ≤ n := by rw [List.length_zip]; omega
  have h4 : B * C * ((p.zip a).length : Int) ≤ B * C * n := Int.mul_le_mul_of_nonneg_left (by omega) (Int.mul_nonneg hB hC)
  unfold tms
  omega
/-! ### shown hills -/
abbrev hillT (h : Hl) : PyData := .tuple (h.map prP)
abbrev ptsT (l : List (List Int)) : PyData := .tuple (l.map pt)
theorem sz_hill {h : Hl} {B : Int} {n N : Nat} (h1 : ∀ p ∈ h, Bd B p.1 ∧ -B ≤ p.2 ∧ p.2 ≤ B ∧ p.1.length ≤ n) (hN : h.length ≤ N) (hB : B ≤ 1000000000000000000000000000000) : Sz (hillT h) 3 (1 + N * (1 + 2 * (1 + n))) :=
  (sz_tuple (dp := 2) (c := 1 + 2 * (1 + n)) fun x hx => by
    obtain ⟨p, hp, rfl⟩ := List.mem_map.mp hx
    obtain ⟨a, b, c, d⟩ := h1 p hp
    exact sz_pr a ⟨b, c⟩ d hB).mono (by omega) (by rw [List.length_map]; have := Nat.mul_le_mul_right (1 + 2 * (1 + n)) hN; omega)
theorem sz_pts {l : List (List Int)} {B : Int} {n N : Nat} (h1 : ∀ x ∈ l, Bd B x ∧ x.length ≤ n) (hN : l.length ≤ N) (hB : B ≤ 1000000000000000000000000000000) : Sz (ptsT l) 2 (1 + N * (1 + n)) :=
  (sz_tuple (dp := 1) (c := 1 + n) fun x hx => by
    obtain ⟨p, hp, rfl⟩ := List.mem_map.mp hx
    obtain ⟨a, d⟩ := h1 p hp
    exact (sz_pt fun n hn => a.at hn hB).mono (by omega) (by omega)).mono (by omega) (by rw [List.length_map]; have := Nat.mul_le_mul_right (1 + n) hN; omega)
theorem HillOk.sz {n : Nat} {d : Int} {h : Hl} (o : HillOk n d h) (hd : 0 ≤ d ∧ d ≤ 1000) (hn : n ≤ 10) : Sz (hillT h) 3 46000 :=
  (sz_hill (B := 1001000) (n := 10) (N := 1998) (fun p hp => ⟨(o.bd p hp).mono (by omega), by have := o.wd p hp; omega, by have := o.wd p hp; omega, by rw [o.dim p hp]; exact hn⟩) (by have := o.len; omega) (by omega)).mono (by omega) (by omega)
theorem flat_one {α : Type} (x : α) : ∀ n : Nat, (List.replicate n [x]).flatten = List.replicate n x
  | 0 => rfl
  | n + 1 => by rw [List.replicate_succ, List.flatten_cons, flat_one x n]; rfl
theorem mulT {x : Int} {n : Nat} (h : n ≤ 1000) : mulD (.tuple [.int x]) (.int (n : Int)) = some (.d (pt (List.replicate n x))) := by
  show (if -1000 ≤ (n : Int) ∧ (n : Int) ≤ 1000 ∧ [PyData.int x].length ≤ 1000 then some (Rv.d (.tuple (List.replicate (n : Int).toNat [PyData.int x]).flatten)) else none) = _
  rw [if_pos ⟨by omega, by omega, by simp⟩, Int.toNat_natCast, flat_one, pt, List.map_replicate]
theorem ptsE {h : Hl} (f : List Int × Int → Bool) : ((h.filter f).map fun q => pt q.1) = ((h.filter f).map (·.1)).map pt := by rw [List.map_map]; rfl
theorem shaped_pr (p : List Int × Int) : SeqAt.shaped (prP p) = true := by
  have hi : ∀ ns : List Int, PyData.canLayAll0 (ns.map PyData.int) = true ∧ PyData.depthAll (ns.map PyData.int) = 0 := by
    intro ns
    induction ns with
    | nil => exact ⟨rfl, rfl⟩
    | cons n r ih => exact ⟨by simp only [List.map_cons, PyData.canLayAll0, PyData.canLay0, ih.1, Bool.and_self], by simp only [List.map_cons, PyData.depthAll, PyData.depth, ih.2]; rfl⟩
  unfold SeqAt.shaped
  simp only [PyData.canLay0, PyData.canLayAll0, PyData.depth, PyData.depthAll, (hi p.1).1, (hi p.1).2, Bool.and_self, Bool.true_and]
  rfl
theorem ne_pr_str {q : List Int × Int} {s : Str} (h2 : SeqAt.shaped (.str s) = true) : neD (prP q) (.str s) = some (.d (.bool true)) := by
  show (match (if (SeqAt.shaped (prP q) && SeqAt.shaped (.str s)) = true then some (PyData.eqv (prP q) (.str s)) else none) with | some k => bD (!k) | none => none) = _
  rw [shaped_pr, h2]
  show bD (!(PyData.eqv (prP q) (.str s))) = _
  simp only [PyData.eqv]
  rfl
end PyE

/-! PyP: exchanges: sums of bent functions over lots that lie apart or within one another -/
namespace PyE
open PySem PySem.Spec PyProof.Rows
open L2
def bump (x : List Int) (i : Nat) (d : Int) : List Int := x.set i (x.getD i 0 + d)
theorem bump_length (x : List Int) (i : Nat) (d : Int) : (bump x i d).length = x.length := by simp [bump]
theorem bump_getD {x : List Int} {i j : Nat} {d : Int} (hi : i < x.length) : (bump x i d).getD j 0 = x.getD j 0 + (if j = i then d else 0) := by
  unfold bump
  rw [List.getD_eq_getElem?_getD, List.getElem?_set]
  by_cases h : i = j
  · subst h; rw [if_pos rfl, if_pos hi, if_pos rfl]; rfl
  · rw [if_neg h, if_neg (fun e => h e.symm), ← List.getD_eq_getElem?_getD]; omega
theorem sumAt_bump {x : List Int} {i : Nat} {d : Int} (hi : i < x.length) : ∀ {l : List Nat}, l.Nodup → sumAt (bump x i d) l = sumAt x l + (if i ∈ l then d else 0)
  | [], _ => by simp [sumAt]
  | j :: l, hn => by
    have ih := sumAt_bump (d := d) hi (List.nodup_cons.mp hn).2
    have hj := (List.nodup_cons.mp hn).1
    rw [sumAt_cons, sumAt_cons, ih, bump_getD hi]
    by_cases h : j = i
    · subst h
      rw [if_pos rfl, if_neg hj, if_pos (List.mem_cons_self ..)]; omega
    · rw [if_neg h]
      by_cases h2 : i ∈ l
      · rw [if_pos h2, if_pos (List.mem_cons_of_mem _ h2)]; omega
      · rw [if_neg h2, if_neg (fun z => by rcases List.mem_cons.mp z with z | z; exact h z.symm; exact h2 z)]; omega
theorem sumAt_filter (x : List Int) (p : Nat → Bool) : ∀ (l : List Nat), sumAt x l = sumAt x (l.filter p) + sumAt x (l.filter fun i => !p i)
  | [] => by simp [sumAt]
  | i :: l => by
    have ih := sumAt_filter x p l
    rw [sumAt_cons, List.filter_cons, List.filter_cons]
    by_cases h : p i = true
    · simp only [h, Bool.not_true, Bool.false_eq_true, if_true, if_false, sumAt_cons]; omega
    · simp only [h, Bool.not_false, if_true, if_false, sumAt_cons, Bool.false_eq_true]; omega
theorem perm_sum {a b : List Int} (h : a.Perm b) : a.sum = b.sum := by
  induction h with
  | nil => rfl
  | cons x _ ih => rw [List.sum_cons, List.sum_cons, ih]
  | swap x y l => rw [List.sum_cons, List.sum_cons, List.sum_cons, List.sum_cons]; omega
  | trans _ _ h1 h2 => exact h1.trans h2
theorem sumAt_perm (x : List Int) {a b : List Nat} (h : a.Perm b) : sumAt x a = sumAt x b := by
  unfold sumAt
  exact perm_sum (h.map _)
theorem sumAt_same (x : List Int) {a b : List Nat} (ha : a.Nodup) (hb : b.Nodup) (h : ∀ i, i ∈ a ↔ i ∈ b) : sumAt x a = sumAt x b :=
  sumAt_perm x ((List.perm_ext_iff_of_nodup ha hb).mpr h)
def Lam (L : List (List Nat)) : Prop := ∀ a ∈ L, ∀ b ∈ L, (∀ i ∈ a, i ∈ b) ∨ (∀ i ∈ b, i ∈ a) ∨ (∀ i ∈ a, i ∉ b)
theorem longest {p : List Nat → Prop} : ∀ {L : List (List Nat)}, (∃ a ∈ L, p a) → ∃ a ∈ L, p a ∧ ∀ b ∈ L, p b → b.length ≤ a.length
  | [], h => by obtain ⟨a, h, _⟩ := h; cases h
  | c :: L, h => by
    by_cases h2 : ∃ a ∈ L, p a
    · obtain ⟨a, ha, pa, hm⟩ := longest h2
      by_cases hc : p c ∧ a.length < c.length
      · refine ⟨c, List.mem_cons_self .., hc.1, fun b hb pb => ?_⟩
        rcases List.mem_cons.mp hb with rfl | hb
        · exact Nat.le_refl _
        · have := hm b hb pb; omega
      · refine ⟨a, List.mem_cons_of_mem _ ha, pa, fun b hb pb => ?_⟩
        rcases List.mem_cons.mp hb with rfl | hb
        · by_cases h3 : a.length < b.length
          · exact absurd ⟨pb, h3⟩ hc
          · omega
        · exact hm b hb pb
    · obtain ⟨a, ha, pa⟩ := h
      rcases List.mem_cons.mp ha with rfl | ha
      · refine ⟨a, List.mem_cons_self .., pa, fun b hb pb => ?_⟩
        rcases List.mem_cons.mp hb with rfl | hb
        · exact Nat.le_refl _
        · exact absurd ⟨b, hb, pb⟩ h2
      · exact absurd ⟨a, ha, pa⟩ h2
theorem shortest {p : List Nat → Prop} : ∀ {L : List (List Nat)}, (∃ a ∈ L, p a) → ∃ a ∈ L, p a ∧ ∀ b ∈ L, p b → a.length ≤ b.length
  | [], h => by obtain ⟨a, h, _⟩ := h; cases h
  | c :: L, h => by
    by_cases h2 : ∃ a ∈ L, p a
    · obtain ⟨a, ha, pa, hm⟩ := shortest h2
      by_cases hc : p c ∧ c.length < a.length
      · refine ⟨c, List.mem_cons_self .., hc.1, fun b hb pb => ?_⟩
        rcases List.mem_cons.mp hb with rfl | hb
        · exact Nat.le_refl _
        · have := hm b hb pb; omega
      · refine ⟨a, List.mem_cons_of_mem _ ha, pa, fun b hb pb => ?_⟩
        rcases List.mem_cons.mp hb with rfl | hb
        · by_cases h3 : b.length < a.length
          · exact absurd ⟨pb, h3⟩ hc
          · omega
        · exact hm b hb pb
    · obtain ⟨a, ha, pa⟩ := h
      rcases List.mem_cons.mp ha with rfl | ha
      · refine ⟨a, List.mem_cons_self .., pa, fun b hb pb => ?_⟩
        rcases List.mem_cons.mp hb with rfl | hb
        · exact Nat.le_refl _
        · exact absurd ⟨b, hb, pb⟩ h2
      · exact absurd ⟨a, ha, pa⟩ h2
theorem sub_len {a b : List Nat} (ha : a.Nodup) (h : ∀ i ∈ a, i ∈ b) : a.length ≤ b.length := ha.length_le_of_subset h
theorem sub_lt {a b : List Nat} {j : Nat} (ha : a.Nodup) (hb : b.Nodup) (h : ∀ i ∈ a, i ∈ b) (hj : j ∈ b) (hn : j ∉ a) : a.length < b.length := by
  have := (List.nodup_cons.mpr ⟨hn, ha⟩).length_le_of_subset (l₂ := b) (fun i hi => by rcases List.mem_cons.mp hi with rfl | hi; exact hj; exact h i hi)
  rw [List.length_cons] at this
  omega
/-- what is covered by lots that gain nothing gains nothing -/
theorem cover {x y : List Int} {L : List (List Nat)} (lam : Lam L) (nod : ∀ a ∈ L, a.Nodup) : ∀ (k : Nat) (S : List Nat), S.length ≤ k → S.Nodup →
    (∀ j ∈ S, ∃ C ∈ L, j ∈ C ∧ (∀ i ∈ C, i ∈ S) ∧ sumAt y C ≤ sumAt x C) → sumAt y S ≤ sumAt x S := by
  intro k
  induction k with
  | zero => intro S hS _ _; rw [List.eq_nil_of_length_eq_zero (by omega : S.length = 0)]; exact Int.le_refl _
  | succ k ih =>
    intro S hS hn h
    cases S with
    | nil => exact Int.le_refl _
    | cons j S =>
      obtain ⟨C0, hC0, hj0, hs0, hv0⟩ := h j (List.mem_cons_self ..)
      obtain ⟨C, hC, ⟨hj, hs, hv⟩, hmax⟩ := longest (p := fun C => j ∈ C ∧ (∀ i ∈ C, i ∈ j :: S) ∧ sumAt y C ≤ sumAt x C) ⟨C0, hC0, hj0, hs0, hv0⟩
      have hCn := nod C hC
      have e := fun z : List Int => sumAt_filter z (fun i => C.contains i) (j :: S)
      have eC : ∀ z : List Int, sumAt z ((j :: S).filter fun i => C.contains i) = sumAt z C := fun z => sumAt_same z (hn.sublist List.filter_sublist) hCn fun i => by
        rw [List.mem_filter, List.contains_iff_mem]
        exact ⟨fun h => h.2, fun h => ⟨hs i h, h⟩⟩
      have hS' : ((j :: S).filter fun i => !C.contains i).length ≤ k := by
        have : ((j :: S).filter fun i => !C.contains i) = (S.filter fun i => !C.contains i) := by
          rw [List.filter_cons, if_neg (by simp [hj])]
        rw [this]
        have := List.length_filter_le (fun i => !C.contains i) S
        rw [List.length_cons] at hS
        omega
      have r := ih ((j :: S).filter fun i => !C.contains i) hS' (hn.sublist List.filter_sublist) fun j' hj' => by
        obtain ⟨hj1, hj2⟩ := List.mem_filter.mp hj'
        have hj2 : j' ∉ C := by simpa using hj2
        obtain ⟨C', hC', hjC', hsC', hv'⟩ := h j' hj1
        refine ⟨C', hC', hjC', fun i hi => List.mem_filter.mpr ⟨hsC' i hi, ?_⟩, hv'⟩
        have hdis : ∀ i ∈ C, i ∉ C' := by
          rcases lam C hC C' hC' with z | z | z
          · have h1 := hmax C' hC' ⟨z j hj, hsC', hv'⟩
            have h2 := sub_lt hCn (nod C' hC') z hjC' hj2
            omega
          · exact absurd (z j' hjC') hj2
          · exact z
        have : i ∉ C := fun z => hdis i z hi
        simpa using this
      have e1 := e x
      have e2 := e y
      rw [eC] at e1 e2
      omega
/-- a function of a sum, where it is told, and bent -/
structure Term where
  lot : List Nat
  g : Int → Int
  D : Int → Prop
  ex : ∀ a b, D a → D b → b < a → D (a - 1) ∧ D (b + 1) ∧ g (a - 1) + g (b + 1) ≤ g a + g b
def fval (T : List Term) (x : List Int) : Int := (T.map fun t => t.g (sumAt x t.lot)).sum
def fdom (T : List Term) (x : List Int) : Prop := ∀ t ∈ T, t.D (sumAt x t.lot)
theorem sum_le2 {γ : Type} {f g f' g' : γ → Int} : ∀ {l : List γ}, (∀ t ∈ l, f t + g t ≤ f' t + g' t) → (l.map f).sum + (l.map g).sum ≤ (l.map f').sum + (l.map g').sum
  | [], _ => by simp
  | t :: l, h => by
    have h1 := h t (List.mem_cons_self ..)
    have h2 := sum_le2 (l := l) fun s hs => h s (List.mem_cons_of_mem _ hs)
    simp only [List.map_cons, List.sum_cons]
    omega
/-- one step: x moves towards y by dx, y towards x -/
theorem step_ok {T : List Term} {x y x' y' : List Int} (hx : fdom T x) (hy : fdom T y)
    (h : ∀ t ∈ T, (sumAt x' t.lot = sumAt x t.lot ∧ sumAt y' t.lot = sumAt y t.lot) ∨ (sumAt x' t.lot = sumAt x t.lot - 1 ∧ sumAt y' t.lot = sumAt y t.lot + 1 ∧ sumAt y t.lot < sumAt x t.lot) ∨ (sumAt x' t.lot = sumAt x t.lot + 1 ∧ sumAt y' t.lot = sumAt y t.lot - 1 ∧ sumAt x t.lot < sumAt y t.lot)) :
    fdom T x' ∧ fdom T y' ∧ fval T x' + fval T y' ≤ fval T x + fval T y := by
  have key : ∀ t ∈ T, t.D (sumAt x' t.lot) ∧ t.D (sumAt y' t.lot) ∧ t.g (sumAt x' t.lot) + t.g (sumAt y' t.lot) ≤ t.g (sumAt x t.lot) + t.g (sumAt y t.lot) := fun t ht => by
    rcases h t ht with ⟨h1, h2⟩ | ⟨h1, h2, h3⟩ | ⟨h1, h2, h3⟩
    · rw [h1, h2]; exact ⟨hx t ht, hy t ht, Int.le_refl _⟩
    · rw [h1, h2]; exact t.ex _ _ (hx t ht) (hy t ht) h3
    · rw [h1, h2]
      obtain ⟨z1, z2, z3⟩ := t.ex _ _ (hy t ht) (hx t ht) h3
      exact ⟨z2, z1, by omega⟩
  exact ⟨fun t ht => (key t ht).1, fun t ht => (key t ht).2.1, sum_le2 fun t ht => (key t ht).2.2⟩
theorem m_exchange {n : Nat} {T : List Term} (lam : Lam (T.map (·.lot))) (nod : ∀ t ∈ T, t.lot.Nodup) (low : ∀ t ∈ T, ∀ i ∈ t.lot, i < n) (one : ∀ i < n, [i] ∈ T.map (·.lot)) {x y : List Int} (lx : x.length = n) (ly : y.length = n) (hx : fdom T x) (hy : fdom T y) {i : Nat} (hi : i < n) (hxy : y.getD i 0 < x.getD i 0) :
    (fdom T (bump x i (-1)) ∧ fdom T (bump y i 1) ∧ fval T (bump x i (-1)) + fval T (bump y i 1) ≤ fval T x + fval T y) ∨
    ∃ j, j < n ∧ x.getD j 0 < y.getD j 0 ∧ fdom T (bump (bump x i (-1)) j 1) ∧ fdom T (bump (bump y i 1) j (-1)) ∧ fval T (bump (bump x i (-1)) j 1) + fval T (bump (bump y i 1) j (-1)) ≤ fval T x + fval T y := by
  have nodL : ∀ a ∈ T.map (·.lot), a.Nodup := fun a ha => by obtain ⟨t, ht, rfl⟩ := List.mem_map.mp ha; exact nod t ht
  have lowL : ∀ a ∈ T.map (·.lot), ∀ i ∈ a, i < n := fun a ha => by obtain ⟨t, ht, rfl⟩ := List.mem_map.mp ha; exact low t ht
  by_cases hA : ∃ a ∈ T.map (·.lot), i ∈ a ∧ sumAt x a ≤ sumAt y a
  · right
    obtain ⟨A, hAm, ⟨hiA, hAv⟩, hmin⟩ := shortest (p := fun a => i ∈ a ∧ sumAt x a ≤ sumAt y a) hA
    have hAn := nodL A hAm
    -- the largest lot with i in it and in A, other than A
    have hone : sumAt y [i] < sumAt x [i] := by simpa [sumAt] using hxy
    obtain ⟨B, hBm, ⟨hiB, hBA, hBv⟩, hBmax⟩ := longest (p := fun a => i ∈ a ∧ (∀ k ∈ a, k ∈ A) ∧ sumAt y a < sumAt x a) ⟨[i], one i hi, by simp, fun k hk => by rw [List.mem_singleton] at hk; subst hk; exact hiA, hone⟩
    have hBn := nodL B hBm
    by_cases hj : ∃ j ∈ A, j ∉ B ∧ ∀ C ∈ T.map (·.lot), j ∈ C → i ∉ C → sumAt x C < sumAt y C
    · obtain ⟨j, hjA, hjB, hjC⟩ := hj
      have hjn := lowL A hAm j hjA
      have hij : j ≠ i := fun e => hjB (e ▸ hiB)
      refine ⟨j, hjn, ?_, ?_⟩
      · have := hjC [j] (one j hjn) (by simp) (by simpa using fun e => hij e.symm)
        simpa [sumAt] using this
      · refine step_ok hx hy fun t ht => ?_
        have hn := nod t ht
        have hm : t.lot ∈ T.map (·.lot) := List.mem_map_of_mem ht
        rw [sumAt_bump (by rw [bump_length]; omega) hn, sumAt_bump (by omega) hn, sumAt_bump (by rw [bump_length]; omega) hn, sumAt_bump (by omega) hn]
        by_cases h1 : i ∈ t.lot <;> by_cases h2 : j ∈ t.lot
        · rw [if_pos h1, if_pos h2, if_pos h1, if_pos h2]; left; omega
        · rw [if_pos h1, if_neg h2, if_pos h1, if_neg h2]
          right; left
          refine ⟨by omega, by omega, ?_⟩
          have hsub : ∀ k ∈ t.lot, k ∈ A := by
            rcases lam t.lot hm A hAm with z | z | z
            · exact z
            · exact absurd (z j hjA) h2
            · exact absurd hiA (z i h1)
          by_cases h3 : sumAt x t.lot ≤ sumAt y t.lot
          · have h4 := hmin t.lot hm ⟨h1, h3⟩
            have h5 := sub_lt hn hAn hsub hjA h2
            omega
          · omega
        · rw [if_neg h1, if_pos h2, if_neg h1, if_pos h2]
          right; right
          exact ⟨by omega, by omega, hjC t.lot hm h2 h1⟩
        · rw [if_neg h1, if_neg h2, if_neg h1, if_neg h2]; left; omega
    · exfalso
      -- all of A but B is covered by lots that gain nothing
      have hcov := cover (x := x) (y := y) lam nodL (A.filter fun k => !B.contains k).length (A.filter fun k => !B.contains k) (Nat.le_refl _) (hAn.sublist List.filter_sublist) fun j hjf => by
        obtain ⟨hjA, hjB⟩ := List.mem_filter.mp hjf
        have hjB : j ∉ B := by simpa using hjB
        have hc : ∃ C ∈ T.map (·.lot), j ∈ C ∧ i ∉ C ∧ sumAt y C ≤ sumAt x C := by
          refine Classical.byContradiction fun hno => hj ⟨j, hjA, hjB, fun C hC h1 h2 => ?_⟩
          refine Classical.byContradiction fun h3 => hno ⟨C, hC, h1, h2, by omega⟩
        obtain ⟨C, hC, h1, h2, h3⟩ := hc
        refine ⟨C, hC, h1, fun k hk => List.mem_filter.mpr ⟨?_, ?_⟩, h3⟩
        · rcases lam C hC A hAm with z | z | z
          · exact z k hk
          · exact absurd (z i hiA) h2
          · exact absurd hjA (z j h1)
        · have : k ∉ B := fun hkB => by
            rcases lam C hC B hBm with z | z | z
            · exact hjB (z j h1)
            · exact h2 (z i hiB)
            · exact z k hk hkB
          simpa using this
      have e := fun z : List Int => sumAt_filter z (fun k => B.contains k) A
      have eB : ∀ z : List Int, sumAt z (A.filter fun k => B.contains k) = sumAt z B := fun z => sumAt_same z (hAn.sublist List.filter_sublist) hBn fun k => by
        rw [List.mem_filter, List.contains_iff_mem]
        exact ⟨fun h => h.2, fun h => ⟨hBA k h, h⟩⟩
      have e1 := e x
      have e2 := e y
      rw [eB] at e1 e2
      omega
  · left
    refine step_ok hx hy fun t ht => ?_
    have hn := nod t ht
    have hm : t.lot ∈ T.map (·.lot) := List.mem_map_of_mem ht
    rw [sumAt_bump (by omega) hn, sumAt_bump (by omega) hn]
    by_cases h1 : i ∈ t.lot
    · rw [if_pos h1, if_pos h1]
      right; left
      refine ⟨by omega, by omega, ?_⟩
      refine Classical.byContradiction fun h3 => hA ⟨t.lot, hm, h1, by omega⟩
    · rw [if_neg h1, if_neg h1]; left; omega
end PyE

/-! PyP: M hills exchange; hills as dicts, asked -/
namespace PyE
open PySem PySem.Spec PyProof.Rows
open L2
/-! ### bent rows -/
theorem bent_mono {w : List Int} (hb : Bent w) : ∀ {p r : Nat}, p ≤ r → r + 1 < w.length → w.getD (p + 1) 0 - w.getD p 0 ≤ w.getD (r + 1) 0 - w.getD r 0
  | p, 0, h, _ => by have : p = 0 := by omega
                     subst this; exact Int.le_refl _
  | p, r + 1, h, hr => by
    by_cases e : p = r + 1
    · subst e; exact Int.le_refl _
    · have h1 := bent_mono hb (p := p) (r := r) (by omega) (by omega)
      have h2 : 2 * w.getD (r + 1) 0 ≤ w.getD r 0 + w.getD (r + 1 + 1) 0 := hb r (by omega)
      omega
theorem bent_ex {w : List Int} (hb : Bent w) {c a b : Int} (ha : 0 ≤ a - c ∧ a - c < w.length) (hB : 0 ≤ b - c ∧ b - c < w.length) (h : b < a) :
    (0 ≤ a - 1 - c ∧ a - 1 - c < w.length) ∧ (0 ≤ b + 1 - c ∧ b + 1 - c < w.length) ∧ w.getD (a - 1 - c).toNat 0 + w.getD (b + 1 - c).toNat 0 ≤ w.getD (a - c).toNat 0 + w.getD (b - c).toNat 0 := by
  refine ⟨by omega, by omega, ?_⟩
  obtain ⟨q, hq⟩ : ∃ q : Nat, a - c = (q : Int) + 1 := ⟨(a - c - 1).toNat, by omega⟩
  obtain ⟨p, hp⟩ : ∃ p : Nat, b - c = (p : Int) := ⟨(b - c).toNat, by omega⟩
  rw [show (a - 1 - c).toNat = q by omega, show (b + 1 - c).toNat = p + 1 by omega, show (a - c).toNat = q + 1 by omega, show (b - c).toNat = p by omega]
  have := bent_mono hb (p := p) (r := q) (by omega) (by omega)
  omega
/-! ### M hills -/
def tabTerm (t : Tab) (hb : Bent t.2.2) : Term where
  lot := t.1
  g := fun v => t.2.2.getD (v - t.2.1).toNat 0
  D := fun v => 0 ≤ v - t.2.1 ∧ v - t.2.1 < t.2.2.length
  ex := fun a b ha hB h => bent_ex hb ha hB h
def keepD (k b : Int) (v : Int) : Prop := (k = 0 → v = b) ∧ (k = 1 → v ≤ b)
def keepTerm (n : Nat) (k b : Int) : Term where
  lot := List.range n
  g := fun _ => 0
  D := keepD k b
  ex := fun a c ha hc h => by
    obtain ⟨h1, h2⟩ := ha
    obtain ⟨h3, h4⟩ := hc
    refine ⟨⟨fun e => ?_, fun e => ?_⟩, ⟨fun e => ?_, fun e => ?_⟩, Int.le_refl _⟩
    · have := h1 e; have := h3 e; omega
    · have := h2 e; omega
    · have := h1 e; have := h3 e; omega
    · have := h2 e; omega
theorem keepM_iff {k b : Int} {x : List Int} : keepM k b x = true ↔ keepD k b x.sum := by
  unfold keepD
  by_cases h0 : k = 0
  · subst h0
    simp [keepM]
  · by_cases h1 : k = 1
    · subst h1
      simp [keepM]
    · have : keepM k b x = true := by
        unfold keepM
        split
        · exact absurd rfl h0
        · exact absurd rfl h1
        · rfl
      simp [this, h0, h1]
theorem range_getD (x : List Int) : ((List.range x.length).map fun i => x.getD i 0) = x := by
  refine List.ext_getElem (by simp) fun i h1 h2 => ?_
  rw [List.getElem_map, List.getElem_range, List.getD_eq_getElem?_getD, List.getElem?_eq_getElem h2]
  rfl
theorem sumAt_range (x : List Int) : sumAt x (List.range x.length) = x.sum := by
  unfold sumAt
  rw [range_getD]
def terms (prs : List (Int × Int)) : (T : List Tab) → (∀ t ∈ T, TabOk prs t) → List Term
  | [], _ => []
  | t :: T, h => tabTerm t (h t (List.mem_cons_self ..)).2.2.1 :: terms prs T fun s hs => h s (List.mem_cons_of_mem _ hs)
theorem terms_lots {prs : List (Int × Int)} : ∀ {T : List Tab} (h : ∀ t ∈ T, TabOk prs t), (terms prs T h).map (·.lot) = T.map (·.1)
  | [], _ => rfl
  | t :: T, h => by
    rw [terms, List.map_cons, List.map_cons, terms_lots]
    rfl
theorem terms_val {prs : List (Int × Int)} {x : List Int} : ∀ {T : List Tab} (h : ∀ t ∈ T, TabOk prs t), fval (terms prs T h) x = mval T x
  | [], _ => rfl
  | t :: T, h => by
    have ih := terms_val (x := x) (T := T) fun s hs => h s (List.mem_cons_of_mem _ hs)
    unfold fval mval at ih ⊢
    rw [terms, List.map_cons, List.map_cons, List.sum_cons, List.sum_cons, ih]
    rfl
theorem terms_dom {prs : List (Int × Int)} {x : List Int} : ∀ {T : List Tab} (h : ∀ t ∈ T, TabOk prs t), fdom (terms prs T h) x ↔ ∀ t ∈ T, 0 ≤ sumAt x t.1 - t.2.1 ∧ sumAt x t.1 - t.2.1 < t.2.2.length
  | [], _ => by simp [terms, fdom]
  | t :: T, h => by
    have ih := terms_dom (x := x) (T := T) fun s hs => h s (List.mem_cons_of_mem _ hs)
    unfold fdom at ih ⊢
    rw [terms]
    simp only [List.forall_mem_cons, ih]
    rfl
/-- what an M hill lets any two of its points do -/
def MEx (n : Nat) (h : Hl) : Prop := ∀ p ∈ h, ∀ q ∈ h, ∀ i, i < n → q.1.getD i 0 < p.1.getD i 0 →
  (∃ p' ∈ h, ∃ q' ∈ h, p'.1 = bump p.1 i (-1) ∧ q'.1 = bump q.1 i 1 ∧ p'.2 + q'.2 ≤ p.2 + q.2) ∨
  ∃ j, j < n ∧ p.1.getD j 0 < q.1.getD j 0 ∧ ∃ p' ∈ h, ∃ q' ∈ h, p'.1 = bump (bump p.1 i (-1)) j 1 ∧ q'.1 = bump (bump q.1 i 1) j (-1) ∧ p'.2 + q'.2 ≤ p.2 + q.2
theorem MHill.ex {n most : Nat} {h : Hl} (hM : MHill n most h) : MEx n h := by
  obtain ⟨prs, T, k, b, hbox, hL, hT, rfl, _⟩ := hM
  have hpl := hbox.len
  have hTn : ∀ t ∈ T, t.1.Nodup ∧ ∀ i ∈ t.1, i < n := fun t ht => hL.nod t.1 (List.mem_map_of_mem ht)
  have hin : ∀ x, x ∈ boxL prs → ∀ t ∈ T, 0 ≤ sumAt x t.1 - t.2.1 ∧ sumAt x t.1 - t.2.1 < t.2.2.length := fun x hx t ht => by
    obtain ⟨h1, h2, _, _⟩ := hT t ht
    have h3 := sumAt_le (x := prs.map (·.1)) (y := x) (l := t.1) fun i hi => (box_at hx (by rw [hpl]; exact (hTn t ht).2 i hi)).1
    have h4 := sumAt_le (x := x) (y := prs.map (·.2)) (l := t.1) fun i hi => (box_at hx (by rw [hpl]; exact (hTn t ht).2 i hi)).2
    omega
  have hback : ∀ x : List Int, x.length = n → (∀ t ∈ T, 0 ≤ sumAt x t.1 - t.2.1 ∧ sumAt x t.1 - t.2.1 < t.2.2.length) → x ∈ boxL prs := fun x hl hd => by
    refine mem_boxL.mpr ⟨by omega, fun q hq => ?_⟩
    obtain ⟨i, hi, rfl⟩ := List.getElem_of_mem hq
    rw [List.length_zip] at hi
    obtain ⟨t, ht, e⟩ := List.mem_map.mp (hL.one i (by omega))
    obtain ⟨h1, h2, _, _⟩ := hT t ht
    have hd := hd t ht
    rw [e] at h1 h2 hd
    simp only [sumAt, List.map_cons, List.map_nil, List.sum_cons, List.sum_nil] at h1 h2 hd
    rw [List.getD_eq_getElem?_getD, List.getElem?_map, List.getElem?_eq_getElem (by omega : i < prs.length)] at h1 h2
    rw [List.getD_eq_getElem?_getD, List.getElem?_eq_getElem (by omega : i < x.length)] at hd
    rw [List.getElem_zip]
    simp only [Option.map_some, Option.getD_some] at h1 h2 hd
    simp only
    omega
  generalize hS : keepTerm n k b :: terms prs T hT = S
  have hlots : S.map (·.lot) = List.range n :: T.map (·.1) := by rw [← hS, List.map_cons, terms_lots]; rfl
  have hdom : ∀ x : List Int, x.length = n → (fdom S x ↔ (x ∈ boxL prs ∧ keepM k b x = true)) := fun x hl => by
    rw [← hS]
    have e : fdom (keepTerm n k b :: terms prs T hT) x ↔ (keepD k b (sumAt x (List.range n)) ∧ fdom (terms prs T hT) x) := by
      unfold fdom
      simp only [List.forall_mem_cons]
      rfl
    rw [e, terms_dom, keepM_iff, ← sumAt_range x, hl]
    exact ⟨fun h => ⟨hback x hl h.2, h.1⟩, fun h => ⟨h.2, fun t ht => hin x h.1 t ht⟩⟩
  have hval : ∀ x, fval S x = mval T x := fun x => by
    rw [← hS, ← terms_val hT]
    unfold fval
    rw [List.map_cons, List.sum_cons]
    exact Int.zero_add _
  have lam : Lam (S.map (·.lot)) := by
    rw [hlots]
    intro a ha c hc
    rcases List.mem_cons.mp ha with rfl | ha
    · rcases List.mem_cons.mp hc with rfl | hc
      · exact .inl fun _ h => h
      · exact .inr (.inl fun i hi => List.mem_range.mpr ((hL.nod c hc).2 i hi))
    · rcases List.mem_cons.mp hc with rfl | hc
      · exact .inl fun i hi => List.mem_range.mpr ((hL.nod a ha).2 i hi)
      · exact hL.lam a ha c hc
  have hm : ∀ t ∈ S, t.lot ∈ List.range n :: T.map (·.1) := fun t ht => by rw [← hlots]; exact List.mem_map_of_mem ht
  have nod : ∀ t ∈ S, t.lot.Nodup := fun t ht => by
    rcases List.mem_cons.mp (hm t ht) with e | e
    · rw [e]; exact List.nodup_range
    · exact (hL.nod _ e).1
  have low : ∀ t ∈ S, ∀ i ∈ t.lot, i < n := fun t ht => by
    rcases List.mem_cons.mp (hm t ht) with e | e
    · rw [e]; exact fun i hi => List.mem_range.mp hi
    · exact (hL.nod _ e).2
  have hmem : ∀ p, p ∈ ((boxL prs).map fun x => (x, mval T x)).filter (fun p => keepM k b p.1) ↔ (p.1 ∈ boxL prs ∧ keepM k b p.1 = true) ∧ p.2 = mval T p.1 := fun p => by
    rw [List.mem_filter, List.mem_map]
    constructor
    · rintro ⟨⟨x, hx, rfl⟩, hk⟩; exact ⟨⟨hx, hk⟩, rfl⟩
    · rintro ⟨⟨h1, h2⟩, h3⟩; exact ⟨⟨p.1, h1, by rw [← h3]⟩, h2⟩
  intro p hp q hq i hi hlt
  obtain ⟨hp1, hp2⟩ := (hmem p).mp hp
  obtain ⟨hq1, hq2⟩ := (hmem q).mp hq
  have lp := box_dim hbox hp1.1
  have lq := box_dim hbox hq1.1
  rcases m_exchange lam nod low (fun i hi => by rw [hlots]; exact List.mem_cons_of_mem _ (hL.one i hi)) lp lq ((hdom _ lp).mpr hp1) ((hdom _ lq).mpr hq1) hi hlt with ⟨h1, h2, h3⟩ | ⟨j, hj, hlt2, h1, h2, h3⟩
  · left
    rw [hdom _ (by rw [bump_length]; exact lp)] at h1
    rw [hdom _ (by rw [bump_length]; exact lq)] at h2
    rw [hval, hval, hval, hval, ← hp2, ← hq2] at h3
    exact ⟨(_, mval T _), (hmem _).mpr ⟨h1, rfl⟩, (_, mval T _), (hmem _).mpr ⟨h2, rfl⟩, rfl, rfl, h3⟩
  · right
    rw [hdom _ (by rw [bump_length, bump_length]; exact lp)] at h1
    rw [hdom _ (by rw [bump_length, bump_length]; exact lq)] at h2
    rw [hval, hval, hval, hval, ← hp2, ← hq2] at h3
    exact ⟨j, hj, hlt2, (_, mval T _), (hmem _).mpr ⟨h1, rfl⟩, (_, mval T _), (hmem _).mpr ⟨h2, rfl⟩, rfl, rfl, h3⟩
end PyE

/-! PyP: loops that look for the first; hills as dicts, asked; exchanges, plainly -/
namespace PyE
open PySem PySem.Spec PyProof.Rows
open L2
/-! ### the first that ends a loop -/
inductive FirstOr {ρ : Type} (enc : ρ → Mv) (P : Sm → Prop) : Option ρ → Res Fo → Prop
  | nx {m : Sm} : P m → FirstOr enc P none (.ok .nx m)
  | ct {m : Sm} : P m → FirstOr enc P none (.ok .ct m)
  | rt {r : ρ} {m : Sm} : P m → FirstOr enc P (some r) (.ok (.rt (enc r)) m)
theorem forL_first {γ ρ : Type} {t : Tg} {g : Sf} {q : γ → PyData} (enc : ρ → Mv) (P : Sm → Prop) (F : γ → Option ρ) : ∀ {L : List γ} {m : Sm}, P m → (∀ x ∈ L, ∀ m, P m → FirstOr enc P (F x) (bodyO g (t (q x) m))) →
    (L.findSome? F = none ∧ ∃ m', forL t g (L.map q) m = .ok .nx m' ∧ P m') ∨ ∃ r, L.findSome? F = some r ∧ ∃ m', forL t g (L.map q) m = .ok (.rt (enc r)) m' ∧ P m'
  | [], m, p, _ => .inl ⟨rfl, m, rfl, p⟩
  | x :: L, m, p, h => by
    have z := h x (List.mem_cons_self ..) m p
    rw [List.map_cons, forL_cons, List.findSome?_cons]
    generalize bodyO g (t (q x) m) = r at z
    generalize F x = o at z
    cases z with
    | nx p1 => rw [eb_ok, ev_forT_nx]; exact forL_first enc P F p1 fun y hy => h y (List.mem_cons_of_mem _ hy)
    | ct p1 => rw [eb_ok, ev_forT_ct]; exact forL_first enc P F p1 fun y hy => h y (List.mem_cons_of_mem _ hy)
    | rt p1 => rw [eb_ok, ev_forT_rt]; exact .inr ⟨_, rfl, _, rfl, p1⟩
/-! ### dicts asked -/
theorem get_H {h : Hl} {x : List Int} {m : Sm} : getB (some (kvH h)) [pt x] m = .ok (.d (((look h x).map .int).getD .none)) m := by
  rw [ev_getB1 (keyOk_H h x), findP_H]
theorem ix_H {h : Hl} {x : List Int} {w : Int} (hw : look h x = some w) : ixDD (.dict (kvH h)) (pt x) = some (.d (.int w)) :=
  ix_dict_of (keyOk_H h x) (by rw [findP_H, hw]; rfl)
theorem in_H {neg : Bool} {h : Hl} {x : List Int} : inDD neg (pt x) (.dict (kvH h)) = some (.d (.bool (neg != (look h x).isSome))) := by
  rw [in_dict_of neg (keyOk_H h x), findP_H, Option.isSome_map]
theorem look_iff {h : Hl} {x : List Int} : (look h x).isSome = decide (x ∈ h.map (·.1)) := by
  rw [Bool.eq_iff_iff, look_isSome, decide_eq_true_eq]
theorem any_map {γ : Type} (p : γ → Bool) (l : List γ) : anyD [.list (l.map fun x => PyData.bool (p x))] = some (.d (.bool (l.any p))) := by
  have : ∀ l : List γ, boolsOf (l.map fun x => PyData.bool (p x)) = some (l.map p) := fun l => by
    induction l with
    | nil => rfl
    | cons x l ih => rw [List.map_cons, boolsOf, ih]; rfl
  show (boolsOf _).bind _ = _
  rw [this]
  show bD _ = _
  unfold bD
  congr 3
  simp [List.any_map, Function.comp_def]
/-! ### exchanges, plainly -/
def rise (a b : List Int) : Int := ((a.zip b).map fun p => if p.1 - p.2 > 0 then p.1 - p.2 else 0).sum
def fall (a b : List Int) : Int := ((a.zip b).map fun p => if p.2 - p.1 > 0 then p.2 - p.1 else 0).sum
def reachF (a b : List Int) : Int := if fall a b > rise a b then fall a b else rise a b
def lowP (x y : List Int) : List Nat := (List.range x.length).filter fun i => decide (x.getD i 0 < y.getD i 0)
def optP : Option Nat → PyData
  | none => .none
  | some j => .int (j : Int)
def bumpO (x : List Int) (o : Option Nat) (d : Int) : List Int := match o with
  | none => x
  | some i => bump x i d
def chgO (x : List Int) (less more : Option Nat) : List Int := bumpO (bumpO x less (-1)) more 1
def fairW (h : Hl) (x y : List Int) (i : Nat) (o : Option Nat) (s : Int) : Bool := match look h (chgO x (some i) o), look h (chgO y o (some i)) with
  | some a, some b => decide (a + b ≤ s)
  | _, _ => false
def fair (h : Hl) (x y : List Int) (i : Nat) (o : Option Nat) : Bool := fairW h x y i o ((look h x).getD 0 + (look h y).getD 0)
def othersP (x y : List Int) (narrow : Bool) : List (Option Nat) := (if narrow = true then [] else [none]) ++ (lowP x y).map some
def exs (h : Hl) (x y : List Int) (i : Nat) (narrow : Bool) : List (Option Nat) := (othersP x y narrow).filter (fair h x y i)
def nearE (most : Option Int) (x y : List Int) : Bool := match most with
  | none => true
  | some k => decide (reachF x y ≤ k)
def brkI (h : Hl) (narrow : Bool) (x y : List Int) (i : Nat) : Option (List Int × List Int × Nat) := if (othersP x y narrow).any (fair h x y i) = true then none else some (x, y, i)
def brkY (h : Hl) (narrow : Bool) (most : Option Int) (x y : List Int) : Option (List Int × List Int × Nat) := if nearE most x y = true then (lowP y x).findSome? (brkI h narrow x y) else none
def brk (h : Hl) (narrow : Bool) (most : Option Int) : Option (List Int × List Int × Nat) := (h.map (·.1)).findSome? fun x => (h.map (·.1)).findSome? (brkY h narrow most x)
def brkP (r : List Int × List Int × Nat) : PyData := .tuple [pt r.1, pt r.2.1, .int (r.2.2 : Int)]
def obrkP : Option (List Int × List Int × Nat) → PyData
  | none => .none
  | some r => brkP r
theorem set_less {x : List Int} {i : Nat} : (x.map PyData.int).set i (.int (x.getD i 0 - 1)) = (bump x i (-1)).map .int := by
  unfold bump
  rw [List.map_set]
  rfl
theorem set_more {x : List Int} {i : Nat} : (x.map PyData.int).set i (.int (x.getD i 0 + 1)) = (bump x i 1).map .int := by
  unfold bump
  rw [List.map_set]
theorem mem_lowP {x y : List Int} {i : Nat} : i ∈ lowP x y ↔ i < x.length ∧ x.getD i 0 < y.getD i 0 := by
  unfold lowP
  rw [List.mem_filter, List.mem_range, decide_eq_true_eq]
theorem bump_comm {x : List Int} {i j : Nat} {d e : Int} (h : i ≠ j) : bump (bump x i d) j e = bump (bump x j e) i d := by
  unfold bump
  rw [List.set_comm _ _ h]
  congr 1
  · congr 1
    rw [List.getD_eq_getElem?_getD, List.getElem?_set_ne h, ← List.getD_eq_getElem?_getD]
  · rw [List.getD_eq_getElem?_getD, List.getD_eq_getElem?_getD, List.getElem?_set_ne (fun z => h z.symm)]
/-- an M hill has no break -/
theorem MEx.brk {n : Nat} {h : Hl} (hd : ∀ p ∈ h, p.1.length = n) (hn : (h.map (·.1)).Nodup) (hM : MEx n h) : brk h false none = none := by
  unfold PyE.brk
  rw [List.findSome?_eq_none_iff]
  intro x hx
  rw [List.findSome?_eq_none_iff]
  intro y hy
  unfold brkY
  rw [if_pos (show nearE none _ _ = true from rfl), List.findSome?_eq_none_iff]
  intro i hi
  obtain ⟨hi1, hi2⟩ := mem_lowP.mp hi
  obtain ⟨p, hp, rfl⟩ := List.mem_map.mp hx
  obtain ⟨q, hq, rfl⟩ := List.mem_map.mp hy
  have lp := hd p hp
  have lq := hd q hq
  unfold brkI
  rw [if_pos]
  rw [List.any_eq_true]
  have ok : ∀ o : Option Nat, ∀ p' ∈ h, ∀ q' ∈ h, p'.1 = chgO p.1 (some i) o → q'.1 = chgO q.1 o (some i) → p'.2 + q'.2 ≤ p.2 + q.2 → fair h p.1 q.1 i o = true := fun o p' hp' q' hq' e1 e2 hle => by
    unfold fair fairW
    rw [← e1, ← e2, look_some hn (x := p'.1) (w := p'.2) hp', look_some hn (x := q'.1) (w := q'.2) hq', look_some hn (x := p.1) (w := p.2) hp, look_some hn (x := q.1) (w := q.2) hq]
    exact decide_eq_true hle
  rcases hM p hp q hq i (by omega) hi2 with ⟨p', hp', q', hq', e1, e2, hle⟩ | ⟨j, hj, hlt, p', hp', q', hq', e1, e2, hle⟩
  · exact ⟨none, by simp [othersP], ok none p' hp' q' hq' e1 e2 hle⟩
  · have hne : i ≠ j := fun e => by subst e; omega
    refine ⟨some j, ?_, ok (some j) p' hp' q' hq' e1 ?_ hle⟩
    · unfold othersP
      exact List.mem_append_right _ (List.mem_map_of_mem (mem_lowP.mpr ⟨by omega, hlt⟩))
    · rw [e2]
      show _ = bump (bump q.1 j (-1)) i 1
      exact bump_comm hne
theorem brk_ex {h : Hl} {narrow : Bool} (hb : PyE.brk h narrow none = none) {x y : List Int} (hx : x ∈ h.map (·.1)) (hy : y ∈ h.map (·.1)) {i : Nat} (hi : i ∈ lowP y x) : exs h x y i narrow ≠ [] := by
  unfold PyE.brk at hb
  rw [List.findSome?_eq_none_iff] at hb
  have hb := hb x hx
  rw [List.findSome?_eq_none_iff] at hb
  have hb := hb y hy
  unfold brkY at hb
  rw [if_pos (show nearE none _ _ = true from rfl), List.findSome?_eq_none_iff] at hb
  have hb := hb i hi
  unfold brkI at hb
  intro e
  have : (othersP x y narrow).any (fair h x y i) = false := by
    rw [List.any_eq_false]
    intro o ho h2
    have : o ∈ exs h x y i narrow := List.mem_filter.mpr ⟨ho, h2⟩
    rw [e] at this
    cases this
  rw [if_neg (by rw [this]; simp)] at hb
  cases hb
theorem in_lotI {neg : Bool} {q : List Nat} {k : Int} : inD neg (.int k) (.tuple (q.map fun (j : Nat) => .int (j : Int))) = some (.d (.bool (neg != q.any fun (j : Nat) => (j : Int) == k))) := by
  have h := in_ptG (neg := neg) (ns := q.map fun (j : Nat) => (j : Int)) (i := k)
  rw [List.any_map, pt, List.map_map] at h
  exact h
def mostP : Option Int → PyData
  | none => .none
  | some k => .int k
/-- may such an exchange be asked -/
def mayX (h : Hl) (x y : List Int) (pl : Int) : Bool := decide (x ∈ h.map (·.1)) && (decide (y ∈ h.map (·.1)) && (decide (0 ≤ pl) && (decide (pl < x.length) && decide (y.getD pl.toNat 0 < x.getD pl.toNat 0))))
def dueP (h : Hl) (x y : List Int) (pl : Int) : PyData := if mayX h x y pl = true then .tuple ((exs h x y pl.toNat false).map optP) else .str "unfit"
theorem any_low {x y : List Int} {pl : Int} : ((lowP y x).any fun (j : Nat) => (j : Int) == pl) = (decide (0 ≤ pl) && (decide (pl < y.length) && decide (y.getD pl.toNat 0 < x.getD pl.toNat 0))) := by
  rw [Bool.eq_iff_iff, List.any_eq_true]
  simp only [Bool.and_eq_true, decide_eq_true_eq, beq_iff_eq]
  constructor
  · rintro ⟨j, hj, rfl⟩
    obtain ⟨h1, h2⟩ := mem_lowP.mp hj
    exact ⟨by omega, by omega, by simpa using h2⟩
  · rintro ⟨h1, h2, h3⟩
    exact ⟨pl.toNat, mem_lowP.mpr ⟨by omega, h3⟩, by omega⟩
theorem others_eq (x y : List Int) : PyData.none :: (lowP x y).map (fun (i : Nat) => PyData.int (i : Int)) = (othersP x y false).map optP := by
  unfold othersP
  rw [if_neg (by simp), List.map_append, List.map_map]
  rfl
theorem others_eqN (x y : List Int) : (lowP x y).map (fun (i : Nat) => PyData.int (i : Int)) = (othersP x y true).map optP := by
  unfold othersP
  rw [if_pos rfl, List.nil_append, List.map_map]
  rfl
theorem mem_others {x y : List Int} {nb : Bool} {o : Option Nat} (h : o ∈ othersP x y nb) {j : Nat} (e : o = some j) : j < x.length ∧ x.getD j 0 < y.getD j 0 := by
  subst e
  unfold othersP at h
  rcases List.mem_append.mp h with h | h
  · cases nb <;> simp at h
  · obtain ⟨k, hk, e⟩ := List.mem_map.mp h
    cases e
    exact mem_lowP.mp hk
theorem len_lowP (x y : List Int) : (lowP x y).length ≤ x.length := by
  unfold lowP
  have := List.length_filter_le (fun i => decide (x.getD i 0 < y.getD i 0)) (List.range x.length)
  rwa [List.length_range] at this
theorem len_others (x y : List Int) (nb : Bool) : (othersP x y nb).length ≤ 1 + x.length := by
  unfold othersP
  have := len_lowP x y
  rw [List.length_append, List.length_map]
  cases nb
  · show 1 + _ ≤ _; omega
  · show 0 + _ ≤ _; omega
end PyE

/-! PyP: middles: L hills hold the middles of any two of their points -/
namespace PyE
open PySem PySem.Spec PyProof.Rows
open L2
def midU (x y : List Int) : List Int := (x.zip y).map fun p => (p.1 + p.2 + 1) / 2
def midL (x y : List Int) : List Int := (x.zip y).map fun p => (p.1 + p.2) / 2
theorem bent_in {w : List Int} (hb : Bent w) : ∀ (k : Nat) {p q l u : Nat}, l - p ≤ k → p ≤ l → l + u = p + q → p ≤ u → l ≤ q → u ≤ q → q < w.length → l ≤ u → w.getD l 0 + w.getD u 0 ≤ w.getD p 0 + w.getD q 0 := by
  intro k
  induction k with
  | zero =>
    intro p q l u hk h1 h2 h3 h4 h5 h6 h7
    have : l = p := by omega
    have : u = q := by omega
    subst_vars
    exact Int.le_refl _
  | succ k ih =>
    intro p q l u hk h1 h2 h3 h4 h5 h6 h7
    by_cases e : l = p
    · have : u = q := by omega
      subst_vars
      exact Int.le_refl _
    · obtain ⟨q', rfl⟩ : ∃ q', q = q' + 1 := ⟨q - 1, by omega⟩
      have h8 := ih (p := p + 1) (q := q') (l := l) (u := u) (by omega) (by omega) (by omega) (by omega) (by omega) (by omega) (by omega) h7
      have h9 := bent_mono hb (p := p) (r := q') (by omega) (by omega)
      omega
/-- a bent row at two places between two others of the same sum -/
theorem bent_mid {w : List Int} (hb : Bent w) {c a b u l : Int} (ha : 0 ≤ a - c ∧ a - c < w.length) (hB : 0 ≤ b - c ∧ b - c < w.length) (hs : u + l = a + b) (h1 : a ≤ u ∧ u ≤ b ∨ b ≤ u ∧ u ≤ a) :
    (0 ≤ u - c ∧ u - c < w.length) ∧ (0 ≤ l - c ∧ l - c < w.length) ∧ w.getD (u - c).toNat 0 + w.getD (l - c).toNat 0 ≤ w.getD (a - c).toNat 0 + w.getD (b - c).toNat 0 := by
  refine ⟨by omega, by omega, ?_⟩
  have key : ∀ a b u l : Int, 0 ≤ a - c → b - c < w.length → u + l = a + b → a ≤ l → l ≤ u → u ≤ b → w.getD (u - c).toNat 0 + w.getD (l - c).toNat 0 ≤ w.getD (a - c).toNat 0 + w.getD (b - c).toNat 0 := fun a b u l h1 h2 h3 h4 h5 h6 => by
    have := bent_in hb (l - a).toNat (p := (a - c).toNat) (q := (b - c).toNat) (l := (l - c).toNat) (u := (u - c).toNat) (by omega) (by omega) (by omega) (by omega) (by omega) (by omega) (by omega) (by omega)
    omega
  rcases h1 with ⟨h1, h2⟩ | ⟨h1, h2⟩
  · by_cases h3 : l ≤ u
    · exact key a b u l (by omega) (by omega) hs (by omega) h3 (by omega)
    · have := key a b l u (by omega) (by omega) (by omega) (by omega) (by omega) (by omega)
      omega
  · by_cases h3 : l ≤ u
    · have := key b a u l (by omega) (by omega) (by omega) (by omega) h3 (by omega)
      omega
    · have := key b a l u (by omega) (by omega) (by omega) (by omega) (by omega) (by omega)
      omega
theorem boxL_cons {x : Int} {xs : List Int} {p : Int × Int} {r : List (Int × Int)} : (x :: xs) ∈ boxL (p :: r) ↔ (p.1 ≤ x ∧ x ≤ p.2) ∧ xs ∈ boxL r := by
  rw [mem_boxL, mem_boxL, List.zip_cons_cons, List.forall_mem_cons]
  simp only [List.length_cons, Nat.add_right_cancel_iff]
  constructor
  · rintro ⟨h1, h2, h3⟩; exact ⟨h2, h1, h3⟩
  · rintro ⟨h2, h1, h3⟩; exact ⟨h1, h2, h3⟩
theorem uval_cons {x : Int} {xs : List Int} {p : Int × Int} {r : List (Int × Int)} {w : List Int} {rows : List (List Int)} : uval (p :: r) (w :: rows) (x :: xs) = w.getD (x - p.1).toNat 0 + uval r rows xs := by
  unfold uval
  rw [List.map_cons, List.zip_cons_cons, List.zip_cons_cons, List.map_cons, List.sum_cons]
theorem box_mid : ∀ {prs : List (Int × Int)} {rows : List (List Int)} {x y : List Int}, rows.length = prs.length → (∀ q ∈ prs.zip rows, (q.2.length : Int) = q.1.2 - q.1.1 + 1 ∧ Bent q.2 ∧ Bq q.2) → x ∈ boxL prs → y ∈ boxL prs →
    midU x y ∈ boxL prs ∧ midL x y ∈ boxL prs ∧ uval prs rows (midU x y) + uval prs rows (midL x y) ≤ uval prs rows x + uval prs rows y
  | [], rows, x, y, hl, hr, hx, hy => by
    have : x = [] := by simpa [boxL] using hx
    subst this
    have : y = [] := by simpa [boxL] using hy
    subst this
    exact ⟨hx, hx, Int.le_refl _⟩
  | p :: r, rows, x, y, hl, hr, hx, hy => by
    cases rows with
    | nil => simp at hl
    | cons w rows =>
      cases x with
      | nil => have := (mem_boxL.mp hx).1; simp at this
      | cons a xs =>
        cases y with
        | nil => have := (mem_boxL.mp hy).1; simp at this
        | cons b ys =>
          rw [List.zip_cons_cons] at hr
          have hr0 : (w.length : Int) = p.2 - p.1 + 1 ∧ Bent w ∧ Bq w := hr (p, w) (List.mem_cons_self ..)
          obtain ⟨hx1, hx2⟩ := boxL_cons.mp hx
          obtain ⟨hy1, hy2⟩ := boxL_cons.mp hy
          obtain ⟨i1, i2, i3⟩ := box_mid (prs := r) (rows := rows) (x := xs) (y := ys) (by simpa using hl) (fun q hq => hr q (List.mem_cons_of_mem _ hq)) hx2 hy2
          have e1 : midU (a :: xs) (b :: ys) = (a + b + 1) / 2 :: midU xs ys := rfl
          have e2 : midL (a :: xs) (b :: ys) = (a + b) / 2 :: midL xs ys := rfl
          have hm := bent_mid (w := w) hr0.2.1 (c := p.1) (a := a) (b := b) (u := (a + b + 1) / 2) (l := (a + b) / 2) (by have := hr0.1; omega) (by have := hr0.1; omega) (by omega) (by omega)
          rw [e1, e2, boxL_cons, boxL_cons, uval_cons, uval_cons, uval_cons, uval_cons]
          refine ⟨⟨by omega, i1⟩, ⟨by omega, i2⟩, by have := hm.2.2; omega⟩
theorem mid_getD {x y : List Int} (h : x.length = y.length) {i : Nat} (hi : i < x.length) : (midU x y).getD i 0 = (x.getD i 0 + y.getD i 0 + 1) / 2 ∧ (midL x y).getD i 0 = (x.getD i 0 + y.getD i 0) / 2 := by
  unfold midU midL
  have hz : i < (x.zip y).length := by rw [List.length_zip]; omega
  constructor
  all_goals
    rw [List.getD_eq_getElem?_getD, List.getD_eq_getElem?_getD, List.getD_eq_getElem?_getD, List.getElem?_map, List.getElem?_eq_getElem hz, List.getElem?_eq_getElem hi, List.getElem?_eq_getElem (by omega : i < y.length), List.getElem_zip]
    rfl
def LMid (h : Hl) : Prop := ∀ p ∈ h, ∀ q ∈ h, ∃ u ∈ h, ∃ l ∈ h, u.1 = midU p.1 q.1 ∧ l.1 = midL p.1 q.1 ∧ u.2 + l.2 ≤ p.2 + q.2
theorem LHill.mid {n most : Nat} {h : Hl} (hL : LHill n most h) : LMid h := by
  obtain ⟨prs, rows, D, _, hbox, hrl, hrr, hD, rfl, _⟩ := hL
  intro p hp q hq
  obtain ⟨x, hx, rfl⟩ := List.mem_map.mp hp
  obtain ⟨y, hy, rfl⟩ := List.mem_map.mp hq
  obtain ⟨hx1, hx2⟩ := List.mem_filter.mp hx
  obtain ⟨hy1, hy2⟩ := List.mem_filter.mp hy
  have lx := box_dim hbox hx1
  have ly := box_dim hbox hy1
  obtain ⟨i1, i2, i3⟩ := box_mid (by rw [hrl, hbox.len]) hrr hx1 hy1
  have hd : ∀ t ∈ D, (dIn t (midU x y) = true ∧ dIn t (midL x y) = true) ∧ t.2.2.2.getD (dAt t (midU x y)).toNat 0 + t.2.2.2.getD (dAt t (midL x y)).toNat 0 ≤ t.2.2.2.getD (dAt t x).toNat 0 + t.2.2.2.getD (dAt t y).toNat 0 := fun t ht => by
    obtain ⟨h1, h2, h3, _⟩ := hD t ht
    have dx := of_decide_eq_true (List.all_eq_true.mp hx2 t ht)
    have dy := of_decide_eq_true (List.all_eq_true.mp hy2 t ht)
    have m1 := mid_getD (lx.trans ly.symm) (i := t.1) (by omega)
    have m2 := mid_getD (lx.trans ly.symm) (i := t.2.1) (by omega)
    unfold dAt at dx dy
    have := bent_mid h3 (c := t.2.2.1) (a := x.getD t.1 0 - x.getD t.2.1 0) (b := y.getD t.1 0 - y.getD t.2.1 0) (u := (midU x y).getD t.1 0 - (midU x y).getD t.2.1 0) (l := (midL x y).getD t.1 0 - (midL x y).getD t.2.1 0) dx dy (by rw [m1.1, m1.2, m2.1, m2.2]; omega) (by rw [m1.1, m2.1]; omega)
    exact ⟨⟨decide_eq_true this.1, decide_eq_true this.2.1⟩, this.2.2⟩
  refine ⟨(midU x y, lval prs rows D (midU x y)), List.mem_map.mpr ⟨_, List.mem_filter.mpr ⟨i1, List.all_eq_true.mpr fun t ht => (hd t ht).1.1⟩, rfl⟩, (midL x y, lval prs rows D (midL x y)), List.mem_map.mpr ⟨_, List.mem_filter.mpr ⟨i2, List.all_eq_true.mpr fun t ht => (hd t ht).1.2⟩, rfl⟩, rfl, rfl, ?_⟩
  have hs := sum_le2 (f := fun t : Duo => t.2.2.2.getD (dAt t (midU x y)).toNat 0) (g := fun t : Duo => t.2.2.2.getD (dAt t (midL x y)).toNat 0) (f' := fun t : Duo => t.2.2.2.getD (dAt t x).toNat 0) (g' := fun t : Duo => t.2.2.2.getD (dAt t y).toNat 0) (l := D) fun t ht => (hd t ht).2
  unfold lval
  simp only
  omega
/-! ### breaks of the L kind, plainly -/
def fairU (h : Hl) (u l : List Int) (s : Int) : Bool := match look h u, look h l with
  | some a, some b => decide (a + b ≤ s)
  | _, _ => false
def lbq (h : Hl) (x y : List Int) : Option (List Int × List Int) := if fairU h (midU x y) (midL x y) ((look h x).getD 0 + (look h y).getD 0) = true then none else some (x, y)
def lbk (h : Hl) (z : List Int × Nat) : Option (List Int × List Int) := ((h.map (·.1)).drop (z.2 + 1)).findSome? (lbq h z.1)
def lbrk (h : Hl) : Option (List Int × List Int) := (h.map (·.1)).zipIdx.findSome? (lbk h)
def lbP (r : List Int × List Int) : PyData := .tuple [pt r.1, pt r.2]
def olbP : Option (List Int × List Int) → PyData
  | none => .none
  | some r => lbP r
theorem LMid.lbrk {h : Hl} (hn : (h.map (·.1)).Nodup) (hM : LMid h) : lbrk h = none := by
  unfold PyE.lbrk
  rw [List.findSome?_eq_none_iff]
  intro z hz
  unfold lbk
  rw [List.findSome?_eq_none_iff]
  intro y hy
  have hx : z.1 ∈ h.map (·.1) := by
    obtain ⟨_, _, e⟩ := List.mem_zipIdx hz
    rw [e]; exact List.getElem_mem _
  obtain ⟨p, hp, e1⟩ := List.mem_map.mp hx
  obtain ⟨q, hq, rfl⟩ := List.mem_map.mp (List.mem_of_mem_drop hy)
  obtain ⟨u, hu, l, hl, eu, el, hle⟩ := hM p hp q hq
  unfold lbq
  rw [if_pos]
  unfold fairU
  rw [← e1, ← eu, ← el, look_some hn (x := u.1) (w := u.2) hu, look_some hn (x := l.1) (w := l.2) hl, look_some hn (x := p.1) (w := p.2) hp, look_some hn (x := q.1) (w := q.2) hq]
  exact decide_eq_true hle
end PyE

/-! PyP: lines of forty-one points: none of their middles is lacking, but where one is raised -/
namespace PyE
open PySem PySem.Spec PyProof.Rows
open L2
def sh (a : Int) (x : List Int) : List Int := x.map (· + a)
def shH (a c : Int) (h : Hl) : Hl := h.map fun q => (sh a q.1, q.2 + c)
theorem sh_inj {a : Int} {x y : List Int} (h : sh a x = sh a y) : x = y := by
  unfold sh at h
  exact List.map_inj_right (fun u v e => by omega) |>.mp h
theorem sh_mid (a : Int) : ∀ (x y : List Int), midU (sh a x) (sh a y) = sh a (midU x y) ∧ midL (sh a x) (sh a y) = sh a (midL x y)
  | [], _ => by simp [midU, midL, sh]
  | _ :: _, [] => by simp [midU, midL, sh]
  | u :: x, v :: y => by
    obtain ⟨h1, h2⟩ := sh_mid a x y
    have e1 : midU (sh a (u :: x)) (sh a (v :: y)) = (u + a + (v + a) + 1) / 2 :: midU (sh a x) (sh a y) := rfl
    have e2 : midL (sh a (u :: x)) (sh a (v :: y)) = (u + a + (v + a)) / 2 :: midL (sh a x) (sh a y) := rfl
    have e3 : sh a (midU (u :: x) (v :: y)) = ((u + v + 1) / 2 + a) :: sh a (midU x y) := rfl
    have e4 : sh a (midL (u :: x) (v :: y)) = ((u + v) / 2 + a) :: sh a (midL x y) := rfl
    rw [e1, e2, e3, e4, h1, h2]
    exact ⟨by congr 1; omega, by congr 1; omega⟩
theorem sh_look {a c : Int} {h : Hl} {x : List Int} : look (shH a c h) (sh a x) = (look h x).map (· + c) := by
  unfold look shH
  induction h with
  | nil => rfl
  | cons p h ih =>
    rw [List.map_cons, List.find?_cons, List.find?_cons]
    by_cases e : p.1 = x
    · rw [decide_eq_true e, decide_eq_true (show sh a p.1 = sh a x by rw [e])]
      rfl
    · rw [decide_eq_false e, decide_eq_false (show ¬ sh a p.1 = sh a x from fun z => e (sh_inj z))]
      exact ih
theorem sh_fair {a c : Int} {h : Hl} {u l : List Int} {s : Int} : fairU (shH a c h) (sh a u) (sh a l) (s + (c + c)) = fairU h u l s := by
  unfold fairU
  rw [sh_look, sh_look]
  cases look h u with
  | none => rfl
  | some p =>
    cases look h l with
    | none => rfl
    | some q =>
      show decide (p + c + (q + c) ≤ s + (c + c)) = decide (p + q ≤ s)
      by_cases e : p + q ≤ s
      · rw [decide_eq_true e, decide_eq_true (by omega)]
      · rw [decide_eq_false e, decide_eq_false (by omega)]
def shR (a : Int) (r : List Int × List Int) : List Int × List Int := (sh a r.1, sh a r.2)
theorem sh_lbq {a c : Int} {h : Hl} {x y : List Int} (hx : x ∈ h.map (·.1)) (hy : y ∈ h.map (·.1)) : lbq (shH a c h) (sh a x) (sh a y) = (lbq h x y).map (shR a) := by
  obtain ⟨wx, ex⟩ := Option.isSome_iff_exists.mp (look_isSome.mpr hx)
  obtain ⟨wy, ey⟩ := Option.isSome_iff_exists.mp (look_isSome.mpr hy)
  unfold lbq
  rw [(sh_mid a x y).1, (sh_mid a x y).2, sh_look, sh_look, ex, ey]
  show (if fairU (shH a c h) (sh a (midU x y)) (sh a (midL x y)) (wx + c + (wy + c)) = true then none else some (sh a x, sh a y)) = _
  rw [show wx + c + (wy + c) = wx + wy + (c + c) by omega, sh_fair]
  show _ = (if fairU h (midU x y) (midL x y) (wx + wy) = true then none else some (x, y)).map (shR a)
  split <;> rfl
theorem findSome_map {α β γ : Type} (f : α → Option β) (g : β → γ) : ∀ (l : List α), (l.findSome? f).map g = l.findSome? fun x => (f x).map g
  | [] => rfl
  | x :: l => by
    rw [List.findSome?_cons, List.findSome?_cons]
    cases f x with
    | none => exact findSome_map f g l
    | some y => rfl
theorem findSome_congr {α β : Type} {f g : α → Option β} : ∀ {l : List α}, (∀ x ∈ l, f x = g x) → l.findSome? f = l.findSome? g
  | [], _ => rfl
  | x :: l, h => by
    rw [List.findSome?_cons, List.findSome?_cons, h x (List.mem_cons_self ..), findSome_congr fun y hy => h y (List.mem_cons_of_mem _ hy)]
theorem sh_keys {a c : Int} {h : Hl} : (shH a c h).map (·.1) = (h.map (·.1)).map (sh a) := by
  unfold shH
  rw [List.map_map, List.map_map]
  rfl
theorem sh_lbrk {a c : Int} {h : Hl} : lbrk (shH a c h) = (lbrk h).map (shR a) := by
  unfold lbrk
  rw [findSome_map, sh_keys, List.zipIdx_map, List.findSome?_map]
  refine findSome_congr fun z hz => ?_
  have hx : z.1 ∈ h.map (·.1) := by
    obtain ⟨_, _, e⟩ := List.mem_zipIdx hz
    rw [e]; exact List.getElem_mem _
  show lbk (shH a c h) (sh a z.1, z.2) = (lbk h z).map (shR a)
  unfold lbk
  rw [findSome_map, sh_keys, ← List.map_drop, List.findSome?_map]
  refine findSome_congr fun y hy => ?_
  exact sh_lbq hx (List.mem_of_mem_drop hy)
/-- worths of the line, from 0 -/
def wt (t : Int) : Int := (t * t - 41 * t) / 2
def line0 : Hl := (List.range 41).map fun (t : Nat) => ([(t : Int)], wt t)
def bent0 (s : Nat) : Hl := line0.take s ++ [([(s : Int)], wt s + 1)] ++ line0.drop (s + 1)
theorem wt_next (t : Int) : wt (t + 1) = wt t + (t - 20) := by
  unfold wt
  have : (t + 1) * (t + 1) - 41 * (t + 1) = (t * t - 41 * t) + 2 * (t - 20) := by
    rw [Int.add_mul, Int.mul_add, Int.mul_add]
    omega
  rw [this]
  omega
theorem shaped_pts (l : List (List Int)) : SeqAt.shaped (.list (l.map pt)) = true := by
  have h := (shaped_H (l.map fun x => (x, 0))).1
  have hi : ∀ ns : List Int, PyData.canLayAll0 (ns.map PyData.int) = true ∧ PyData.depthAll (ns.map PyData.int) = 0 := by
    intro ns
    induction ns with
    | nil => exact ⟨rfl, rfl⟩
    | cons n r ih => exact ⟨by simp only [List.map_cons, PyData.canLayAll0, PyData.canLay0, ih.1, Bool.and_self], by simp only [List.map_cons, PyData.depthAll, PyData.depth, ih.2]; rfl⟩
  have hp : ∀ l : List (List Int), PyData.canLayAll0 (l.map pt) = true ∧ PyData.depthAll (l.map pt) ≤ 2 := by
    intro h
    induction h with
    | nil => exact ⟨rfl, Nat.zero_le _⟩
    | cons p r ih =>
      refine ⟨?_, ?_⟩
      · simp only [List.map_cons, PyData.canLayAll0, PyData.canLay0, ih.1, (hi p).1, Bool.and_self]
      · have := ih.2
        simp only [List.map_cons, PyData.depthAll, PyData.depth, (hi p).2]
        omega
  have := hp l
  unfold SeqAt.shaped
  simp only [PyData.canLay0, PyData.depth, this.1, Bool.true_and]
  exact decide_eq_true (by omega)
end PyE

/-! PyP: equations of t.index(k) -/
namespace PyE
open PySem PySem.Spec PyProof.Rows
open L2
theorem ev_ixm {f : Ev Rv} {fs : List (Ev Rv)} {m : Sm} : ixmE f fs m = Res.bind (f m) (ixmK fs) := rfl
theorem ev_ixmK {xs : List PyData} {fs : List (Ev Rv)} {m : Sm} : ixmK fs (.d (.tuple xs)) m = Res.bind (argsD fs m) (ixmO xs) := rfl
theorem ev_ixmO {xs ds : List PyData} {m : Sm} : ixmO xs ds m = fin1 (idxT xs ds) m := rfl
theorem idxT_ints {ns : List Int} {k : Int} (h : k ∈ ns) : idxT (ns.map .int) [.int k] = some (.d (.int (ns.idxOf k : Nat))) := by
  show (match intsOf (ns.map .int) with
    | some ns => if k ∈ ns then some (Rv.d (.int (ns.idxOf k : Nat))) else none
    | none => none) = _
  rw [intsOf_map]
  show (if k ∈ ns then some (Rv.d (.int (ns.idxOf k : Nat))) else none) = _
  rw [if_pos h]
/-! ### loops that may raise -/
inductive GoEx (P : Sm → Prop) (e : Ex) : Bool → Res Fo → Prop
  | nx {m : Sm} : P m → GoEx P e false (.ok .nx m)
  | ex {m : Sm} : P m → GoEx P e true (.ex e m)
theorem forL_ex {γ : Type} {t : Tg} {g : Sf} {q : γ → PyData} (P : Sm → Prop) (e : Ex) (c : γ → Bool) : ∀ {L : List γ} {m : Sm}, P m → (∀ x ∈ L, ∀ m, P m → GoEx P e (c x) (bodyO g (t (q x) m))) →
    (L.any c = false ∧ ∃ m', forL t g (L.map q) m = .ok .nx m' ∧ P m') ∨ (L.any c = true ∧ ∃ m', forL t g (L.map q) m = .ex e m' ∧ P m')
  | [], m, p, _ => .inl ⟨rfl, m, rfl, p⟩
  | x :: L, m, p, h => by
    have z := h x (List.mem_cons_self ..) m p
    rw [List.map_cons, forL_cons, List.any_cons]
    generalize bodyO g (t (q x) m) = r at z
    generalize c x = o at z
    cases z with
    | nx p1 =>
      rw [eb_ok, ev_forT_nx, Bool.false_or]
      exact forL_ex P e c p1 fun y hy => h y (List.mem_cons_of_mem _ hy)
    | ex p1 =>
      rw [eb_ex]
      exact .inr ⟨rfl, _, rfl, p1⟩
end PyE

/-! PyP: how great the worths of drawn hills are -/
namespace PyE
open PySem PySem.Spec PyProof.Rows
open L2
theorem ev_isi {T : String} {f : Ev Rv} {m : Sm} : isiE T f m = Res.bind (f m) (o1a (isiD T)) := rfl
theorem sum_nn (f : Nat → Int) (hf : ∀ i, 0 ≤ f i) : ∀ (l : List Nat), 0 ≤ (l.map f).sum
  | [] => by simp
  | i :: l => by have := sum_nn f hf l; have := hf i; simp only [List.map_cons, List.sum_cons]; omega
theorem sum_nodup_le (f : Nat → Int) (hf : ∀ i, 0 ≤ f i) : ∀ (l L : List Nat), l.Nodup → (∀ i ∈ l, i ∈ L) → (l.map f).sum ≤ (L.map f).sum
  | [], L, _, _ => sum_nn f hf L
  | i :: l, L, hn, hs => by
    obtain ⟨a, b, rfl⟩ := List.append_of_mem (hs i (List.mem_cons_self ..))
    have ih := sum_nodup_le f hf l (a ++ b) (List.nodup_cons.mp hn).2 (fun j hj => by
      have := hs j (List.mem_cons_of_mem _ hj)
      rcases List.mem_append.mp this with h | h
      · exact List.mem_append.mpr (.inl h)
      · rcases List.mem_cons.mp h with h | h
        · subst h; exact absurd hj (List.nodup_cons.mp hn).1
        · exact List.mem_append.mpr (.inr h))
    simp only [List.map_cons, List.sum_cons, List.map_append, List.sum_append] at ih ⊢
    omega
theorem range_getDw (w : List Int) : (List.range w.length).map (fun i => w.getD i 0) = w := by
  refine List.ext_getElem (by simp) fun i h1 h2 => ?_
  simp [List.getD_eq_getElem?_getD, h2]
def sidesB (prs : List (Int × Int)) : List Int := prs.map fun p => p.2 - p.1
def capS : Nat → Int
  | 1 => 8
  | 4 => 4
  | _ => 6
theorem sides2 : ∀ a : Fin 6, ∀ b : Fin 6, a.val * (b.val * 1) ≤ 16 → a.val + b.val ≤ 8 := by decide
theorem sides3 : ∀ a : Fin 5, ∀ b : Fin 5, ∀ c : Fin 5, 1 ≤ a.val → 1 ≤ b.val → 1 ≤ c.val → a.val * (b.val * (c.val * 1)) ≤ 16 → a.val + b.val + c.val ≤ 9 := by decide
theorem sides4 : ∀ a : Fin 4, ∀ b : Fin 4, ∀ c : Fin 4, ∀ d : Fin 4, 1 ≤ a.val → 1 ≤ b.val → 1 ≤ c.val → 1 ≤ d.val → a.val * (b.val * (c.val * (d.val * 1))) ≤ 16 → a.val + b.val + c.val + d.val ≤ 8 := by decide +kernel
theorem sides_le {n most : Nat} {prs : List (Int × Int)} (hb : BoxOk n most prs) (hn : 1 ≤ n) (hn4 : n ≤ 4) (hm : most ≤ 16) : (sidesB prs).sum ≤ capS n := by
  have hl := hb.len
  have hf := hb.few
  rcases (show n = 1 ∨ n = 2 ∨ n = 3 ∨ n = 4 by omega) with rfl | rfl | rfl | rfl
  · match prs, hl with
    | [p], _ =>
      have := hb.cap p (by simp)
      simp only [sidesB, List.map_cons, List.map_nil, List.sum_cons, List.sum_nil, capS, capN] at *
      omega
  · match prs, hl with
    | [p, q], _ =>
      have h1 := hb.cap p (by simp)
      have h2 := hb.cap q (by simp)
      have g1 := hb.bd p (by simp)
      have g2 := hb.bd q (by simp)
      simp only [boxN] at hf
      simp only [sidesB, List.map_cons, List.map_nil, List.sum_cons, List.sum_nil, capS, capN] at *
      have := sides2 ⟨(p.2 + 1 - p.1).toNat, by omega⟩ ⟨(q.2 + 1 - q.1).toNat, by omega⟩ (Nat.le_trans hf hm)
      simp only at this
      omega
  · match prs, hl with
    | [p, q, r], _ =>
      have h1 := hb.cap p (by simp)
      have h2 := hb.cap q (by simp)
      have h3 := hb.cap r (by simp)
      have g1 := hb.bd p (by simp)
      have g2 := hb.bd q (by simp)
      have g3 := hb.bd r (by simp)
      simp only [boxN] at hf
      simp only [sidesB, List.map_cons, List.map_nil, List.sum_cons, List.sum_nil, capS, capN] at *
      have := sides3 ⟨(p.2 + 1 - p.1).toNat, by omega⟩ ⟨(q.2 + 1 - q.1).toNat, by omega⟩ ⟨(r.2 + 1 - r.1).toNat, by omega⟩ (by simp only; omega) (by simp only; omega) (by simp only; omega) (Nat.le_trans hf hm)
      simp only at this
      omega
  · match prs, hl with
    | [p, q, r, s], _ =>
      have h1 := hb.cap p (by simp)
      have h2 := hb.cap q (by simp)
      have h3 := hb.cap r (by simp)
      have h4 := hb.cap s (by simp)
      have g1 := hb.bd p (by simp)
      have g2 := hb.bd q (by simp)
      have g3 := hb.bd r (by simp)
      have g4 := hb.bd s (by simp)
      simp only [boxN] at hf
      simp only [sidesB, List.map_cons, List.map_nil, List.sum_cons, List.sum_nil, capS, capN] at *
      have := sides4 ⟨(p.2 + 1 - p.1).toNat, by omega⟩ ⟨(q.2 + 1 - q.1).toNat, by omega⟩ ⟨(r.2 + 1 - r.1).toNat, by omega⟩ ⟨(s.2 + 1 - s.1).toNat, by omega⟩ (by simp only; omega) (by simp only; omega) (by simp only; omega) (by simp only; omega) (Nat.le_trans hf hm)
      simp only at this
      omega
theorem sides_at {prs : List (Int × Int)} (i : Nat) : (sidesB prs).getD i 0 = (prs.map (·.2)).getD i 0 - (prs.map (·.1)).getD i 0 := by
  unfold sidesB
  simp only [List.getD_eq_getElem?_getD, List.getElem?_map]
  cases prs[i]? <;> simp
theorem sides_nn {n most : Nat} {prs : List (Int × Int)} (hb : BoxOk n most prs) (i : Nat) : 0 ≤ (sidesB prs).getD i 0 := by
  by_cases hi : i < n
  · rw [sides_at]; have := box_lohi hb hi; omega
  · rw [List.getD_eq_getElem?_getD, List.getElem?_eq_none (by unfold sidesB; rw [List.length_map, hb.len]; omega)]
    exact Int.le_refl _
theorem sides_lot {n most : Nat} {prs : List (Int × Int)} (hb : BoxOk n most prs) (hn : 1 ≤ n) (hn4 : n ≤ 4) (hm : most ≤ 16) {l : List Nat} (h1 : l.Nodup) (h2 : ∀ i ∈ l, i < n) : sumAt (sidesB prs) l ≤ capS n := by
  have h3 := sum_nodup_le (fun i => (sidesB prs).getD i 0) (sides_nn hb) l (List.range n) h1 (fun i hi => List.mem_range.mpr (h2 i hi))
  have h4 : ((List.range n).map fun i => (sidesB prs).getD i 0) = sidesB prs := by
    have := range_getDw (sidesB prs)
    rwa [show (sidesB prs).length = n by unfold sidesB; rw [List.length_map, hb.len]] at this
  rw [h4] at h3
  exact Int.le_trans h3 (sides_le hb hn hn4 hm)
theorem sumAt_sides {n most : Nat} {prs : List (Int × Int)} (hb : BoxOk n most prs) {x : List Int} (hx : x ∈ boxL prs) : ∀ {l : List Nat}, (∀ i ∈ l, i < n) → sumAt x l - sumAt (prs.map (·.1)) l ≤ sumAt (sidesB prs) l
  | [], _ => by simp [sumAt]
  | i :: l, h => by
    have ih := sumAt_sides hb hx (l := l) fun j hj => h j (List.mem_cons_of_mem _ hj)
    have h1 := box_at hx (i := i) (by rw [hb.len]; exact h i (List.mem_cons_self ..))
    rw [sumAt_cons, sumAt_cons, sumAt_cons, sides_at]
    omega
theorem qb_at {w : List Int} (h : Qb w) {k B : Int} (hk : k ≤ B) (hB : 0 ≤ B) {C : Int} (h1 : 6 + B * B ≤ C) (h2 : 4 + 4 * B ≤ C) : -C ≤ w.getD k.toNat 0 ∧ w.getD k.toNat 0 ≤ C := by
  have h3 := h k.toNat
  have h4 : (k.toNat : Int) ≤ B := by omega
  have h5 : (k.toNat : Int) * (k.toNat : Int) ≤ B * B := Int.mul_le_mul h4 h4 (by omega) (by omega)
  omega
theorem box_bd11 {n most : Nat} {prs : List (Int × Int)} (hb : BoxOk n most prs) {x : List Int} (hx : x ∈ boxL prs) : Bd 11 x := fun z hz => by
  obtain ⟨i, hi, rfl⟩ := List.getElem_of_mem hz
  have hi' : i < prs.length := by rw [← (mem_boxL.mp hx).1]; exact hi
  have := box_at hx hi'
  rw [List.getD_eq_getElem?_getD, List.getD_eq_getElem?_getD, List.getD_eq_getElem?_getD, List.getElem?_map, List.getElem?_map, List.getElem?_eq_getElem hi, List.getElem?_eq_getElem hi'] at this
  have h2 := hb.bd prs[i] (List.getElem_mem _)
  simp only [Option.map_some, Option.getD_some] at this
  omega
theorem mul_le_k {a b k C : Int} (h1 : b ≤ k) (h2 : 0 ≤ a) (h3 : a * k ≤ C) : a * b ≤ C := Int.le_trans (Int.mul_le_mul_of_nonneg_left h1 h2) h3
theorem MHill.inn {n most : Nat} {h : Hl} (H : MHill n most h) (hn : 1 ≤ n) (hn4 : n ≤ 4) (hm : most ≤ 16) : HillIn 11 400 most h := by
  obtain ⟨prs, T, k, b, hbox, hL, hT, rfl, _⟩ := H
  refine ⟨?_, fun p hp => ?_, fun p hp => ?_⟩
  · have h1 := List.length_filter_le (fun p : List Int × Int => keepM k b p.1) ((boxL prs).map fun x => (x, mval T x))
    rw [List.length_map, boxL_length] at h1
    have := hbox.few
    omega
  all_goals
    obtain ⟨x, hx, rfl⟩ := List.mem_map.mp (List.mem_filter.mp hp).1
  · exact box_bd11 hbox hx
  · have hfew : (T.length : Int) ≤ n + 3 := by have := hL.few; rw [List.length_map] at this; omega
    have hS : 4 ≤ capS n ∧ capS n ≤ 8 := by rcases (show n = 1 ∨ n = 2 ∨ n = 3 ∨ n = 4 by omega) with rfl | rfl | rfl | rfl <;> decide
    have key : ∀ C : Int, 6 + capS n * capS n ≤ C → 4 + 4 * capS n ≤ C → ∀ t ∈ T, -C ≤ t.2.2.getD (sumAt x t.1 - t.2.1).toNat 0 ∧ t.2.2.getD (sumAt x t.1 - t.2.1).toNat 0 ≤ C := fun C h1 h2 t ht => by
      obtain ⟨e, _, _, hq⟩ := hT t ht
      have hl := hL.nod t.1 (List.mem_map_of_mem ht)
      have h3 := sumAt_sides hbox hx hl.2
      have h4 := sides_lot hbox hn hn4 hm hl.1 hl.2
      exact qb_at hq.2 (B := capS n) (by rw [e]; omega) (by omega) h1 h2
    simp only
    unfold mval
    rcases (show n = 1 ∨ n = 2 ∨ n = 3 ∨ n = 4 by omega) with rfl | rfl | rfl | rfl
    · have := sum_bd (B := 70) (by omega) (fun t : Tab => t.2.2.getD (sumAt x t.1 - t.2.1).toNat 0) (l := T) (key 70 (by decide) (by decide)); omega
    · have := sum_bd (B := 42) (by omega) (fun t : Tab => t.2.2.getD (sumAt x t.1 - t.2.1).toNat 0) (l := T) (key 42 (by decide) (by decide)); omega
    · have := sum_bd (B := 42) (by omega) (fun t : Tab => t.2.2.getD (sumAt x t.1 - t.2.1).toNat 0) (l := T) (key 42 (by decide) (by decide)); omega
    · have := sum_bd (B := 22) (by omega) (fun t : Tab => t.2.2.getD (sumAt x t.1 - t.2.1).toNat 0) (l := T) (key 22 (by decide) (by decide)); omega
theorem LHill.inn {n most : Nat} {h : Hl} (H : LHill n most h) (hn : 1 ≤ n) (hn4 : n ≤ 4) (hm : most ≤ 16) : HillIn 11 400 most h := by
  obtain ⟨prs, rows, D, hD, hbox, hrl, hrr, hDD, rfl, _⟩ := H
  refine ⟨?_, fun p hp => ?_, fun p hp => ?_⟩
  · have h1 := List.length_filter_le (fun x => D.all fun t => dIn t x) (boxL prs)
    rw [boxL_length] at h1
    have := hbox.few
    rw [List.length_map]
    omega
  all_goals
    obtain ⟨x, hx, rfl⟩ := List.mem_map.mp hp
    have hx := (List.mem_filter.mp hx).1
  · exact box_bd11 hbox hx
  · have hS : 4 ≤ capS n ∧ capS n ≤ 8 := by rcases (show n = 1 ∨ n = 2 ∨ n = 3 ∨ n = 4 by omega) with rfl | rfl | rfl | rfl <;> decide
    have hN : 3 ≤ capN n ∧ capN n ≤ 9 := by rcases (show n = 1 ∨ n = 2 ∨ n = 3 ∨ n = 4 by omega) with rfl | rfl | rfl | rfl <;> decide
    have keyU : ∀ C : Int, 6 + (capN n - 1) * (capN n - 1) ≤ C → 4 + 4 * (capN n - 1) ≤ C → ∀ z ∈ x.zip ((prs.map (·.1)).zip rows), -C ≤ z.2.2.getD (z.1 - z.2.1).toNat 0 ∧ z.2.2.getD (z.1 - z.2.1).toNat 0 ≤ C := fun C h1 h2 z hz => by
      obtain ⟨h3, h4, q, hq, e⟩ := uval_at (fun q hq => (hrr q hq).1) hx hz
      have h5 := hrr q hq
      have h6 := hbox.cap q.1 (List.of_mem_zip hq).1
      rw [e] at h5
      exact qb_at h5.2.2.2 (B := capN n - 1) (by omega) (by omega) h1 h2
    have keyD : ∀ C : Int, 6 + (capS n + 3) * (capS n + 3) ≤ C → 4 + 4 * (capS n + 3) ≤ C → ∀ t ∈ D, -C ≤ t.2.2.2.getD (dAt t x).toNat 0 ∧ t.2.2.2.getD (dAt t x).toNat 0 ≤ C := fun C h1 h2 t ht => by
      obtain ⟨k1, k2, _, hq, k3⟩ := hDD t ht
      have b1 := box_at hx (i := t.1) (by rw [hbox.len]; omega)
      have b2 := box_at hx (i := t.2.1) (by rw [hbox.len]; omega)
      have h4 := sides_lot hbox hn hn4 hm (l := [t.1, t.2.1]) (by simp; omega) (by simp; omega)
      rw [sumAt_cons, sumAt_cons, sides_at, sides_at] at h4
      simp only [sumAt, List.map_nil, List.sum_nil] at h4
      exact qb_at hq.2 (B := capS n + 3) (by unfold dAt; omega) (by omega) h1 h2
    have hlen : ((x.zip ((prs.map (·.1)).zip rows)).length : Int) ≤ n := by rw [List.length_zip, box_dim hbox hx]; omega
    simp only
    unfold lval uval
    rcases (show n = 1 ∨ n = 2 ∨ n = 3 ∨ n = 4 by omega) with rfl | rfl | rfl | rfl
    · have h1 := sum_bd (B := 70) (by omega) (fun q : Int × Int × List Int => q.2.2.getD (q.1 - q.2.1).toNat 0) (l := x.zip ((prs.map (·.1)).zip rows)) (keyU 70 (by decide) (by decide))
      have h2 := sum_bd (B := 127) (by omega) (fun t : Duo => t.2.2.2.getD (dAt t x).toNat 0) (l := D) (keyD 127 (by decide) (by decide))
      simp only [tri] at hD
      omega
    · have h1 := sum_bd (B := 22) (by omega) (fun q : Int × Int × List Int => q.2.2.getD (q.1 - q.2.1).toNat 0) (l := x.zip ((prs.map (·.1)).zip rows)) (keyU 22 (by decide) (by decide))
      have h2 := sum_bd (B := 87) (by omega) (fun t : Duo => t.2.2.2.getD (dAt t x).toNat 0) (l := D) (keyD 87 (by decide) (by decide))
      simp only [tri] at hD
      omega
    · have h1 := sum_bd (B := 16) (by omega) (fun q : Int × Int × List Int => q.2.2.getD (q.1 - q.2.1).toNat 0) (l := x.zip ((prs.map (·.1)).zip rows)) (keyU 16 (by decide) (by decide))
      have h2 := sum_bd (B := 87) (by omega) (fun t : Duo => t.2.2.2.getD (dAt t x).toNat 0) (l := D) (keyD 87 (by decide) (by decide))
      simp only [tri] at hD
      omega
    · have h1 := sum_bd (B := 12) (by omega) (fun q : Int × Int × List Int => q.2.2.getD (q.1 - q.2.1).toNat 0) (l := x.zip ((prs.map (·.1)).zip rows)) (keyU 12 (by decide) (by decide))
      have h2 := sum_bd (B := 55) (by omega) (fun t : Duo => t.2.2.2.getD (dAt t x).toNat 0) (l := D) (keyD 55 (by decide) (by decide))
      simp only [tri] at hD
      omega
end PyE

/-! PyP: M hills turned, kept in boxes; points least near by; lines -/
namespace PyE
open PySem PySem.Spec PyProof.Rows
open L2
theorem brk_MEx {n : Nat} {h : Hl} (hd : ∀ p ∈ h, p.1.length = n) (hn : (h.map (·.1)).Nodup) (hb : PyE.brk h false none = none) : MEx n h := by
  intro p hp q hq i hi hlt
  have lp := hd p hp
  have lq := hd q hq
  have hi' : i ∈ lowP q.1 p.1 := mem_lowP.mpr ⟨by omega, hlt⟩
  have h1 := brk_ex hb (List.mem_map_of_mem (f := (·.1)) hp) (List.mem_map_of_mem (f := (·.1)) hq) hi'
  obtain ⟨o, ho⟩ := List.exists_mem_of_ne_nil _ h1
  obtain ⟨ho1, ho2⟩ := List.mem_filter.mp ho
  unfold fair fairW at ho2
  rw [look_some hn (x := p.1) (w := p.2) hp, look_some hn (x := q.1) (w := q.2) hq] at ho2
  cases e1 : look h (chgO p.1 (some i) o) with
  | none => rw [e1] at ho2; cases ho2
  | some a =>
    cases e2 : look h (chgO q.1 o (some i)) with
    | none => rw [e1, e2] at ho2; cases ho2
    | some b =>
      rw [e1, e2] at ho2
      have hle : a + b ≤ p.2 + q.2 := of_decide_eq_true ho2
      cases o with
      | none => exact .inl ⟨_, look_mem e1, _, look_mem e2, rfl, rfl, hle⟩
      | some j =>
        have hj := mem_others ho1 rfl
        have hne : j ≠ i := fun e => by subst e; omega
        refine .inr ⟨j, by omega, hj.2, _, look_mem e1, _, look_mem e2, rfl, ?_, hle⟩
        show bump (bump q.1 j (-1)) i 1 = _
        exact bump_comm hne
theorem brk_iff {n : Nat} {h : Hl} (hd : ∀ p ∈ h, p.1.length = n) (hn : (h.map (·.1)).Nodup) : PyE.brk h false none = none ↔ MEx n h := ⟨brk_MEx hd hn, MEx.brk hd hn⟩
theorem MEx.perm {n : Nat} {h h' : Hl} (hM : MEx n h) (p : h.Perm h') : MEx n h' := fun a ha b hb i hi hlt => by
  rcases hM a (p.mem_iff.mpr ha) b (p.mem_iff.mpr hb) i hi hlt with ⟨p', hp', q', hq', r⟩ | ⟨j, hj, hl, p', hp', q', hq', r⟩
  · exact .inl ⟨p', p.mem_iff.mp hp', q', p.mem_iff.mp hq', r⟩
  · exact .inr ⟨j, hj, hl, p', p.mem_iff.mp hp', q', p.mem_iff.mp hq', r⟩
theorem MEx.worth {n : Nat} {h : Hl} (hM : MEx n h) (hd : ∀ p ∈ h, p.1.length = n) (L : List Int → Int) (c : Nat → Int) (hL : ∀ x i d, x.length = n → i < n → L (bump x i d) = L x + d * c i) : MEx n (h.map fun q => (q.1, q.2 + L q.1)) := by
  intro p hp q hq i hi hlt
  obtain ⟨p, hp1, rfl⟩ := List.mem_map.mp hp
  obtain ⟨q, hq1, rfl⟩ := List.mem_map.mp hq
  have lp := hd p hp1
  have lq := hd q hq1
  rcases hM p hp1 q hq1 i hi hlt with ⟨p', hp', q', hq', e1, e2, hle⟩ | ⟨j, hj, hl, p', hp', q', hq', e1, e2, hle⟩
  · refine .inl ⟨_, List.mem_map_of_mem hp', _, List.mem_map_of_mem hq', e1, e2, ?_⟩
    simp only
    rw [e1, e2, hL _ _ _ lp hi, hL _ _ _ lq hi]
    omega
  · refine .inr ⟨j, hj, hl, _, List.mem_map_of_mem hp', _, List.mem_map_of_mem hq', e1, e2, ?_⟩
    simp only
    rw [e1, e2, hL _ _ _ (by rw [bump_length]; exact lp) hj, hL _ _ _ (by rw [bump_length]; exact lq) hj, hL _ _ _ lp hi, hL _ _ _ lq hi]
    omega
theorem MEx.pts {n : Nat} {h : Hl} (hM : MEx n h) (hd : ∀ p ∈ h, p.1.length = n) (f : List Int → List Int) (σ : Nat → Nat) (hσ : ∀ i, i < n → σ i < n) (hs : ∀ j, j < n → ∃ i, i < n ∧ σ i = j)
    (hf : ∀ x : List Int, x.length = n → ∀ i, i < n → ∀ d, f (bump x (σ i) d) = bump (f x) i d) (hg : ∀ x y : List Int, x.length = n → y.length = n → ∀ i, i < n → ((f y).getD i 0 < (f x).getD i 0 ↔ y.getD (σ i) 0 < x.getD (σ i) 0)) : MEx n (h.map fun q => (f q.1, q.2)) := by
  intro p hp q hq i hi hlt
  obtain ⟨p, hp1, rfl⟩ := List.mem_map.mp hp
  obtain ⟨q, hq1, rfl⟩ := List.mem_map.mp hq
  have lp := hd p hp1
  have lq := hd q hq1
  rcases hM p hp1 q hq1 (σ i) (hσ i hi) ((hg _ _ lp lq i hi).mp hlt) with ⟨p', hp', q', hq', e1, e2, hle⟩ | ⟨j, hj, hl, p', hp', q', hq', e1, e2, hle⟩
  · refine .inl ⟨_, List.mem_map_of_mem hp', _, List.mem_map_of_mem hq', ?_, ?_, hle⟩
    · simp only; rw [e1, hf _ lp i hi]
    · simp only; rw [e2, hf _ lq i hi]
  · obtain ⟨j, hj', rfl⟩ := hs j hj
    refine .inr ⟨j, hj', (hg _ _ lq lp j hj').mpr hl, _, List.mem_map_of_mem hp', _, List.mem_map_of_mem hq', ?_, ?_, hle⟩
    · simp only; rw [e1, hf _ (by rw [bump_length]; exact lp) j hj', hf _ lp i hi]
    · simp only; rw [e2, hf _ (by rw [bump_length]; exact lq) j hj', hf _ lq i hi]
def negL (a : List Int) : List Int := a.map fun x => -x
theorem negL_getD (x : List Int) (i : Nat) : (negL x).getD i 0 = - x.getD i 0 := by
  unfold negL
  rw [List.getD_eq_getElem?_getD, List.getD_eq_getElem?_getD, List.getElem?_map]
  cases x[i]? <;> simp
theorem negL_bump (x : List Int) (i : Nat) (d : Int) : negL (bump x i d) = bump (negL x) i (-d) := by
  unfold bump
  rw [negL_getD]
  unfold negL
  rw [List.map_set]
  congr 1
  omega
theorem MEx.neg {n : Nat} {h : Hl} (hM : MEx n h) : MEx n (h.map fun q => (negL q.1, q.2)) := by
  intro p hp q hq i hi hlt
  obtain ⟨p, hp1, rfl⟩ := List.mem_map.mp hp
  obtain ⟨q, hq1, rfl⟩ := List.mem_map.mp hq
  simp only [negL_getD] at hlt
  rcases hM q hq1 p hp1 i hi (by omega) with ⟨q', hq', p', hp', e2, e1, hle⟩ | ⟨j, hj, hl, q', hq', p', hp', e2, e1, hle⟩
  · refine .inl ⟨_, List.mem_map_of_mem hp', _, List.mem_map_of_mem hq', ?_, ?_, by simp only; omega⟩
    · simp only; rw [e1, negL_bump]
    · simp only; rw [e2, negL_bump]; rfl
  · refine .inr ⟨j, hj, by simp only [negL_getD]; omega, _, List.mem_map_of_mem hp', _, List.mem_map_of_mem hq', ?_, ?_, by simp only; omega⟩
    · simp only; rw [e1, negL_bump, negL_bump]; rfl
    · simp only; rw [e2, negL_bump, negL_bump]; rfl
theorem MEx.box {n : Nat} {h : Hl} (hM : MEx n h) (hd : ∀ p ∈ h, p.1.length = n) (lo hi : List Int) (P : List Int → Bool) (hP : ∀ x : List Int, x.length = n → (P x = true ↔ ∀ k, k < n → lo.getD k 0 ≤ x.getD k 0 ∧ x.getD k 0 ≤ hi.getD k 0)) : MEx n (h.filter fun q => P q.1) := by
  intro p hp q hq i hi' hlt
  obtain ⟨hp, p1⟩ := List.mem_filter.mp hp
  obtain ⟨hq, q1⟩ := List.mem_filter.mp hq
  have lp := hd p hp
  have lq := hd q hq
  have p2 := (hP _ lp).mp p1
  have q2 := (hP _ lq).mp q1
  rcases hM p hp q hq i hi' hlt with ⟨p', hp', q', hq', e1, e2, hle⟩ | ⟨j, hj, hl, p', hp', q', hq', e1, e2, hle⟩
  · refine .inl ⟨p', List.mem_filter.mpr ⟨hp', (hP _ (hd _ hp')).mpr fun k hk => ?_⟩, q', List.mem_filter.mpr ⟨hq', (hP _ (hd _ hq')).mpr fun k hk => ?_⟩, e1, e2, hle⟩
    · rw [e1, bump_getD (by omega)]
      have := p2 k hk; have := q2 k hk
      split
      · rename_i e; subst e; omega
      · omega
    · rw [e2, bump_getD (by omega)]
      have := p2 k hk; have := q2 k hk
      split
      · rename_i e; subst e; omega
      · omega
  · have hij : i ≠ j := fun e => by subst e; omega
    refine .inr ⟨j, hj, hl, p', List.mem_filter.mpr ⟨hp', (hP _ (hd _ hp')).mpr fun k hk => ?_⟩, q', List.mem_filter.mpr ⟨hq', (hP _ (hd _ hq')).mpr fun k hk => ?_⟩, e1, e2, hle⟩
    · rw [e1, bump_getD (by rw [bump_length]; omega), bump_getD (by omega)]
      have := p2 k hk; have := q2 k hk
      by_cases h1 : k = i
      · subst h1; rw [if_pos rfl, if_neg hij]; omega
      · rw [if_neg h1]
        by_cases h2 : k = j
        · subst h2; rw [if_pos rfl]; omega
        · rw [if_neg h2]; omega
    · rw [e2, bump_getD (by rw [bump_length]; omega), bump_getD (by omega)]
      have := p2 k hk; have := q2 k hk
      by_cases h1 : k = i
      · subst h1; rw [if_pos rfl, if_neg hij]; omega
      · rw [if_neg h1]
        by_cases h2 : k = j
        · subst h2; rw [if_pos rfl]; omega
        · rw [if_neg h2]; omega
/-! ### rises, falls -/
def posI (v : Int) : Int := if v > 0 then v else 0
theorem rise_cons (a b : Int) (x y : List Int) : rise (a :: x) (b :: y) = posI (a - b) + rise x y := by simp [rise, posI]
theorem fall_cons (a b : Int) (x y : List Int) : fall (a :: x) (b :: y) = posI (b - a) + fall x y := by simp [fall, posI]
theorem rise_set : ∀ {a b : List Int} {i : Nat} (d : Int), i < a.length → a.length = b.length → rise a (bump b i d) = rise a b - posI (a.getD i 0 - b.getD i 0) + posI (a.getD i 0 - b.getD i 0 - d)
  | [], _, _, _, h, _ => by cases h
  | _ :: _, [], _, _, _, h => by cases h
  | a :: x, b :: y, 0, d, _, _ => by
    show rise (a :: x) ((b + d) :: y) = _
    rw [rise_cons, rise_cons]
    show _ = posI (a - b) + rise x y - posI (a - b) + posI (a - b - d)
    rw [show a - (b + d) = a - b - d by omega]
    omega
  | a :: x, b :: y, i + 1, d, h, hl => by
    have ih := rise_set (a := x) (b := y) (i := i) d (by simpa using h) (by simpa using hl)
    show rise (a :: x) (b :: bump y i d) = _
    rw [rise_cons, rise_cons, ih]
    show _ = posI (a - b) + rise x y - posI (x.getD i 0 - y.getD i 0) + posI (x.getD i 0 - y.getD i 0 - d)
    omega
theorem fall_set : ∀ {a b : List Int} {i : Nat} (d : Int), i < a.length → a.length = b.length → fall a (bump b i d) = fall a b - posI (b.getD i 0 - a.getD i 0) + posI (b.getD i 0 + d - a.getD i 0)
  | [], _, _, _, h, _ => by cases h
  | _ :: _, [], _, _, _, h => by cases h
  | a :: x, b :: y, 0, d, _, _ => by
    show fall (a :: x) ((b + d) :: y) = _
    rw [fall_cons, fall_cons]
    show _ = posI (b - a) + fall x y - posI (b - a) + posI (b + d - a)
    omega
  | a :: x, b :: y, i + 1, d, h, hl => by
    have ih := fall_set (a := x) (b := y) (i := i) d (by simpa using h) (by simpa using hl)
    show fall (a :: x) (b :: bump y i d) = _
    rw [fall_cons, fall_cons, ih]
    show _ = posI (b - a) + fall x y - posI (y.getD i 0 - x.getD i 0) + posI (y.getD i 0 + d - x.getD i 0)
    omega
theorem rise_nn : ∀ (a b : List Int), 0 ≤ rise a b
  | [], _ => by simp [rise]
  | _ :: _, [] => by simp [rise]
  | a :: x, b :: y => by have := rise_nn x y; rw [rise_cons]; unfold posI; split <;> omega
theorem fall_nn : ∀ (a b : List Int), 0 ≤ fall a b
  | [], _ => by simp [fall]
  | _ :: _, [] => by simp [fall]
  | a :: x, b :: y => by have := fall_nn x y; rw [fall_cons]; unfold posI; split <;> omega
theorem rise_self : ∀ (a : List Int), rise a a = 0
  | [] => rfl
  | a :: x => by rw [rise_cons, rise_self x]; unfold posI; split <;> omega
theorem fall_self : ∀ (a : List Int), fall a a = 0
  | [] => rfl
  | a :: x => by rw [fall_cons, fall_self x]; unfold posI; split <;> omega
theorem eq_of_getD {a b : List Int} (hl : a.length = b.length) (h : ∀ i, i < a.length → a.getD i 0 = b.getD i 0) : a = b :=
  List.ext_getElem hl fun i h1 h2 => by
    have := h i h1
    rwa [List.getD_eq_getElem?_getD, List.getD_eq_getElem?_getD, List.getElem?_eq_getElem h1, List.getElem?_eq_getElem h2] at this
/-- a step from a point -/
theorem reach_step {x : List Int} {i : Nat} (hi : i < x.length) : reachF x (bump x i (-1)) = 1 ∧ reachF x (bump x i 1) = 1 := by
  unfold reachF
  rw [rise_set _ hi rfl, fall_set _ hi rfl, rise_set _ hi rfl, fall_set _ hi rfl, rise_self, fall_self]
  generalize x.getD i 0 = v
  unfold posI
  constructor
  · repeat' split
    all_goals omega
  · repeat' split
    all_goals omega
theorem reach_two {x : List Int} {i j : Nat} (hi : i < x.length) (hj : j < x.length) (hij : i ≠ j) : reachF x (bump (bump x i (-1)) j 1) = 1 ∧ reachF x (bump (bump x i 1) j (-1)) = 1 := by
  have hji : ¬ j = i := fun e => hij e.symm
  unfold reachF
  rw [rise_set _ hj (by rw [bump_length]), fall_set _ hj (by rw [bump_length]), rise_set _ hj (by rw [bump_length]), fall_set _ hj (by rw [bump_length]), rise_set _ hi rfl, fall_set _ hi rfl, rise_set _ hi rfl, fall_set _ hi rfl, rise_self, fall_self, bump_getD hi, bump_getD hi, if_neg hji, if_neg hji]
  generalize x.getD i 0 = v
  generalize x.getD j 0 = w
  unfold posI
  constructor
  · repeat' split
    all_goals omega
  · repeat' split
    all_goals omega
theorem local_min {n : Nat} {h : Hl} (hM : MEx n h) (hd : ∀ p ∈ h, p.1.length = n) (hn : (h.map (·.1)).Nodup) {x : List Int × Int} (hx : x ∈ h) (hloc : ∀ y ∈ h, reachF x.1 y.1 = 1 → x.2 ≤ y.2) : ∀ (k : Nat) (y : List Int × Int), y ∈ h → rise x.1 y.1 + fall x.1 y.1 ≤ k → x.2 ≤ y.2 := by
  have lx := hd x hx
  intro k
  induction k with
  | zero =>
    intro y hy hk
    have ly := hd y hy
    have h1 := rise_nn x.1 y.1
    have h2 := fall_nn x.1 y.1
    have e : x.1 = y.1 := eq_of_getD (by omega) fun i hi => by
      have g1 := rise_set (a := x.1) (b := y.1) 1 hi (by omega)
      have g2 := fall_set (a := x.1) (b := y.1) (-1) hi (by omega)
      have g3 := rise_nn x.1 (bump y.1 i 1)
      have g4 := fall_nn x.1 (bump y.1 i (-1))
      unfold posI at g1 g2
      revert g1 g2
      repeat' split
      all_goals omega
    have w1 := look_some hn (x := x.1) (w := x.2) hx
    have w2 := look_some hn (x := y.1) (w := y.2) hy
    rw [e, w2] at w1
    have := Option.some.inj w1
    omega
  | succ k ih =>
    intro y hy hk
    have ly := hd y hy
    by_cases hup : ∃ i, i < n ∧ y.1.getD i 0 < x.1.getD i 0
    · obtain ⟨i, hi, hlt⟩ := hup
      have g1 := rise_set (a := x.1) (b := y.1) (i := i) 1 (by omega) (by omega)
      have g2 := fall_set (a := x.1) (b := y.1) (i := i) 1 (by omega) (by omega)
      rcases hM x hx y hy i hi hlt with ⟨p', hp', q', hq', e1, e2, hle⟩ | ⟨j, hj, hl, p', hp', q', hq', e1, e2, hle⟩
      · have h1 := hloc p' hp' (by rw [e1]; exact (reach_step (by omega)).1)
        have h2 := ih q' hq' (by
          rw [e2, g1, g2]
          unfold posI
          repeat' split
          all_goals omega)
        omega
      · have hij : i ≠ j := fun e => by subst e; omega
        have h1 := hloc p' hp' (by rw [e1]; exact (reach_two (by omega) (by omega) hij).1)
        have g3 := rise_set (a := x.1) (b := bump y.1 i 1) (i := j) (-1) (by omega) (by rw [bump_length]; omega)
        have g4 := fall_set (a := x.1) (b := bump y.1 i 1) (i := j) (-1) (by omega) (by rw [bump_length]; omega)
        rw [bump_getD (by omega), if_neg (fun e => hij e.symm)] at g3 g4
        have h2 := ih q' hq' (by
          rw [e2, g3, g4, g1, g2]
          unfold posI
          repeat' split
          all_goals omega)
        omega
    · by_cases hdn : ∃ i, i < n ∧ x.1.getD i 0 < y.1.getD i 0
      · obtain ⟨i, hi, hlt⟩ := hdn
        have g1 := rise_set (a := x.1) (b := y.1) (i := i) (-1) (by omega) (by omega)
        have g2 := fall_set (a := x.1) (b := y.1) (i := i) (-1) (by omega) (by omega)
        rcases hM y hy x hx i hi hlt with ⟨p', hp', q', hq', e1, e2, hle⟩ | ⟨j, hj, hl, p', hp', q', hq', e1, e2, hle⟩
        · have h1 := hloc q' hq' (by rw [e2]; exact (reach_step (by omega)).2)
          have h2 := ih p' hp' (by
            rw [e1, g1, g2]
            unfold posI
            repeat' split
            all_goals omega)
          omega
        · exact absurd ⟨j, hj, hl⟩ hup
      · refine ih y hy ?_
        have e : x.1 = y.1 := eq_of_getD (by omega) fun i hi => by
          have h1 : ¬ y.1.getD i 0 < x.1.getD i 0 := fun h => hup ⟨i, by omega, h⟩
          have h2 : ¬ x.1.getD i 0 < y.1.getD i 0 := fun h => hdn ⟨i, by omega, h⟩
          omega
        rw [e, rise_self, fall_self]
        omega
/-! ### lines -/
def lineX (h : Hl) (k : Nat) : Int := (h.map fun q => q.1.getD 0 0).getD k 0
def lineW (h : Hl) : List Int := h.map (·.2)
theorem line_at {h : Hl} (hd : ∀ p ∈ h, p.1.length = 1) {k : Nat} (hk : k < h.length) : h[k] = ([lineX h k], (lineW h).getD k 0) := by
  have h1 := hd h[k] (List.getElem_mem _)
  have e1 : lineX h k = h[k].1.getD 0 0 := by
    unfold lineX
    rw [List.getD_eq_getElem?_getD, List.getElem?_map, List.getElem?_eq_getElem hk]
    rfl
  have e2 : (lineW h).getD k 0 = h[k].2 := by
    unfold lineW
    rw [List.getD_eq_getElem?_getD, List.getElem?_map, List.getElem?_eq_getElem hk]
    rfl
  rw [e1, e2]
  refine Prod.ext ?_ rfl
  match h[k].1, h1 with
  | [a], _ => rfl
theorem line_lt {h : Hl} (hd : ∀ p ∈ h, p.1.length = 1) (asc : AscH h) {k l : Nat} (hl : l < h.length) (hkl : k < l) : lineX h k < lineX h l := by
  have h1 := List.pairwise_iff_getElem.mp asc k l (by rw [List.length_map]; omega) (by rw [List.length_map]; exact hl) hkl
  rw [List.getElem_map, List.getElem_map, line_at hd (by omega), line_at hd hl] at h1
  simp only [ltL] at h1
  split at h1
  · cases h1
  · exact of_decide_eq_true h1
theorem line_gap {h : Hl} (hd : ∀ p ∈ h, p.1.length = 1) (asc : AscH h) {k : Nat} : ∀ {l : Nat}, l < h.length → k ≤ l → lineX h k + ((l : Int) - k) ≤ lineX h l
  | 0, _, hkl => by have : k = 0 := by omega
                    subst this; omega
  | l + 1, hl, hkl => by
    by_cases e : k = l + 1
    · subst e; omega
    · have ih := line_gap hd asc (k := k) (l := l) (by omega) (by omega)
      have := line_lt hd asc hl (show l < l + 1 by omega)
      omega
theorem bump_one (a d : Int) : bump [a] 0 d = [a + d] := rfl
theorem line_MEx {h : Hl} (hd : ∀ p ∈ h, p.1.length = 1) (asc : AscH h) (ne : h ≠ []) : MEx 1 h ↔ (lineX h (h.length - 1) - lineX h 0 = (h.length : Int) - 1 ∧ Bent (lineW h)) := by
  have hpos : 0 < h.length := List.length_pos_iff.mpr ne
  have inj : ∀ {k l : Nat}, k < h.length → l < h.length → lineX h k = lineX h l → k = l := fun {k l} hk hl e => by
    rcases Nat.lt_trichotomy k l with h1 | h1 | h1
    · have := line_lt hd asc hl h1; omega
    · exact h1
    · have := line_lt hd asc hk h1; omega
  constructor
  · intro hM
    have hex : ∀ k l : Nat, k < l → l < h.length → ∃ a b : Nat, a < h.length ∧ b < h.length ∧ lineX h a = lineX h l - 1 ∧ lineX h b = lineX h k + 1 ∧ (lineW h).getD a 0 + (lineW h).getD b 0 ≤ (lineW h).getD l 0 + (lineW h).getD k 0 := fun k l hkl hl => by
      have hlt := line_lt hd asc hl hkl
      have h1 := hM h[l] (List.getElem_mem _) (h[k]'(by omega)) (List.getElem_mem _) 0 (by omega) (by rw [line_at hd hl, line_at hd (show k < h.length by omega)]; exact hlt)
      rcases h1 with ⟨p', hp', q', hq', e1, e2, hle⟩ | ⟨j, hj, hl2, _⟩
      · obtain ⟨a, ha, rfl⟩ := List.getElem_of_mem hp'
        obtain ⟨b, hb, rfl⟩ := List.getElem_of_mem hq'
        rw [line_at hd ha, line_at hd hl] at e1
        rw [line_at hd hb, line_at hd (show k < h.length by omega)] at e2
        rw [line_at hd ha, line_at hd hb, line_at hd hl, line_at hd (show k < h.length by omega)] at hle
        simp only [bump_one, List.cons.injEq, and_true] at e1 e2
        exact ⟨a, b, ha, hb, by omega, by omega, hle⟩
      · have : j = 0 := by omega
        subst this
        rw [line_at hd hl, line_at hd (show k < h.length by omega)] at hl2
        have hl2 : lineX h l < lineX h k := hl2
        omega
    have step : ∀ k, k + 1 < h.length → lineX h (k + 1) = lineX h k + 1 := fun k hk => by
      obtain ⟨a, b, ha, hb, e1, e2, _⟩ := hex k (k + 1) (by omega) hk
      have h1 := line_lt hd asc hk (show k < k + 1 by omega)
      by_cases h2 : a ≤ k
      · rcases Nat.lt_or_ge a k with h3 | h3
        · have := line_lt hd asc (show k < h.length by omega) h3; omega
        · have : a = k := by omega
          subst this; omega
      · rcases Nat.lt_or_ge (k + 1) a with h3 | h3
        · have := line_lt hd asc ha h3; omega
        · have : a = k + 1 := by omega
          subst this; omega
    have all : ∀ k, k < h.length → lineX h k = lineX h 0 + k := fun k => by
      induction k with
      | zero => intro _; omega
      | succ k ih => intro hk; have := step k hk; have := ih (by omega); omega
    refine ⟨by have := all (h.length - 1) (by omega); omega, fun i hi => ?_⟩
    have hi : i + 2 < h.length := by simpa [lineW] using hi
    obtain ⟨a, b, ha, hb, e1, e2, hle⟩ := hex i (i + 2) (by omega) hi
    have s1 := step i (by omega)
    have s2 : lineX h (i + 2) = lineX h (i + 1) + 1 := step (i + 1) hi
    have e3 : a = i + 1 := inj ha (by omega) (by omega)
    have e4 : b = i + 1 := inj hb (by omega) (by omega)
    subst e3
    subst e4
    omega
  · rintro ⟨hc, hb⟩
    have all : ∀ k, k < h.length → lineX h k = lineX h 0 + k := fun k hk => by
      have h1 := line_gap hd asc (k := 0) (l := k) hk (by omega)
      have h2 := line_gap hd asc (k := k) (l := h.length - 1) (by omega) (by omega)
      omega
    intro p hp q hq i hi hlt
    have : i = 0 := by omega
    subst this
    obtain ⟨a, ha, rfl⟩ := List.getElem_of_mem hp
    obtain ⟨b, hb2, rfl⟩ := List.getElem_of_mem hq
    rw [line_at hd ha, line_at hd hb2] at hlt
    have hlt : lineX h b < lineX h a := hlt
    have a1 := all a ha
    have b1 := all b hb2
    have hab : b < a := by omega
    have e1 : lineX h (a - 1) = lineX h a - 1 := by have := all (a - 1) (by omega); omega
    have e2 : lineX h (b + 1) = lineX h b + 1 := by have := all (b + 1) (by omega); omega
    have hm := bent_mono hb (p := b) (r := a - 1) (by omega) (by simp [lineW]; omega)
    rw [show a - 1 + 1 = a by omega] at hm
    refine .inl ⟨h[a - 1], List.getElem_mem _, h[b + 1], List.getElem_mem _, ?_, ?_, ?_⟩
    · rw [line_at hd (show a - 1 < h.length by omega), line_at hd ha, bump_one, e1]; rfl
    · rw [line_at hd (show b + 1 < h.length by omega), line_at hd hb2, bump_one, e2]
    · rw [line_at hd (show a - 1 < h.length by omega), line_at hd ha, line_at hd (show b + 1 < h.length by omega), line_at hd hb2]
      simp only
      omega
theorem bent_triples (w : List Int) : ((w.zip ((w.drop 1).zip (w.drop 2))).filter fun q => decide (q.1 + q.2.2 < 2 * q.2.1)).isEmpty = true ↔ Bent w := by
  rw [List.isEmpty_iff, List.filter_eq_nil_iff]
  constructor
  · intro h i hi
    have h1 : i < (w.zip ((w.drop 1).zip (w.drop 2))).length := by simp; omega
    have h2 := h _ (List.getElem_mem h1)
    rw [decide_eq_true_eq, List.getElem_zip, List.getElem_zip] at h2
    simp only [List.getElem_drop] at h2
    rw [List.getD_eq_getElem?_getD, List.getD_eq_getElem?_getD, List.getD_eq_getElem?_getD, List.getElem?_eq_getElem (show i < w.length by omega), List.getElem?_eq_getElem (show i + 1 < w.length by omega), List.getElem?_eq_getElem (show i + 2 < w.length by omega)]
    simp only [Option.getD_some, show 1 + i = i + 1 by omega, show 2 + i = i + 2 by omega] at h2 ⊢
    omega
  · intro hb z hz
    obtain ⟨i, hi, rfl⟩ := List.getElem_of_mem hz
    have hl : i + 2 < w.length := by simp at hi; omega
    have h2 := hb i hl
    rw [List.getD_eq_getElem?_getD, List.getD_eq_getElem?_getD, List.getD_eq_getElem?_getD, List.getElem?_eq_getElem (show i < w.length by omega), List.getElem?_eq_getElem (show i + 1 < w.length by omega), List.getElem?_eq_getElem (show i + 2 < w.length by omega)] at h2
    rw [decide_eq_true_eq, List.getElem_zip, List.getElem_zip]
    simp only [Option.getD_some, List.getElem_drop, show 1 + i = i + 1 by omega, show 2 + i = i + 2 by omega] at h2 ⊢
    omega
end PyE

/-! PyP: middles everywhere, shifts everywhere: one and the same -/
namespace PyE
open PySem PySem.Spec PyProof.Rows
open L2
def mx (u v : Int) : Int := if v > u then v else u
def mn (u v : Int) : Int := if v < u then v else u
def zw (f : Int → Int → Int) (x y : List Int) : List Int := (x.zip y).map fun p => f p.1 p.2
theorem zw_length {f : Int → Int → Int} {x y : List Int} (h : x.length = y.length) : (zw f x y).length = x.length := by simp [zw, h]
theorem zw_getD {f : Int → Int → Int} {x y : List Int} (h : x.length = y.length) {i : Nat} (hi : i < x.length) : (zw f x y).getD i 0 = f (x.getD i 0) (y.getD i 0) := by
  have hz : i < (x.zip y).length := by rw [List.length_zip]; omega
  unfold zw
  rw [List.getD_eq_getElem?_getD, List.getD_eq_getElem?_getD, List.getD_eq_getElem?_getD, List.getElem?_map, List.getElem?_eq_getElem hz, List.getElem?_eq_getElem hi, List.getElem?_eq_getElem (by omega : i < y.length), List.getElem_zip]
  rfl
abbrev sU (a : Int) (x y : List Int) : List Int := zw (fun u v => mx (u - a) v) x y
abbrev sL (a : Int) (x y : List Int) : List Int := zw (fun u v => mn u (v + a)) x y
theorem midU_zw (x y : List Int) : midU x y = zw (fun u v => (u + v + 1) / 2) x y := rfl
theorem midL_zw (x y : List Int) : midL x y = zw (fun u v => (u + v) / 2) x y := rfl
def SUBat (G : List Int → Option Int) (x y : List Int) : Prop := ∀ a b, G x = some a → G y = some b → ∃ c d, G (zw mx x y) = some c ∧ G (zw mn x y) = some d ∧ c + d ≤ a + b
def DMC (G : List Int → Option Int) (N : Nat) : Prop := ∀ x y : List Int, x.length = N → y.length = N → ∀ a b, G x = some a → G y = some b → ∃ c d, G (midU x y) = some c ∧ G (midL x y) = some d ∧ c + d ≤ a + b
theorem dmc_sub {G : List Int → Option Int} {N : Nat} (hG : DMC G N) : ∀ (M : Nat) (x y : List Int), x.length = N → y.length = N → (∀ i, i < N → x.getD i 0 - y.getD i 0 ≤ M ∧ y.getD i 0 - x.getD i 0 ≤ M) → SUBat G x y
  | 0, x, y, hx, hy, hM => fun a b ea eb => by
    have e1 : zw mx x y = midU x y := eq_of_getD (by rw [zw_length (by omega), midU_zw, zw_length (by omega)]) fun i hi => by
      rw [zw_length (by omega)] at hi
      rw [midU_zw, zw_getD (by omega) (by omega), zw_getD (by omega) (by omega)]
      have := hM i (by omega)
      unfold mx
      split <;> omega
    have e2 : zw mn x y = midL x y := eq_of_getD (by rw [zw_length (by omega), midL_zw, zw_length (by omega)]) fun i hi => by
      rw [zw_length (by omega)] at hi
      rw [midL_zw, zw_getD (by omega) (by omega), zw_getD (by omega) (by omega)]
      have := hM i (by omega)
      unfold mn
      split <;> omega
    rw [e1, e2]
    exact hG x y hx hy a b ea eb
  | 1, x, y, hx, hy, hM => fun a b ea eb => by
    have e1 : zw mx x y = midU x y := eq_of_getD (by rw [zw_length (by omega), midU_zw, zw_length (by omega)]) fun i hi => by
      rw [zw_length (by omega)] at hi
      rw [midU_zw, zw_getD (by omega) (by omega), zw_getD (by omega) (by omega)]
      have := hM i (by omega)
      unfold mx
      split <;> omega
    have e2 : zw mn x y = midL x y := eq_of_getD (by rw [zw_length (by omega), midL_zw, zw_length (by omega)]) fun i hi => by
      rw [zw_length (by omega)] at hi
      rw [midL_zw, zw_getD (by omega) (by omega), zw_getD (by omega) (by omega)]
      have := hM i (by omega)
      unfold mn
      split <;> omega
    rw [e1, e2]
    exact hG x y hx hy a b ea eb
  | M + 2, x, y, hx, hy, hM => fun a b ea eb => by
    obtain ⟨c0, _, ec, _, _⟩ := hG x y hx hy a b ea eb
    have lC : (midU x y).length = N := by rw [midU_zw, zw_length (by omega)]; exact hx
    have gC : ∀ i, i < N → (midU x y).getD i 0 = (x.getD i 0 + y.getD i 0 + 1) / 2 := fun i hi => by rw [midU_zw, zw_getD (by omega) (by omega)]
    generalize midU x y = C at ec lC gC
    have ih := dmc_sub hG (M + 1)
    obtain ⟨a1, a2, e1, e2, h1⟩ := ih x C hx lC (fun i hi => by have := hM i hi; have := gC i hi; omega) a c0 ea ec
    obtain ⟨b1, b2, e3, e4, h2⟩ := ih y C hy lC (fun i hi => by have := hM i hi; have := gC i hi; omega) b c0 eb ec
    have l1 : (zw mx x C).length = N := by rw [zw_length (by omega)]; exact hx
    have l2 : (zw mx y C).length = N := by rw [zw_length (by omega)]; exact hy
    have l3 : (zw mn x C).length = N := by rw [zw_length (by omega)]; exact hx
    have l4 : (zw mn y C).length = N := by rw [zw_length (by omega)]; exact hy
    obtain ⟨u, v, e5, e6, h3⟩ := ih _ _ l1 l2 (fun i hi => by
      have := hM i hi; have := gC i hi
      rw [zw_getD (by omega) (by omega), zw_getD (by omega) (by omega)]
      unfold mx
      repeat' split
      all_goals omega) a1 b1 e1 e3
    obtain ⟨r, s, e7, e8, h4⟩ := ih _ _ l3 l4 (fun i hi => by
      have := hM i hi; have := gC i hi
      rw [zw_getD (by omega) (by omega), zw_getD (by omega) (by omega)]
      unfold mn
      repeat' split
      all_goals omega) a2 b2 e2 e4
    have t1 : zw mx (zw mx x C) (zw mx y C) = zw mx x y := eq_of_getD (by rw [zw_length (by omega), zw_length (by omega), zw_length (by omega)]) fun i hi => by
      rw [zw_length (by omega), l1] at hi
      have := gC i hi
      rw [zw_getD (by omega) (by omega), zw_getD (by omega) (by omega), zw_getD (by omega) (by omega), zw_getD (by omega) (by omega)]
      unfold mx
      repeat' split
      all_goals omega
    have t2 : zw mn (zw mx x C) (zw mx y C) = C := eq_of_getD (by rw [zw_length (by omega)]; omega) fun i hi => by
      rw [zw_length (by omega), l1] at hi
      have := gC i hi
      rw [zw_getD (by omega) (by omega), zw_getD (by omega) (by omega), zw_getD (by omega) (by omega)]
      unfold mx mn
      repeat' split
      all_goals omega
    have t3 : zw mx (zw mn x C) (zw mn y C) = C := eq_of_getD (by rw [zw_length (by omega)]; omega) fun i hi => by
      rw [zw_length (by omega), l3] at hi
      have := gC i hi
      rw [zw_getD (by omega) (by omega), zw_getD (by omega) (by omega), zw_getD (by omega) (by omega)]
      unfold mx mn
      repeat' split
      all_goals omega
    have t4 : zw mn (zw mn x C) (zw mn y C) = zw mn x y := eq_of_getD (by rw [zw_length (by omega), zw_length (by omega), zw_length (by omega)]) fun i hi => by
      rw [zw_length (by omega), l3] at hi
      have := gC i hi
      rw [zw_getD (by omega) (by omega), zw_getD (by omega) (by omega), zw_getD (by omega) (by omega), zw_getD (by omega) (by omega)]
      unfold mn
      repeat' split
      all_goals omega
    rw [t1] at e5
    rw [t2, ec] at e6
    rw [t3, ec] at e7
    rw [t4] at e8
    cases e6
    cases e7
    exact ⟨u, s, e5, e8, by omega⟩
/-- a far enough bound -/
theorem far_bound : ∀ (x y : List Int), ∃ M : Nat, ∀ i, x.getD i 0 - y.getD i 0 ≤ M ∧ y.getD i 0 - x.getD i 0 ≤ M := by
  have h1 : ∀ x : List Int, ∃ M : Nat, ∀ i, (x.getD i 0).natAbs ≤ M := by
    intro x
    induction x with
    | nil => exact ⟨0, fun i => by simp⟩
    | cons a x ih =>
      obtain ⟨M, h⟩ := ih
      refine ⟨a.natAbs + M, fun i => ?_⟩
      cases i with
      | zero => show a.natAbs ≤ _; omega
      | succ i => have := h i; show (x.getD i 0).natAbs ≤ _; omega
  intro x y
  obtain ⟨A, hA⟩ := h1 x
  obtain ⟨B, hB⟩ := h1 y
  exact ⟨A + B, fun i => by have := hA i; have := hB i; omega⟩
/-! ### with a place more -/
def upG (h : Hl) : List Int → Option Int
  | [] => none
  | s :: xs => look h (xs.map (· - s))
theorem mapsub_getD (xs : List Int) (s : Int) {i : Nat} (hi : i < xs.length) : (xs.map (· - s)).getD i 0 = xs.getD i 0 - s := by
  rw [List.getD_eq_getElem?_getD, List.getD_eq_getElem?_getD, List.getElem?_map, List.getElem?_eq_getElem hi]
  rfl
theorem LMid.lookM {h : Hl} (hM : LMid h) (hn : (h.map (·.1)).Nodup) {x y : List Int} {a b : Int} (ex : look h x = some a) (ey : look h y = some b) : ∃ c d, look h (midU x y) = some c ∧ look h (midL x y) = some d ∧ c + d ≤ a + b := by
  obtain ⟨u, hu, l, hl, e1, e2, hle⟩ := hM _ (look_mem ex) _ (look_mem ey)
  refine ⟨u.2, l.2, ?_, ?_, hle⟩
  · rw [← show u.1 = midU x y from e1]; exact look_some hn hu
  · rw [← show l.1 = midL x y from e2]; exact look_some hn hl
theorem up_dmc {n : Nat} {h : Hl} (hM : LMid h) (hn : (h.map (·.1)).Nodup) : DMC (upG h) (n + 1)
  | [], _, hx, _ => by cases hx
  | _ :: _, [], _, hy => by cases hy
  | s :: xs, t :: ys, hx, hy => fun a b ea eb => by
    have hx : xs.length = n := by simpa using hx
    have hy : ys.length = n := by simpa using hy
    obtain ⟨c, d, e1, e2, hle⟩ := hM.lookM hn (x := xs.map (· - s)) (y := ys.map (· - t)) ea eb
    have lx : (xs.map (· - s)).length = n := by rw [List.length_map]; exact hx
    have ly : (ys.map (· - t)).length = n := by rw [List.length_map]; exact hy
    have g : ∀ (f : Int → Int → Int) i, i < n → (zw f (xs.map (· - s)) (ys.map (· - t))).getD i 0 = f (xs.getD i 0 - s) (ys.getD i 0 - t) := fun f i hi => by
      rw [zw_getD (by omega) (by omega), mapsub_getD _ _ (by omega), mapsub_getD _ _ (by omega)]
    have k1 : midU (s :: xs) (t :: ys) = ((s + t + 1) / 2) :: midU xs ys := rfl
    have k2 : midL (s :: xs) (t :: ys) = ((s + t) / 2) :: midL xs ys := rfl
    rw [k1, k2]
    show ∃ c d, look h ((midU xs ys).map (· - (s + t + 1) / 2)) = some c ∧ look h ((midL xs ys).map (· - (s + t) / 2)) = some d ∧ c + d ≤ a + b
    have lU : (midU xs ys).length = n := by rw [midU_zw, zw_length (by omega)]; exact hx
    have lL : (midL xs ys).length = n := by rw [midL_zw, zw_length (by omega)]; exact hx
    by_cases hp : (s + t) % 2 = 0
    · have q1 : (midU xs ys).map (· - (s + t + 1) / 2) = midU (xs.map (· - s)) (ys.map (· - t)) := eq_of_getD (by rw [List.length_map, lU, midU_zw, zw_length (by omega)]; omega) fun i hi => by
        rw [List.length_map, lU] at hi
        rw [mapsub_getD _ _ (by omega), midU_zw, midU_zw, zw_getD (by omega) (by omega), g _ i hi]
        omega
      have q2 : (midL xs ys).map (· - (s + t) / 2) = midL (xs.map (· - s)) (ys.map (· - t)) := eq_of_getD (by rw [List.length_map, lL, midL_zw, zw_length (by omega)]; omega) fun i hi => by
        rw [List.length_map, lL] at hi
        rw [mapsub_getD _ _ (by omega), midL_zw, midL_zw, zw_getD (by omega) (by omega), g _ i hi]
        omega
      rw [q1, q2]
      exact ⟨c, d, e1, e2, hle⟩
    · have q1 : (midU xs ys).map (· - (s + t + 1) / 2) = midL (xs.map (· - s)) (ys.map (· - t)) := eq_of_getD (by rw [List.length_map, lU, midL_zw, zw_length (by omega)]; omega) fun i hi => by
        rw [List.length_map, lU] at hi
        rw [mapsub_getD _ _ (by omega), midU_zw, midL_zw, zw_getD (by omega) (by omega), g _ i hi]
        omega
      have q2 : (midL xs ys).map (· - (s + t) / 2) = midU (xs.map (· - s)) (ys.map (· - t)) := eq_of_getD (by rw [List.length_map, lL, midU_zw, zw_length (by omega)]; omega) fun i hi => by
        rw [List.length_map, lL] at hi
        rw [mapsub_getD _ _ (by omega), midL_zw, midU_zw, zw_getD (by omega) (by omega), g _ i hi]
        omega
      rw [q1, q2]
      exact ⟨d, c, e2, e1, by omega⟩
def LSh (h : Hl) : Prop := ∀ p ∈ h, ∀ q ∈ h, ∀ a : Nat, ∃ u ∈ h, ∃ l ∈ h, u.1 = sU a p.1 q.1 ∧ l.1 = sL a p.1 q.1 ∧ u.2 + l.2 ≤ p.2 + q.2
theorem LMid.shift {n : Nat} {h : Hl} (hM : LMid h) (hd : ∀ p ∈ h, p.1.length = n) (hn : (h.map (·.1)).Nodup) : LSh h := by
  intro p hp q hq a
  have lp := hd p hp
  have lq := hd q hq
  have ep : upG h (0 :: p.1) = some p.2 := by
    show look h (p.1.map (· - 0)) = _
    rw [show p.1.map (· - 0) = p.1 by simp]
    exact look_some hn hp
  have eq : upG h ((a : Int) :: q.1.map (· + (a : Int))) = some q.2 := by
    show look h ((q.1.map (· + (a : Int))).map (· - (a : Int))) = _
    rw [show (q.1.map (· + (a : Int))).map (· - (a : Int)) = q.1 by
      rw [List.map_map]
      conv => rhs; rw [← List.map_id q.1]
      exact List.map_congr_left fun x _ => by simp]
    exact look_some hn hq
  obtain ⟨M, hM2⟩ := far_bound (0 :: p.1) ((a : Int) :: q.1.map (· + (a : Int)))
  obtain ⟨c, d, e1, e2, hle⟩ := dmc_sub (up_dmc (n := n) hM hn) M (0 :: p.1) ((a : Int) :: q.1.map (· + (a : Int))) (by simp [lp]) (by simp [lq]) (fun i _ => hM2 i) _ _ ep eq
  have la : (q.1.map (· + (a : Int))).length = n := by rw [List.length_map]; exact lq
  have ga : ∀ i, i < n → (q.1.map (· + (a : Int))).getD i 0 = q.1.getD i 0 + a := fun i hi => by
    rw [List.getD_eq_getElem?_getD, List.getD_eq_getElem?_getD, List.getElem?_map, List.getElem?_eq_getElem (show i < q.1.length by omega)]
    rfl
  have k1 : zw mx (0 :: p.1) ((a : Int) :: q.1.map (· + (a : Int))) = (a : Int) :: zw mx p.1 (q.1.map (· + (a : Int))) := by
    show mx 0 (a : Int) :: _ = _
    rw [show mx 0 (a : Int) = (a : Int) by unfold mx; split <;> omega]
    rfl
  have k2 : zw mn (0 :: p.1) ((a : Int) :: q.1.map (· + (a : Int))) = 0 :: zw mn p.1 (q.1.map (· + (a : Int))) := by
    show mn 0 (a : Int) :: _ = _
    rw [show mn 0 (a : Int) = 0 by unfold mn; split <;> omega]
    rfl
  rw [k1] at e1
  rw [k2] at e2
  have e1 : look h ((zw mx p.1 (q.1.map (· + (a : Int)))).map (· - (a : Int))) = some c := e1
  have e2 : look h ((zw mn p.1 (q.1.map (· + (a : Int)))).map (· - 0)) = some d := e2
  have q1 : (zw mx p.1 (q.1.map (· + (a : Int)))).map (· - (a : Int)) = sU a p.1 q.1 := eq_of_getD (by rw [List.length_map, zw_length (by omega), zw_length (by omega)]) fun i hi => by
    rw [List.length_map, zw_length (by omega), lp] at hi
    rw [mapsub_getD _ _ (by rw [zw_length (by omega)]; omega), zw_getD (by omega) (by omega), zw_getD (by omega) (by omega), ga i hi]
    unfold mx
    repeat' split
    all_goals omega
  have q2 : (zw mn p.1 (q.1.map (· + (a : Int)))).map (· - 0) = sL a p.1 q.1 := eq_of_getD (by rw [List.length_map, zw_length (by omega), zw_length (by omega)]) fun i hi => by
    rw [List.length_map, zw_length (by omega), lp] at hi
    rw [mapsub_getD _ _ (by rw [zw_length (by omega)]; omega), zw_getD (by omega) (by omega), zw_getD (by omega) (by omega), ga i hi]
    unfold mn
    repeat' split
    all_goals omega
  rw [q1] at e1
  rw [q2] at e2
  exact ⟨_, look_mem e1, _, look_mem e2, rfl, rfl, hle⟩
/-- two steps halve the differences -/
theorem LSh.midM {n : Nat} {h : Hl} (hS : LSh h) (hd : ∀ p ∈ h, p.1.length = n) : ∀ (M : Nat) (p q : List Int × Int), p ∈ h → q ∈ h → (∀ i, i < n → p.1.getD i 0 - q.1.getD i 0 ≤ M ∧ q.1.getD i 0 - p.1.getD i 0 ≤ M) →
    ∃ u ∈ h, ∃ l ∈ h, u.1 = midU p.1 q.1 ∧ l.1 = midL p.1 q.1 ∧ u.2 + l.2 ≤ p.2 + q.2 := by
  intro M
  induction M using Nat.strongRecOn with
  | ind M ih =>
    intro p q hp hq hM
    have lp := hd p hp
    have lq := hd q hq
    by_cases hM1 : M ≤ 1
    · obtain ⟨u, hu, l, hl, e1, e2, hle⟩ := hS p hp q hq 0
      refine ⟨u, hu, l, hl, ?_, ?_, hle⟩
      · rw [e1, midU_zw]
        refine eq_of_getD (by rw [zw_length (by omega), zw_length (by omega)]) fun i hi => ?_
        rw [zw_length (by omega)] at hi
        have := hM i (by omega)
        rw [zw_getD (by omega) (by omega), zw_getD (by omega) (by omega)]
        unfold mx
        split <;> omega
      · rw [e2, midL_zw]
        refine eq_of_getD (by rw [zw_length (by omega), zw_length (by omega)]) fun i hi => ?_
        rw [zw_length (by omega)] at hi
        have := hM i (by omega)
        rw [zw_getD (by omega) (by omega), zw_getD (by omega) (by omega)]
        unfold mn
        split <;> omega
    · obtain ⟨α, hα⟩ : ∃ α : Nat, α = M / 2 := ⟨_, rfl⟩
      obtain ⟨u, hu, l, hl, e1, e2, hle⟩ := hS p hp q hq α
      have lu := hd u hu
      have ll := hd l hl
      obtain ⟨u', hu', l', hl', e3, e4, hle'⟩ := hS u hu l hl α
      have lu' := hd u' hu'
      have ll' := hd l' hl'
      have g1 : ∀ i, i < n → u.1.getD i 0 = mx (p.1.getD i 0 - α) (q.1.getD i 0) := fun i hi => by rw [e1, zw_getD (by omega) (by omega)]
      have g2 : ∀ i, i < n → l.1.getD i 0 = mn (p.1.getD i 0) (q.1.getD i 0 + α) := fun i hi => by rw [e2, zw_getD (by omega) (by omega)]
      have g3 : ∀ i, i < n → u'.1.getD i 0 = mx (u.1.getD i 0 - α) (l.1.getD i 0) := fun i hi => by rw [e3, zw_getD (by omega) (by omega)]
      have g4 : ∀ i, i < n → l'.1.getD i 0 = mn (u.1.getD i 0) (l.1.getD i 0 + α) := fun i hi => by rw [e4, zw_getD (by omega) (by omega)]
      have sums : ∀ i, i < n → u'.1.getD i 0 + l'.1.getD i 0 = p.1.getD i 0 + q.1.getD i 0 := fun i hi => by
        rw [g3 i hi, g4 i hi, g1 i hi, g2 i hi]
        unfold mx mn
        repeat' split
        all_goals omega
      obtain ⟨a, ha, b, hb, e5, e6, hle2⟩ := ih α (by omega) u' l' hu' hl' (fun i hi => by
        have := hM i hi
        rw [g3 i hi, g4 i hi, g1 i hi, g2 i hi]
        unfold mx mn
        repeat' split
        all_goals omega)
      refine ⟨a, ha, b, hb, ?_, ?_, by omega⟩
      · rw [e5, midU_zw, midU_zw]
        refine eq_of_getD (by rw [zw_length (by omega), zw_length (by omega)]; omega) fun i hi => ?_
        rw [zw_length (by omega)] at hi
        have := sums i (by omega)
        rw [zw_getD (by omega) (by omega), zw_getD (by omega) (by omega)]
        omega
      · rw [e6, midL_zw, midL_zw]
        refine eq_of_getD (by rw [zw_length (by omega), zw_length (by omega)]; omega) fun i hi => ?_
        rw [zw_length (by omega)] at hi
        have := sums i (by omega)
        rw [zw_getD (by omega) (by omega), zw_getD (by omega) (by omega)]
        omega
theorem LSh.mid {n : Nat} {h : Hl} (hS : LSh h) (hd : ∀ p ∈ h, p.1.length = n) : LMid h := fun p hp q hq => by
  obtain ⟨M, hM⟩ := far_bound p.1 q.1
  exact hS.midM hd M p q hp hq fun i _ => hM i
theorem mid_comm : ∀ (x y : List Int), midU x y = midU y x ∧ midL x y = midL y x
  | [], [] => ⟨rfl, rfl⟩
  | [], _ :: _ => ⟨rfl, rfl⟩
  | _ :: _, [] => ⟨rfl, rfl⟩
  | a :: x, b :: y => by
    obtain ⟨h1, h2⟩ := mid_comm x y
    have e1 : midU (a :: x) (b :: y) = ((a + b + 1) / 2) :: midU x y := rfl
    have e2 : midL (a :: x) (b :: y) = ((a + b) / 2) :: midL x y := rfl
    have e3 : midU (b :: y) (a :: x) = ((b + a + 1) / 2) :: midU y x := rfl
    have e4 : midL (b :: y) (a :: x) = ((b + a) / 2) :: midL y x := rfl
    rw [e1, e2, e3, e4, h1, h2, Int.add_comm a b]
    exact ⟨rfl, rfl⟩
theorem mid_self : ∀ (x : List Int), midU x x = x ∧ midL x x = x
  | [] => ⟨rfl, rfl⟩
  | a :: x => by
    obtain ⟨h1, h2⟩ := mid_self x
    have e1 : midU (a :: x) (a :: x) = ((a + a + 1) / 2) :: midU x x := rfl
    have e2 : midL (a :: x) (a :: x) = ((a + a) / 2) :: midL x x := rfl
    rw [e1, e2, h1, h2]
    exact ⟨by congr 1; omega, by congr 1; omega⟩
/-- no break: all middles -/
theorem lbrk_mid {h : Hl} (hn : (h.map (·.1)).Nodup) (hb : PyE.lbrk h = none) : LMid h := by
  have key : ∀ i j : Nat, (hi : i < h.length) → (hj : j < h.length) → i < j → ∃ u ∈ h, ∃ l ∈ h, u.1 = midU h[i].1 h[j].1 ∧ l.1 = midL h[i].1 h[j].1 ∧ u.2 + l.2 ≤ h[i].2 + h[j].2 := fun i j hi hj hij => by
    unfold PyE.lbrk at hb
    rw [List.findSome?_eq_none_iff] at hb
    have h1 := hb (h[i].1, i) (by
      rw [List.mem_zipIdx_iff_getElem?]
      simp [List.getElem?_eq_getElem hi])
    unfold lbk at h1
    rw [List.findSome?_eq_none_iff] at h1
    have h2 := h1 h[j].1 (by
      have : j - (i + 1) < ((h.map (·.1)).drop (i + 1)).length := by simp; omega
      have e : ((h.map (·.1)).drop (i + 1))[j - (i + 1)] = h[j].1 := by
        rw [List.getElem_drop, List.getElem_map]
        congr 2
        omega
      rw [← e]; exact List.getElem_mem _)
    unfold lbq at h2
    have h3 : fairU h (midU h[i].1 h[j].1) (midL h[i].1 h[j].1) ((look h h[i].1).getD 0 + (look h h[j].1).getD 0) = true := by
      cases e : fairU h (midU h[i].1 h[j].1) (midL h[i].1 h[j].1) ((look h h[i].1).getD 0 + (look h h[j].1).getD 0) with
      | true => rfl
      | false => simp only [e] at h2; cases h2
    rw [look_some hn (x := h[i].1) (w := h[i].2) (List.getElem_mem _), look_some hn (x := h[j].1) (w := h[j].2) (List.getElem_mem _)] at h3
    unfold fairU at h3
    cases e1 : look h (midU h[i].1 h[j].1) with
    | none => rw [e1] at h3; cases h3
    | some a =>
      cases e2 : look h (midL h[i].1 h[j].1) with
      | none => rw [e1, e2] at h3; cases h3
      | some b =>
        rw [e1, e2] at h3
        exact ⟨_, look_mem e1, _, look_mem e2, rfl, rfl, of_decide_eq_true h3⟩
  intro p hp q hq
  obtain ⟨i, hi, rfl⟩ := List.getElem_of_mem hp
  obtain ⟨j, hj, rfl⟩ := List.getElem_of_mem hq
  rcases Nat.lt_trichotomy i j with h1 | h1 | h1
  · exact key i j hi hj h1
  · subst h1
    exact ⟨h[i], hp, h[i], hp, (mid_self _).1.symm, (mid_self _).2.symm, Int.le_refl _⟩
  · obtain ⟨u, hu, l, hl, e1, e2, hle⟩ := key j i hj hi h1
    exact ⟨u, hu, l, hl, by rw [e1, (mid_comm _ _).1], by rw [e2, (mid_comm _ _).2], by omega⟩
/-! ### breaks by shifts, plainly -/
def leadI (x y : List Int) : Int := maxI (0 :: (x.zip y).map fun p => p.1 - p.2)
def sqS (h : Hl) (x y : List Int) (a : Nat) : Option (List Int × List Int × Nat) := if fairU h (sU a x y) (sL a x y) ((look h x).getD 0 + (look h y).getD 0) = true then none else some (x, y, a)
def syS (h : Hl) (x y : List Int) : Option (List Int × List Int × Nat) := (List.range (leadI x y).toNat).findSome? (sqS h x y)
def sbrk (h : Hl) : Option (List Int × List Int × Nat) := (h.map (·.1)).findSome? fun x => (h.map (·.1)).findSome? (syS h x)
theorem lead_le {x y : List Int} (h : x.length = y.length) {i : Nat} (hi : i < x.length) : x.getD i 0 - y.getD i 0 ≤ leadI x y := by
  refine le_maxI (List.mem_cons_of_mem _ ?_)
  have hz : i < (x.zip y).length := by rw [List.length_zip]; omega
  refine List.mem_map.mpr ⟨(x.zip y)[i], List.getElem_mem _, ?_⟩
  rw [List.getElem_zip, List.getD_eq_getElem?_getD, List.getD_eq_getElem?_getD, List.getElem?_eq_getElem hi, List.getElem?_eq_getElem (by omega)]
  rfl
theorem sbrk_iff {n : Nat} {h : Hl} (hd : ∀ p ∈ h, p.1.length = n) (hn : (h.map (·.1)).Nodup) : sbrk h = none ↔ LSh h := by
  constructor
  · intro hb p hp q hq a
    have lp := hd p hp
    have lq := hd q hq
    by_cases ha : (a : Int) < leadI p.1 q.1
    · unfold sbrk at hb
      rw [List.findSome?_eq_none_iff] at hb
      have h1 := hb p.1 (List.mem_map_of_mem hp)
      rw [List.findSome?_eq_none_iff] at h1
      have h2 := h1 q.1 (List.mem_map_of_mem hq)
      unfold syS at h2
      rw [List.findSome?_eq_none_iff] at h2
      have h3 := h2 a (List.mem_range.mpr (by omega))
      unfold sqS at h3
      have h4 : fairU h (sU a p.1 q.1) (sL a p.1 q.1) ((look h p.1).getD 0 + (look h q.1).getD 0) = true := by
        cases e : fairU h (sU a p.1 q.1) (sL a p.1 q.1) ((look h p.1).getD 0 + (look h q.1).getD 0) with
        | true => rfl
        | false => simp only [e] at h3; cases h3
      rw [look_some hn (x := p.1) (w := p.2) hp, look_some hn (x := q.1) (w := q.2) hq] at h4
      unfold fairU at h4
      cases e1 : look h (sU a p.1 q.1) with
      | none => rw [e1] at h4; cases h4
      | some c =>
        cases e2 : look h (sL a p.1 q.1) with
        | none => rw [e1, e2] at h4; cases h4
        | some d =>
          rw [e1, e2] at h4
          exact ⟨_, look_mem e1, _, look_mem e2, rfl, rfl, of_decide_eq_true h4⟩
    · refine ⟨q, hq, p, hp, ?_, ?_, by omega⟩
      · refine eq_of_getD (by rw [zw_length (by omega)]; omega) fun i hi => ?_
        have := lead_le (x := p.1) (y := q.1) (by omega) (i := i) (by omega)
        rw [zw_getD (by omega) (by omega)]
        unfold mx
        split <;> omega
      · refine eq_of_getD (by rw [zw_length (by omega)]) fun i hi => ?_
        have := lead_le (x := p.1) (y := q.1) (by omega) (i := i) (by omega)
        rw [zw_getD (by omega) (by omega)]
        unfold mn
        split <;> omega
  · intro hS
    unfold sbrk
    rw [List.findSome?_eq_none_iff]
    intro x hx
    rw [List.findSome?_eq_none_iff]
    intro y hy
    unfold syS
    rw [List.findSome?_eq_none_iff]
    intro a _
    obtain ⟨p, hp, rfl⟩ := List.mem_map.mp hx
    obtain ⟨q, hq, rfl⟩ := List.mem_map.mp hy
    obtain ⟨u, hu, l, hl, eu, el, hle⟩ := hS p hp q hq a
    unfold sqS
    rw [if_pos]
    unfold fairU
    rw [← eu, ← el, look_some hn (x := u.1) (w := u.2) hu, look_some hn (x := l.1) (w := l.2) hl, look_some hn (x := p.1) (w := p.2) hp, look_some hn (x := q.1) (w := q.2) hq]
    exact decide_eq_true hle
theorem sbrk_lbrk {n : Nat} {h : Hl} (hd : ∀ p ∈ h, p.1.length = n) (hn : (h.map (·.1)).Nodup) : PyE.lbrk h = none ↔ sbrk h = none := by
  rw [sbrk_iff hd hn]
  exact ⟨fun e => (lbrk_mid hn e).shift hd hn, fun s => (s.mid hd).lbrk hn⟩
end PyE

/-! PyP: lot tables: falling by near looks is falling -/
namespace PyE
open PySem PySem.Spec PyProof.Rows
open L2
def bitN (a i : Nat) : Bool := a >>> i &&& 1 == 1
theorem bit_test (a i : Nat) : bitN a i = a.testBit i := by
  unfold bitN Nat.testBit
  rw [Nat.and_one_is_mod, Nat.one_and_eq_mod_two]
  rcases Nat.mod_two_eq_zero_or_one (a >>> i) with h | h <;> rw [h] <;> rfl
def lotN (a : Nat) : List Nat := (List.range 4).filter (bitN a)
def tt (T : List Int) (a : Nat) : Int := T.getD a 0
def fbq (T : List Int) (a b : Nat) : Option (Nat × Nat) := if tt T a + tt T b < tt T (a &&& b) + tt T (a ||| b) then some (a, b) else none
def fbrk (T : List Int) : Option (Nat × Nat) := (List.range T.length).findSome? fun a => (List.range (T.length - (a + 1))).findSome? fun k => fbq T a (a + 1 + k)
def nfq (T : List Int) (a i j : Nat) : Option (Nat × Nat × Nat) := if tt T (a ||| 2 ^ i) + tt T (a ||| 2 ^ j) < tt T (a ||| 2 ^ i ||| 2 ^ j) + tt T a then some (a, i, j) else none
def pairsL (n a : Nat) : List (Nat × Nat) := (List.range n).flatMap fun i => ((List.range (n - (i + 1))).map fun k => (i, i + 1 + k)).filter fun p => a &&& (2 ^ p.1 ||| 2 ^ p.2) == 0
def restN (n a : Nat) : List Nat := (List.range n).filter fun i => !bitN a i
def pairsP (n a : Nat) : List (Nat × Nat) := (restN n a).zipIdx.flatMap fun z => ((restN n a).drop (z.2 + 1)).map fun j => (z.1, j)
theorem pairs_same : ∀ n : Fin 5, ∀ a : Fin 16, pairsP n.val a.val = pairsL n.val a.val := by decide +kernel
def nbrk (T : List Int) (n : Nat) : Option (Nat × Nat × Nat) := (List.range T.length).findSome? fun a => (pairsL n a).findSome? fun p => nfq T a p.1 p.2
theorem findSome_flatMap {α β γ : Type} (f : α → List β) (g : β → Option γ) : ∀ (l : List α), (l.flatMap f).findSome? g = l.findSome? fun x => (f x).findSome? g
  | [] => rfl
  | x :: l => by
    rw [List.flatMap_cons, List.findSome?_append, List.findSome?_cons, findSome_flatMap f g l]
    cases (f x).findSome? g <;> rfl
theorem findSome_filter {α β : Type} (p : α → Bool) (g : α → Option β) : ∀ (l : List α), (l.filter p).findSome? g = l.findSome? fun x => if p x = true then g x else none
  | [] => rfl
  | x :: l => by
    rw [List.filter_cons, List.findSome?_cons]
    cases h : p x
    · rw [if_neg (by simp), if_neg (by simp)]; exact findSome_filter p g l
    · rw [if_pos rfl, if_pos rfl, List.findSome?_cons, findSome_filter p g l]
/-- falling -/
def SubF (N : Nat) (f : Nat → Int) : Prop := ∀ a b, a < N → b < N → f (a &&& b) + f (a ||| b) ≤ f a + f b
theorem fbrk_iff {T : List Int} : fbrk T = none ↔ SubF T.length (tt T) := by
  constructor
  · intro h a b ha hb
    have key : ∀ a b, a < T.length → b < T.length → a < b → tt T (a &&& b) + tt T (a ||| b) ≤ tt T a + tt T b := fun a b ha hb hab => by
      unfold fbrk at h
      rw [List.findSome?_eq_none_iff] at h
      have h1 := h a (List.mem_range.mpr ha)
      rw [List.findSome?_eq_none_iff] at h1
      have h2 := h1 (b - (a + 1)) (List.mem_range.mpr (by omega))
      rw [show a + 1 + (b - (a + 1)) = b by omega] at h2
      unfold fbq at h2
      split at h2
      · cases h2
      · omega
    rcases Nat.lt_trichotomy a b with h1 | h1 | h1
    · exact key a b ha hb h1
    · subst h1; rw [Nat.and_self, Nat.or_self]; omega
    · have := key b a hb ha h1
      rw [Nat.and_comm, Nat.or_comm]; omega
  · intro h
    unfold fbrk
    rw [List.findSome?_eq_none_iff]
    intro a ha
    rw [List.findSome?_eq_none_iff]
    intro k hk
    have ha := List.mem_range.mp ha
    have hk := List.mem_range.mp hk
    have := h a (a + 1 + k) ha (by omega)
    unfold fbq
    rw [if_neg (by omega)]
def Loc (n : Nat) (f : Nat → Int) : Prop := ∀ S i j, S < 2 ^ n → i < n → j < n → i ≠ j → S.testBit i = false → S.testBit j = false → f (S ||| 2 ^ i ||| 2 ^ j) + f S ≤ f (S ||| 2 ^ i) + f (S ||| 2 ^ j)
theorem and_pairs {a i j : Nat} (hi : a.testBit i = false) (hj : a.testBit j = false) : a &&& (2 ^ i ||| 2 ^ j) = 0 := by
  refine Nat.eq_of_testBit_eq fun k => ?_
  rw [Nat.testBit_and, Nat.testBit_or, Nat.testBit_two_pow, Nat.testBit_two_pow, Nat.zero_testBit]
  by_cases h1 : i = k
  · subst h1; rw [hi]; rfl
  · by_cases h2 : j = k
    · subst h2; rw [hj]; rfl
    · rw [decide_eq_false h1, decide_eq_false h2]; simp
theorem or_swap (a b c : Nat) : a ||| b ||| c = a ||| c ||| b := by rw [Nat.or_assoc, Nat.or_comm b c, ← Nat.or_assoc]
theorem nbrk_loc {n : Nat} {T : List Int} (hl : T.length = 2 ^ n) (h : nbrk T n = none) : Loc n (tt T) := by
  have key : ∀ S i j, S < 2 ^ n → i < j → j < n → S.testBit i = false → S.testBit j = false → tt T (S ||| 2 ^ i ||| 2 ^ j) + tt T S ≤ tt T (S ||| 2 ^ i) + tt T (S ||| 2 ^ j) := fun S i j hS hij hj h1 h2 => by
    unfold nbrk at h
    rw [List.findSome?_eq_none_iff] at h
    have h3 := h S (List.mem_range.mpr (by omega))
    rw [List.findSome?_eq_none_iff] at h3
    have h4 := h3 (i, j) (List.mem_flatMap.mpr ⟨i, List.mem_range.mpr (by omega), List.mem_filter.mpr ⟨List.mem_map.mpr ⟨j - (i + 1), List.mem_range.mpr (by omega), by rw [show i + 1 + (j - (i + 1)) = j by omega]⟩, by rw [and_pairs h1 h2]; rfl⟩⟩)
    unfold nfq at h4
    split at h4
    · cases h4
    · simp only at *; omega
  intro S i j hS hi hj hij h1 h2
  rcases Nat.lt_or_gt_of_ne hij with h | h
  · exact key S i j hS h hj h1 h2
  · have := key S j i hS h hi h2 h1
    rw [or_swap]; omega
def orm (S : Nat) (A : List Nat) : Nat := A.foldl (fun s i => s ||| 2 ^ i) S
theorem orm_cons (S i : Nat) (A : List Nat) : orm S (i :: A) = orm (S ||| 2 ^ i) A := rfl
theorem bit_or_two {S i j : Nat} (h : S.testBit i = false) (hij : j ≠ i) : (S ||| 2 ^ j).testBit i = false := by
  rw [Nat.testBit_or, h, Nat.testBit_two_pow, decide_eq_false hij]; rfl
theorem or_lt {n S i : Nat} (hS : S < 2 ^ n) (hi : i < n) : S ||| 2 ^ i < 2 ^ n := Nat.or_lt_two_pow hS (Nat.pow_lt_pow_right (by omega) hi)
theorem loc_one {n : Nat} {f : Nat → Int} (hL : Loc n f) : ∀ (B : List Nat) (S i : Nat), S < 2 ^ n → i < n → S.testBit i = false → B.Nodup → (∀ j ∈ B, j < n ∧ j ≠ i ∧ S.testBit j = false) → f (orm (S ||| 2 ^ i) B) + f S ≤ f (S ||| 2 ^ i) + f (orm S B)
  | [], S, i, _, _, _, _, _ => by show f (S ||| 2 ^ i) + f S ≤ f (S ||| 2 ^ i) + f S; omega
  | j :: B, S, i, hS, hi, h1, hn, hB => by
    obtain ⟨hj, hji, hjS⟩ := hB j (List.mem_cons_self ..)
    have hn := List.nodup_cons.mp hn
    have h2 := loc_one hL B (S ||| 2 ^ j) i (or_lt hS hj) hi (bit_or_two h1 hji) hn.2 fun k hk => by
      obtain ⟨a, b, c⟩ := hB k (List.mem_cons_of_mem _ hk)
      exact ⟨a, b, bit_or_two c (fun e => hn.1 (e ▸ hk))⟩
    have h3 := hL S i j hS hi hj (fun e => hji e.symm) h1 hjS
    have e : S ||| 2 ^ j ||| 2 ^ i = S ||| 2 ^ i ||| 2 ^ j := or_swap ..
    rw [orm_cons, orm_cons]
    rw [e] at h2
    omega
theorem loc_two {n : Nat} {f : Nat → Int} (hL : Loc n f) (B : List Nat) (hBn : B.Nodup) : ∀ (A : List Nat) (S : Nat), S < 2 ^ n → A.Nodup → (∀ i ∈ A, i < n ∧ S.testBit i = false ∧ i ∉ B) → (∀ j ∈ B, j < n ∧ S.testBit j = false) → f (orm (orm S A) B) + f S ≤ f (orm S A) + f (orm S B)
  | [], S, _, _, _, _ => by show f (orm S B) + f S ≤ f S + f (orm S B); omega
  | i :: A, S, hS, hn, hA, hB => by
    obtain ⟨hi, hiS, hiB⟩ := hA i (List.mem_cons_self ..)
    have hn := List.nodup_cons.mp hn
    have h1 := loc_one hL B S i hS hi hiS hBn fun j hj => ⟨(hB j hj).1, fun e => hiB (e ▸ hj), (hB j hj).2⟩
    have h2 := loc_two hL B hBn A (S ||| 2 ^ i) (or_lt hS hi) hn.2 (fun k hk => by
      obtain ⟨a, b, c⟩ := hA k (List.mem_cons_of_mem _ hk)
      exact ⟨a, bit_or_two b (fun e => hn.1 (e ▸ hk)), c⟩) (fun j hj => ⟨(hB j hj).1, bit_or_two (hB j hj).2 (fun e => hiB (e ▸ hj))⟩)
    rw [orm_cons]
    omega
def onlyN (a b : Nat) : List Nat := (List.range 4).filter fun i => a.testBit i && !b.testBit i
def okAB (n a b : Nat) : Bool := (onlyN a b).all (fun i => decide (i < n) && (!(a &&& b).testBit i && !(onlyN b a).contains i)) && ((onlyN b a).all (fun i => decide (i < n) && !(a &&& b).testBit i) &&
  (orm (a &&& b) (onlyN a b) == a && (orm (a &&& b) (onlyN b a) == b && orm (orm (a &&& b) (onlyN a b)) (onlyN b a) == a ||| b)))
theorem okAB_all : ∀ n : Fin 5, ∀ a : Fin 16, ∀ b : Fin 16, a.val < 2 ^ n.val → b.val < 2 ^ n.val → okAB n.val a.val b.val = true := by decide +kernel
theorem pow_le16 {n : Nat} (hn : n ≤ 4) : 2 ^ n ≤ 16 := Nat.pow_le_pow_right (by omega) hn
theorem loc_sub {n : Nat} (hn : n ≤ 4) {f : Nat → Int} (hL : Loc n f) : SubF (2 ^ n) f := by
  intro a b ha hb
  have h16 := pow_le16 hn
  have ok := okAB_all ⟨n, by omega⟩ ⟨a, by omega⟩ ⟨b, by omega⟩ ha hb
  unfold okAB at ok
  simp only [Bool.and_eq_true, List.all_eq_true, decide_eq_true_eq, Bool.not_eq_true', beq_iff_eq] at ok
  obtain ⟨h1, h2, h3, h4, h5⟩ := ok
  have hnd : ∀ a b, (onlyN a b).Nodup := fun a b => List.nodup_range.filter _
  have h := loc_two hL (onlyN b a) (hnd b a) (onlyN a b) (a &&& b) (Nat.lt_of_le_of_lt Nat.and_le_left ha) (hnd a b) (fun i hi => ⟨(h1 i hi).1, (h1 i hi).2.1, fun e => by
    have := (h1 i hi).2.2
    rw [List.contains_iff_mem.mpr e] at this
    cases this⟩) (fun j hj => h2 j hj)
  rw [h5, h3, h4] at h
  omega
theorem sub_nbrk {n : Nat} (hn : n ≤ 4) {T : List Int} (hl : T.length = 2 ^ n) (hS : SubF (2 ^ n) (tt T)) : nbrk T n = none := by
  unfold nbrk
  rw [List.findSome?_eq_none_iff]
  intro a ha
  rw [List.findSome?_eq_none_iff]
  intro p hp
  have ha := List.mem_range.mp ha
  have h16 := pow_le16 hn
  obtain ⟨i, hi, hp⟩ := List.mem_flatMap.mp hp
  obtain ⟨hp, hz⟩ := List.mem_filter.mp hp
  obtain ⟨k, hk, rfl⟩ := List.mem_map.mp hp
  have hi := List.mem_range.mp hi
  have hk := List.mem_range.mp hk
  have chk : ∀ a : Fin 16, ∀ i : Fin 4, ∀ j : Fin 4, i.val ≠ j.val → a.val &&& (2 ^ i.val ||| 2 ^ j.val) = 0 → (a.val ||| 2 ^ i.val) &&& (a.val ||| 2 ^ j.val) = a.val ∧ (a.val ||| 2 ^ i.val) ||| (a.val ||| 2 ^ j.val) = a.val ||| 2 ^ i.val ||| 2 ^ j.val := by decide +kernel
  have hc := chk ⟨a, by omega⟩ ⟨i, by omega⟩ ⟨i + 1 + k, by omega⟩ (by simp only; omega) (by simpa using hz)
  simp only at hc
  have h := hS (a ||| 2 ^ i) (a ||| 2 ^ (i + 1 + k)) (or_lt (by omega) hi) (or_lt (by omega) (by omega))
  rw [hc.1, hc.2] at h
  unfold nfq
  rw [if_neg (by simp only; omega)]
/-- both looks tell None together -/
theorem breaks_same {n : Nat} (hn : n ≤ 4) {T : List Int} (hl : T.length = 2 ^ n) : fbrk T = none ↔ nbrk T n = none := by
  rw [fbrk_iff, hl]
  exact ⟨sub_nbrk hn hl, fun h => loc_sub hn (nbrk_loc hl h)⟩
/-! ### turned tables -/
def tab (N : Nat) (f : Nat → Int) : List Int := (List.range N).map f
theorem tab_length (N : Nat) (f : Nat → Int) : (tab N f).length = N := by simp [tab]
theorem tab_at {N : Nat} {f : Nat → Int} {a : Nat} (h : a < N) : tt (tab N f) a = f a := by
  unfold tt tab
  rw [List.getD_eq_getElem?_getD, List.getElem?_map, List.getElem?_range h]
  rfl
theorem tab_self (T : List Int) : tab T.length (tt T) = T := range_getD T
def turN (T : List Int) : List Int := tab T.length fun a => tt T (T.length - 1 - a) - tt T (T.length - 1)
theorem comp_and : ∀ n : Fin 5, ∀ a : Fin 16, ∀ b : Fin 16, a.val < 2 ^ n.val → b.val < 2 ^ n.val → 2 ^ n.val - 1 - (a.val &&& b.val) = (2 ^ n.val - 1 - a.val) ||| (2 ^ n.val - 1 - b.val) ∧ 2 ^ n.val - 1 - (a.val ||| b.val) = (2 ^ n.val - 1 - a.val) &&& (2 ^ n.val - 1 - b.val) := by decide +kernel
theorem SubF.congr {N : Nat} {n : Nat} (hN : N = 2 ^ n) {f g : Nat → Int} (h : ∀ a, a < N → f a = g a) (hS : SubF N f) : SubF N g := fun a b ha hb => by
  subst hN
  have h1 := hS a b ha hb
  rw [← h a ha, ← h b hb, ← h _ (Nat.lt_of_le_of_lt Nat.and_le_left ha), ← h _ (Nat.or_lt_two_pow ha hb)]
  exact h1
theorem sub_turn {n : Nat} (hn : n ≤ 4) {f : Nat → Int} (c : Int) (hS : SubF (2 ^ n) f) : SubF (2 ^ n) (fun a => f (2 ^ n - 1 - a) - c) := fun a b ha hb => by
  have h16 := pow_le16 hn
  have h3 := comp_and ⟨n, by omega⟩ ⟨a, by omega⟩ ⟨b, by omega⟩ ha hb
  have h1 : 2 ^ n - 1 - (a &&& b) = (2 ^ n - 1 - a) ||| (2 ^ n - 1 - b) := h3.1
  have h2 : 2 ^ n - 1 - (a ||| b) = (2 ^ n - 1 - a) &&& (2 ^ n - 1 - b) := h3.2
  simp only
  rw [h1, h2]
  have := hS (2 ^ n - 1 - a) (2 ^ n - 1 - b) (by omega) (by omega)
  omega
theorem turn_iff {n : Nat} (hn : n ≤ 4) {T : List Int} (hl : T.length = 2 ^ n) : fbrk (turN T) = none ↔ fbrk T = none := by
  have hp : 0 < 2 ^ n := Nat.pow_pos (by omega)
  have l2 : (turN T).length = 2 ^ n := by unfold turN; rw [tab_length, hl]
  have e : ∀ a, a < 2 ^ n → tt (turN T) a = tt T (2 ^ n - 1 - a) - tt T (2 ^ n - 1) := fun a ha => by unfold turN; rw [tab_at (by omega), hl]
  rw [fbrk_iff, fbrk_iff, l2, hl]
  constructor
  · intro h
    refine SubF.congr rfl (fun a ha => ?_) (sub_turn hn (-tt T (2 ^ n - 1)) h)
    rw [e _ (by omega), show 2 ^ n - 1 - (2 ^ n - 1 - a) = a by omega]
    omega
  · intro h
    exact SubF.congr rfl (fun a ha => (e a ha).symm) (sub_turn hn (tt T (2 ^ n - 1)) h)
theorem turn_turn {n : Nat} {T : List Int} (hl : T.length = 2 ^ n) (h0 : tt T 0 = 0) : turN (turN T) = T := by
  have hp : 0 < 2 ^ n := Nat.pow_pos (by omega)
  have l2 : (turN T).length = 2 ^ n := by unfold turN; rw [tab_length, hl]
  have e : ∀ a, a < 2 ^ n → tt (turN T) a = tt T (2 ^ n - 1 - a) - tt T (2 ^ n - 1) := fun a ha => by unfold turN; rw [tab_at (by omega), hl]
  conv => rhs; rw [← tab_self T, hl]
  unfold turN
  rw [tab_length, hl]
  refine List.map_congr_left fun a ha => ?_
  have ha := List.mem_range.mp ha
  have e1 := e (2 ^ n - 1 - a) (by omega)
  have e2 := e (2 ^ n - 1) (by omega)
  unfold turN at e1 e2
  rw [hl] at e1 e2
  rw [e1, e2, show 2 ^ n - 1 - (2 ^ n - 1 - a) = a by omega, show 2 ^ n - 1 - (2 ^ n - 1) = 0 by omega, h0]
  omega
/-! ### falling ones -/
def capN2 (cap lot a : Nat) : Nat := min cap (lotN (a &&& lot)).length
theorem cap_sub : ∀ cap : Fin 3, ∀ lot : Fin 16, ∀ a : Fin 16, ∀ b : Fin 16, capN2 cap.val lot.val (a.val &&& b.val) + capN2 cap.val lot.val (a.val ||| b.val) ≤ capN2 cap.val lot.val a.val + capN2 cap.val lot.val b.val := by decide +kernel
theorem sub_cap {n : Nat} (hn : n ≤ 4) {f : Nat → Int} (hS : SubF (2 ^ n) f) {w : Int} (hw : w = 1 ∨ w = 2) {cap lot : Nat} (hc : cap < 3) (hl : lot < 16) : SubF (2 ^ n) (fun a => f a + w * (capN2 cap lot a : Int)) := fun a b ha hb => by
  have h16 := pow_le16 hn
  have h1 := cap_sub ⟨cap, hc⟩ ⟨lot, hl⟩ ⟨a, by omega⟩ ⟨b, by omega⟩
  have h2 := hS a b ha hb
  simp only at h1 ⊢
  rcases hw with rfl | rfl <;> omega
def onF (s : List Int) (k : Nat) : Int := ((s.zipIdx.filter fun p => bitN k p.2).map (·.1)).sum
theorem sum_filter {α : Type} (p : α → Bool) (f : α → Int) : ∀ (l : List α), ((l.filter p).map f).sum = (l.map fun x => if p x = true then f x else 0).sum
  | [] => rfl
  | x :: l => by
    rw [List.filter_cons, List.map_cons, List.sum_cons, ← sum_filter p f l]
    cases h : p x
    · simp
    · simp
theorem on_sum (s : List Int) (k : Nat) : onF s k = (s.zipIdx.map fun p => if bitN k p.2 = true then p.1 else 0).sum := sum_filter _ _ _
theorem on_mod (s : List Int) (a b : Nat) : onF s (a &&& b) + onF s (a ||| b) = onF s a + onF s b := by
  rw [on_sum, on_sum, on_sum, on_sum]
  have key : ∀ p : Int × Nat, (if bitN (a &&& b) p.2 = true then p.1 else 0) + (if bitN (a ||| b) p.2 = true then p.1 else 0) = (if bitN a p.2 = true then p.1 else 0) + (if bitN b p.2 = true then p.1 else 0) := fun p => by
    rw [bit_test, bit_test, bit_test, bit_test, Nat.testBit_and, Nat.testBit_or]
    cases a.testBit p.2 <;> cases b.testBit p.2 <;> simp
  have h1 := sum_le2 (l := s.zipIdx) fun p _ => Int.le_of_eq (key p)
  have h2 := sum_le2 (l := s.zipIdx) fun p _ => Int.le_of_eq (key p).symm
  omega
theorem sub_on {N : Nat} {f : Nat → Int} (hS : SubF N f) (s : List Int) : SubF N (fun a => f a + onF s a) := fun a b ha hb => by
  have h1 := on_mod s a b
  have h2 := hS a b ha hb
  simp only
  omega
end PyE

namespace LawP
open PySem PySem.Spec PyProof.Rows L2 PyE
def topS (i : Nat) : Stmt := PySem.Challenge.pw_wholehills_k47_lots_judged.main.body.getD i (.Pass ⟨0, 0, 0, 0⟩)
abbrev st_is_whole : Stmt := topS 2
theorem sc_is_whole : FnScope ["value", "low", "high"] ["value", "low", "high"] (defScope st_is_whole) := ⟨rfl, rfl, rfl, by decide +kernel, rfl, by decide +kernel, by decide +kernel⟩
def g_is_whole : Sf := (retS (andE (isiE "int" (slotE 0)) (andE (notE (isiE "bool" (slotE 0))) (chainE (cmpDT (fun i j => decide (i ≤ j)) lesL) (cmpDT (fun i j => decide (i ≤ j)) lesL) (slotE 1) (slotE 0) (slotE 2)))))
def m_is_whole : Fm := runF 3 3 [0, 1, 2] g_is_whole
theorem len_is_whole : ∀ ms, ms.length ≠ 3 → m_is_whole ms = .no := runF_len _ _ _ _
abbrev st_lots_error : Stmt := topS 5
theorem sc_lots_error : FnScope ["value", "place", "item"] ["value"] (defScope st_lots_error) := ⟨rfl, rfl, rfl, by decide +kernel, rfl, by decide +kernel, by decide +kernel⟩
def g_lots_error : Sf := (seqS (ifS (orT (notT (testE (isiE "tuple" (slotE 0)))) (boolE (op1E (gdinD true [(2, 1), (4, 2), (8, 3), (16, 4)]) (opNE lenD [(slotE 0)])))) (retS (dataE (.str "form"))) skipS) (seqS (forS (itEnum (slotE 0)) (tgTup [(tgName 1), (tgName 2)]) (ifS (notT (testE (callE m_is_whole [(slotE 2), (op1E negD (dataE (.int 1000))), (dataE (.int 1000))]))) (retS (tupE [(dataE (.str "item")), (slotE 1)])) skipS)) (retS (ifE (boolE (op2E neD (op2E ixDD (slotE 0) (dataE (.int 0))) (dataE (.int 0)))) (dataE (.str "nought")) (dataE .none)))))
def m_lots_error : Fm := runF 1 3 [0] g_lots_error
theorem len_lots_error : ∀ ms, ms.length ≠ 1 → m_lots_error ms = .no := runF_len _ _ _ _
abbrev st_lot_number : Stmt := topS 6
theorem sc_lot_number : FnScope ["lot", "place"] ["lot"] (defScope st_lot_number) := ⟨rfl, rfl, rfl, by decide +kernel, rfl, by decide +kernel, by decide +kernel⟩
def g_lot_number : Sf := (retS (opNE sumD [(compE [1] (itSeq (slotE 0)) (tgName 1) yesT (op2E shlD (dataE (.int 1)) (slotE 1)))]))
def m_lot_number : Fm := runF 1 2 [0] g_lot_number
theorem len_lot_number : ∀ ms, ms.length ≠ 1 → m_lot_number ms = .no := runF_len _ _ _ _
abbrev st_lot_of : Stmt := topS 7
theorem sc_lot_of : FnScope ["number", "place"] ["number"] (defScope st_lot_of) := ⟨rfl, rfl, rfl, by decide +kernel, rfl, by decide +kernel, by decide +kernel⟩
def g_lot_of : Sf := (retS (opNE tupleD [(compE [1] (itRange1 [(dataE (.int 4))]) (tgName 1) (testE (op2E bandD (op2E shrD (slotE 0) (slotE 1)) (dataE (.int 1)))) (slotE 1))]))
def m_lot_of : Fm := runF 1 2 [0] g_lot_of
theorem len_lot_of : ∀ ms, ms.length ≠ 1 → m_lot_of ms = .no := runF_len _ _ _ _
abbrev st__law_pot : Stmt := topS 9
theorem sc__law_pot : FnScope ["script", "cells", "mixed", "cell"] ["script"] (defScope st__law_pot) := ⟨rfl, rfl, rfl, by decide +kernel, rfl, by decide +kernel, by decide +kernel⟩
def g__law_pot : Sf := (seqS (parS 1 2 (compE [3] (itSeq (sliceE (slotE 0) none (some (dataE (.int 63))))) (tgName 3) yesT (op2E addD (op2E mulD (dataE (.int 2)) (opNE absD [(slotE 3)])) (opNE int1D [(op2E (cmpDT (fun i j => decide (i < j)) ltL) (slotE 3) (dataE (.int 0)))]))) (op2E addD (dataE (.int 16244)) (op2E mulD (dataE (.int 61)) (opNE lenD [(slotE 0)])))) (seqS (forS (itSeq (slotE 1)) (tgName 3) (setS 2 (op2E modD (op2E addD (op2E addD (op2E mulD (slotE 2) (dataE (.int 69069))) (slotE 3)) (dataE (.int 11))) (dataE (.int 4294967291))))) (retS (potE [(compE [3] (itSeq (slotE 1)) (tgName 3) (boolE (op2E (cmpDT (fun i j => decide (j < i)) gtsL) (slotE 3) (op2E powD (dataE (.int 10)) (dataE (.int 12))))) (slotE 3)), (slotE 2), (dataE (.int 0))]))))
def m__law_pot : Fm := runF 1 4 [0] g__law_pot
theorem len__law_pot : ∀ ms, ms.length ≠ 1 → m__law_pot ms = .no := runF_len _ _ _ _
abbrev st__law_of : Stmt := topS 10
theorem sc__law_of : FnScope ["pot", "many", "cell", "number"] ["pot", "many"] (defScope st__law_of) := ⟨rfl, rfl, rfl, by decide +kernel, rfl, by decide +kernel, by decide +kernel⟩
abbrev st__law_one : Stmt := topS 11
theorem sc__law_one : FnScope ["pot", "items"] ["pot", "items"] (defScope st__law_one) := ⟨rfl, rfl, rfl, by decide +kernel, rfl, by decide +kernel, by decide +kernel⟩
def g__law_one : Sf := (retS (op2E ixDD (slotE 1) (callE drawFA [(slotE 0), (opNE lenD [(slotE 1)])])))
def m__law_one : Fm := runF 2 2 [0, 1] g__law_one
theorem len__law_one : ∀ ms, ms.length ≠ 2 → m__law_one ms = .no := runF_len _ _ _ _
abbrev st__law_from : Stmt := topS 12
theorem sc__law_from : FnScope ["pot", "low", "high"] ["pot", "low", "high"] (defScope st__law_from) := ⟨rfl, rfl, rfl, by decide +kernel, rfl, by decide +kernel, by decide +kernel⟩
def g__law_from : Sf := (retS (op2E addD (slotE 1) (callE drawFA [(slotE 0), (op2E addD (op2E subD (slotE 2) (slotE 1)) (dataE (.int 1)))])))
def m__law_from : Fm := runF 3 3 [0, 1, 2] g__law_from
theorem len__law_from : ∀ ms, ms.length ≠ 3 → m__law_from ms = .no := runF_len _ _ _ _
abbrev st__law_is_number : Stmt := topS 13
theorem sc__law_is_number : FnScope ["value", "low", "high"] ["value", "low", "high"] (defScope st__law_is_number) := ⟨rfl, rfl, rfl, by decide +kernel, rfl, by decide +kernel, by decide +kernel⟩
def g__law_is_number : Sf := (retS (andE (isiE "int" (slotE 0)) (andE (notE (isiE "bool" (slotE 0))) (chainE (cmpDT (fun i j => decide (i ≤ j)) lesL) (cmpDT (fun i j => decide (i ≤ j)) lesL) (slotE 1) (slotE 0) (slotE 2)))))
def m__law_is_number : Fm := runF 3 3 [0, 1, 2] g__law_is_number
theorem len__law_is_number : ∀ ms, ms.length ≠ 3 → m__law_is_number ms = .no := runF_len _ _ _ _
abbrev st__law_lots_fault : Stmt := topS 14
theorem sc__law_lots_fault : FnScope ["value", "k", "item"] ["value"] (defScope st__law_lots_fault) := ⟨rfl, rfl, rfl, by decide +kernel, rfl, by decide +kernel, by decide +kernel⟩
def g__law_lots_fault : Sf := (seqS (ifS (orT (notT (testE (isiE "tuple" (slotE 0)))) (boolE (op2E (inDD true) (opNE lenD [(slotE 0)]) (tupE [(dataE (.int 2)), (dataE (.int 4)), (dataE (.int 8)), (dataE (.int 16))])))) (retS (dataE (.str "form"))) skipS) (seqS (forS (itEnum (slotE 0)) (tgTup [(tgName 1), (tgName 2)]) (ifS (notT (testE (callE m__law_is_number [(slotE 2), (op1E negD (dataE (.int 1000))), (dataE (.int 1000))]))) (retS (tupE [(dataE (.str "item")), (slotE 1)])) skipS)) (retS (ifE (boolE (op2E eqD (op2E ixDD (slotE 0) (dataE (.int 0))) (dataE (.int 0)))) (dataE .none) (dataE (.str "nought"))))))
def m__law_lots_fault : Fm := runF 1 3 [0] g__law_lots_fault
theorem len__law_lots_fault : ∀ ms, ms.length ≠ 1 → m__law_lots_fault ms = .no := runF_len _ _ _ _
abbrev st__law_lot : Stmt := topS 15
theorem sc__law_lot : FnScope ["number", "i"] ["number"] (defScope st__law_lot) := ⟨rfl, rfl, rfl, by decide +kernel, rfl, by decide +kernel, by decide +kernel⟩
def g__law_lot : Sf := (retS (opNE tupleD [(compE [1] (itRange1 [(dataE (.int 4))]) (tgName 1) (boolE (op2E eqD (op2E bandD (op2E shrD (slotE 0) (slotE 1)) (dataE (.int 1))) (dataE (.int 1)))) (slotE 1))]))
def m__law_lot : Fm := runF 1 2 [0] g__law_lot
theorem len__law_lot : ∀ ms, ms.length ≠ 1 → m__law_lot ms = .no := runF_len _ _ _ _
abbrev st__law_on : Stmt := topS 16
theorem sc__law_on : FnScope ["point", "number", "i", "x"] ["point", "number"] (defScope st__law_on) := ⟨rfl, rfl, rfl, by decide +kernel, rfl, by decide +kernel, by decide +kernel⟩
def g__law_on : Sf := (retS (opNE sumD [(compE [2, 3] (itEnum (slotE 0)) (tgTup [(tgName 2), (tgName 3)]) (boolE (op2E eqD (op2E bandD (op2E shrD (slotE 1) (slotE 2)) (dataE (.int 1))) (dataE (.int 1)))) (slotE 3))]))
def m__law_on : Fm := runF 2 4 [0, 1] g__law_on
theorem len__law_on : ∀ ms, ms.length ≠ 2 → m__law_on ms = .no := runF_len _ _ _ _
abbrev st__law_falling : Stmt := topS 17
theorem sc__law_falling : FnScope ["pot", "many", "found", "turn", "lot", "cap", "weight", "single", "a", "item", "i"] ["pot", "many"] (defScope st__law_falling) := ⟨rfl, rfl, rfl, by decide +kernel, rfl, by decide +kernel, by decide +kernel⟩
def g__law_falling : Sf := (seqS (setS 2 (op2E mulD (lstE [(dataE (.int 0))]) (op2E shlD (dataE (.int 1)) (slotE 1)))) (seqS (forS (itRange1 [(callE drawFA [(slotE 0), (dataE (.int 4))])]) (tgName 3) (seqS (setT (tgTup [(tgName 4), (tgName 5), (tgName 6)]) (tupE [(op2E addD (dataE (.int 1)) (callE drawFA [(slotE 0), (op2E subD (op2E shlD (dataE (.int 1)) (slotE 1)) (dataE (.int 1)))])), (op2E addD (dataE (.int 1)) (callE drawFA [(slotE 0), (dataE (.int 2))])), (op2E addD (dataE (.int 1)) (callE drawFA [(slotE 0), (dataE (.int 2))]))])) (setS 2 (compE [8, 9] (itEnum (slotE 2)) (tgTup [(tgName 8), (tgName 9)]) yesT (op2E addD (slotE 9) (op2E mulD (slotE 6) (opNE min2D [(slotE 5), (opNE lenD [(callE m__law_lot [(op2E bandD (slotE 8) (slotE 4))])])]))))))) (seqS (setS 7 (compE [10] (itRange1 [(slotE 1)]) (tgName 10) yesT (callE m__law_from [(slotE 0), (op1E negD (dataE (.int 2))), (dataE (.int 2))]))) (retS (opNE tupleD [(compE [8, 9] (itEnum (slotE 2)) (tgTup [(tgName 8), (tgName 9)]) yesT (op2E addD (slotE 9) (callE m__law_on [(slotE 7), (slotE 8)])))])))))
def m__law_falling : Fm := runF 2 11 [0, 1] g__law_falling
theorem len__law_falling : ∀ ms, ms.length ≠ 2 → m__law_falling ms = .no := runF_len _ _ _ _
abbrev st__law_lot_table : Stmt := topS 18
theorem sc__law_lot_table : FnScope ["pot", "many", "table", "way", "a"] ["pot", "many"] (defScope st__law_lot_table) := ⟨rfl, rfl, rfl, by decide +kernel, rfl, by decide +kernel, by decide +kernel⟩
def g__law_lot_table : Sf := (seqS (parS 2 3 (callE m__law_falling [(slotE 0), (slotE 1)]) (callE drawFA [(slotE 0), (dataE (.int 5))])) (seqS (ifS (orT (boolE (op2E (cmpDT (fun i j => decide (i < j)) ltL) (slotE 3) (dataE (.int 3)))) (boolE (op2E eqD (slotE 1) (dataE (.int 1))))) (retS (slotE 2)) skipS) (seqS (ifS (boolE (op2E eqD (slotE 3) (dataE (.int 3)))) (seqS (setS 4 (op2E addD (dataE (.int 1)) (callE drawFA [(slotE 0), (op2E subD (opNE lenD [(slotE 2)]) (dataE (.int 1)))]))) (retS (op2E addD (op2E addD (sliceE (slotE 2) none (some (slotE 4))) (tupE [(op2E addD (op2E ixDD (slotE 2) (slotE 4)) (callE m__law_one [(slotE 0), (lstE [(op1E negD (dataE (.int 1))), (dataE (.int 1)), (dataE (.int 2))])]))])) (sliceE (slotE 2) (some (op2E addD (slotE 4) (dataE (.int 1)))) none)))) skipS) (retS (op2E addD (tupE [(dataE (.int 0))]) (opNE tupleD [(compE [4] (itRange1 [(op2E subD (opNE lenD [(slotE 2)]) (dataE (.int 1)))]) (tgName 4) yesT (callE m__law_from [(slotE 0), (op1E negD (dataE (.int 3))), (dataE (.int 4))]))]))))))
def m__law_lot_table : Fm := runF 2 5 [0, 1] g__law_lot_table
theorem len__law_lot_table : ∀ ms, ms.length ≠ 2 → m__law_lot_table ms = .no := runF_len _ _ _ _
abbrev st__law_is_judged : Stmt := topS 19
theorem sc__law_is_judged : FnScope ["value", "kept", "due"] ["value"] (defScope st__law_is_judged) := ⟨rfl, rfl, rfl, by decide +kernel, rfl, by decide +kernel, by decide +kernel⟩
def g__law_is_judged : Sf := (seqS (parS 1 2 (opNE reprD [(slotE 0)]) (opNE reprD [(callE m__law_lots_fault [(slotE 0)])])) (retS (andE (op2E eqD (opNE reprD [(callE m_lots_error [(slotE 0)])]) (slotE 2)) (andE (op2E eqD (opNE reprD [(callKE m_lots_error 0 1 [0] [] [(slotE 0)])]) (slotE 2)) (op2E eqD (opNE reprD [(slotE 0)]) (slotE 1))))))
def m__law_is_judged : Fm := runF 1 3 [0] g__law_is_judged
theorem len__law_is_judged : ∀ ms, ms.length ≠ 1 → m__law_is_judged ms = .no := runF_len _ _ _ _
abbrev st__law_bent_lots : Stmt := topS 20
theorem sc__law_bent_lots : FnScope ["pot", "table", "a", "way", "item"] ["pot", "table"] (defScope st__law_bent_lots) := ⟨rfl, rfl, rfl, by decide +kernel, rfl, by decide +kernel, by decide +kernel⟩
def g__law_bent_lots : Sf := (seqS (parS 2 3 (callE m__law_one [(slotE 0), (lstE [(callE drawFA [(slotE 0), (opNE lenD [(slotE 1)])]), (dataE (.int 0)), (op2E subD (opNE lenD [(slotE 1)]) (dataE (.int 1)))])]) (callE drawFA [(slotE 0), (dataE (.int 5))])) (seqS (ifS (boolE (op2E (cmpDT (fun i j => decide (i < j)) ltL) (slotE 3) (dataE (.int 3)))) (seqS (setS 4 (callE m__law_one [(slotE 0), (lstE [(dataE (.int 1001)), (op1E negD (dataE (.int 1001))), (dataE (.int 1000)), (op1E negD (dataE (.int 1000))), (dataE (.bool true)), (dataE (.bool false)), (dataE .none), (dataE (.str "0")), (tupE [(dataE (.int 0))]), (dataE (.int 1)), (op2E powD (dataE (.int 10)) (dataE (.int 50)))])])) (retS (op2E addD (op2E addD (sliceE (slotE 1) none (some (slotE 2))) (tupE [(slotE 4)])) (sliceE (slotE 1) (some (op2E addD (slotE 2) (dataE (.int 1)))) none)))) skipS) (retS (callE m__law_one [(slotE 0), (lstE [(op2E addD (slotE 1) (tupE [(dataE (.int 0))])), (sliceE (slotE 1) none (some (op1E negD (dataE (.int 1))))), (opNE listD [(slotE 1)]), (op2E addD (slotE 1) (slotE 1)), (op2E addD (op2E addD (slotE 1) (slotE 1)) (slotE 1)), (revTE (slotE 1))])]))))
def m__law_bent_lots : Fm := runF 2 5 [0, 1] g__law_bent_lots
theorem len__law_bent_lots : ∀ ms, ms.length ≠ 2 → m__law_bent_lots ms = .no := runF_len _ _ _ _
abbrev st_law : Stmt := topS 21
theorem sc_law : FnScope ["script", "pot", "turn", "table", "again", "some", "number", "lot", "a"] ["script"] (defScope st_law) := ⟨rfl, rfl, rfl, by decide +kernel, rfl, by decide +kernel, by decide +kernel⟩
def g_law : Sf := (seqS (setS 1 (callE m__law_pot [(slotE 0)])) (seqS (forS (itRange1 [(dataE (.int 6))]) (tgName 2) (seqS (setS 3 (callE m__law_lot_table [(slotE 1), (op2E addD (dataE (.int 1)) (callE drawFA [(slotE 1), (dataE (.int 4))]))])) (seqS (ifS (boolE (op2E eqD (slotE 2) (dataE (.int 0)))) (setS 3 (op2E addD (tupE [(dataE (.int 0))]) (opNE tupleD [(compE [8] (itRange1 [(op2E subD (opNE lenD [(slotE 3)]) (dataE (.int 1)))]) (tgName 8) yesT (callE m__law_one [(slotE 1), (lstE [(dataE (.int 1000)), (op1E negD (dataE (.int 1000))), (dataE (.int 0))])]))]))) skipS) (seqS (ifS (notT (testE (callE m__law_is_judged [(slotE 3)]))) (retS (dataE (.bool false))) skipS) (forS (itRange1 [(dataE (.int 4))]) (tgName 4) (ifS (notT (testE (callE m__law_is_judged [(callE m__law_bent_lots [(slotE 1), (slotE 3)])]))) (retS (dataE (.bool false))) skipS)))))) (seqS (setS 5 (lstE [(dataE .none), (tupE []), (lstE []), (tupE [(dataE (.int 0))]), (fun m => .ok (.nd []) m), (dataE (.int 0)), (dataE (.str "0")), (tupE [(dataE (.int 0)), (dataE (.int 0)), (dataE (.int 0))]), (tupE [(tupE [(dataE (.int 0)), (dataE (.int 0))])]), (tupE [(dataE .none), (dataE .none)]), (op2E mulD (tupE [(dataE (.int 0))]) (dataE (.int 32))), (dataE (.bool true))])) (seqS (ifS (notT (testE (callE m__law_is_judged [(callE m__law_one [(slotE 1), (slotE 5)])]))) (retS (dataE (.bool false))) skipS) (seqS (forS (itRange1 [(dataE (.int 16))]) (tgName 6) (seqS (setS 7 (callE m__law_lot [(slotE 6)])) (ifS (boolE (op2E neD (opNE reprD [(lstE [(callE m_lot_of [(slotE 6)]), (callKE m_lot_of 0 1 [0] [] [(slotE 6)]), (callE m_lot_number [(slotE 7)]), (callKE m_lot_number 0 1 [0] [] [(slotE 7)])])]) (opNE reprD [(lstE [(slotE 7), (slotE 7), (slotE 6), (slotE 6)])]))) (retS (dataE (.bool false))) skipS))) (retS (dataE (.bool true))))))))
def m_law : Fm := runF 1 9 [0] g_law
theorem len_law : ∀ ms, ms.length ≠ 1 → m_law ms = .no := runF_len _ _ _ _
section
variable {xr : XR} {P : Program} {w : World} {K : PySem.W.Frag} {mg : Str → Option Value} {base : Heap}
theorem rev_snoc {α : Type} {l : List α} {x : α} {r : List α} (h : l.reverse = x :: r) : l = r.reverse ++ [x] := by
  have := congrArg List.reverse h
  simpa using this
theorem drawn_law_of {f : Addr} {fd : FuncData} (F : Fun K "_law_of" "_law_of" st__law_of f fd) : FnG P w K mg base 1 f fd ["pot", "many"] (spOf xr K 2 drawFA) := by
  refine fnG_raw F sc__law_of (fun _ _ _ _ q => q.1) fun cdv A outer s H vs Q E hr hG q => ?_
  obtain ⟨_, ms, fp, r, p⟩ := q
  rcases drawFA_inv ms with z | ⟨cells, a, b, many, rfl, hm, hc, eF⟩
  · rw [z] at p; exact p.elim
  · rw [eF] at p
    obtain ⟨v0, e0, r0⟩ := r.at_ 0 _ rfl
    obtain ⟨v1, e1, r1⟩ := r.at_ 1 _ rfl
    generalize ef0 : fp 0 = f0 at r0
    generalize ef1 : fp 1 = f1 at r1
    have ev : vs = [v0, v1] := by
      have hl := r.len
      match vs, e0, e1, hl with
      | [x, y], e0, e1, hl =>
        cases e0; cases e1; rfl
    subst ev
    cases r1 with
    | fz z =>
      cases fz_int z
      cases r0 with
      | rs r0 =>
        cases r0 with
        | @k0 p0 c0 _ _ _ ne hp hc0 =>
          -- what holds at the end, for cells and a count
          have fin : ∀ (H' : Hp) (val : Int) (cells' : List Int) (b' : Int), H' p0 = some (.lst [.ref c0, .int a, .int b']) → H' c0 = some (.lst (cells'.map V.int)) → (∀ x o, x ≠ p0 → x ≠ c0 → H x = some o → H' x = some o) → (∀ x, H' x = none → H x = none) →
              drawA cells a b many = (val, cells', b') → Q (.int val) H' := by
            intro H' val cells' b' h1 h2 h3 h3b h4
            rw [h4] at p
            refine p _ H' fp [] ⟨fun i mv e => ?_, fun i h => ?_, r.dis, rfl⟩ (.fz (.int _)) (fun b hb => by cases hb) (fun b hb => by cases hb) ⟨fun i x hx => .inl ⟨i, hx⟩, fun x o e n => ?_, fun x hx => ?_⟩
            · match i, e with
              | 0, e => cases e; exact ⟨_, rfl, by rw [ef0]; exact .rs (.k0 ne h1 h2)⟩
              | 1, e => cases e; exact ⟨_, rfl, by rw [ef1]; exact .fz (.int _)⟩
            · exact r.emp i fun mv q => by
                match i, q with
                | 0, q => exact h _ rfl
                | 1, q => exact h _ rfl
            · exact h3 x o (fun z => n 0 (by rw [ef0, z]; simp)) (fun z => n 0 (by rw [ef0, z]; simp)) e
            · exact h3b x hx
          refine ⟨_, pss_cons (ps_if (pt_cmpR op_lt (pv 1) pe_int (nomark _)) (pss_one (ps_ret pe_int)) pss_nil)
            (pss_cons (ps_if (pt_cmpR (op_neD hr.units) (pe_ix ix_list (pv 0) pe_int (fun _ _ => rfl)) (pe_lst pa_nil) (nomark _))
              (pss_cons (ps_set (i := 2) sc__law_of.nd rfl (.inl rfl) (pe_bm0 PySem.F.plainAttrs_list PySem.F.slot_list_pop PySem.F.type_list_pop mt_pop (pe_ix ix_list (pv 0) pe_int (fun _ _ => rfl))))
              (pss_cons (ps_if (pt_cmpR op_ge (pv 2) (pv 1) (nomark _)) (pss_one (ps_expr (pe_bm PySem.F.plainAttrs_list PySem.F.slot_list_append PySem.F.type_list_append mt_append (pe_ix ix_list (pv 0) pe_int (fun _ _ => rfl)) (pa_cons (pe_op op_fdivN (pv 2) (pv 1)) pa_nil)))) pss_nil)
              (pss_one (ps_ret (pe_op op_modN (pv 2) (pv 1)))))) pss_nil)
            (pss_cons (ps_asg (pe_op op_add (pe_ix ix_list (pv 0) pe_int (fun _ _ => rfl)) pe_int) (pg_sub (pv 0) pe_int set_list))
            (pss_cons (ps_set (i := 3) sc__law_of.nd rfl (.inl rfl) (pe_op op_mod (pe_op op_add (pe_ix ix_list (pv 0) pe_int (fun _ _ => rfl)) (pe_op op_mul (pe_ix ix_list (pv 0) pe_int (fun _ _ => rfl)) pe_int)) pe_int))
            (pss_cons (ps_set (i := 3) sc__law_of.nd rfl (.inl rfl) (pe_op op_mod (pe_op op_add (pe_op op_add (pe_op op_mul (pv 3) (pv 3)) (pe_op op_mul (pe_ix ix_list (pv 0) pe_int (fun _ _ => rfl)) pe_int)) pe_int) pe_int))
            (pss_cons (ps_set (i := 3) sc__law_of.nd rfl (.inl rfl) (pe_op op_mod (pe_op op_add (pe_op op_mul (pv 3) (pv 3)) (pe_ix ix_list (pv 0) pe_int (fun _ _ => rfl))) pe_int))
            (pss_one (ps_ret (pe_op op_modN (pe_op op_fdiv (pv 3) pe_int) (pv 1))))))))), ?_⟩
          refine ⟨_, rfl, _, _, rfl, rfl, _, rfl, ite2 (fun h => ?_) (fun h => ?_)⟩
          · have h := of_decide_eq_true h
            exact fin H 0 cells b hp hc0 (fun _ _ _ _ e => e) (fun _ e => e) (by unfold drawA; rw [if_pos h])
          · have h : ¬ many < 2 := fun z => h (decide_eq_true z)
            refine ⟨.ref p0, rfl, p0, _, 0, .ref c0, rfl, rfl, .of hp, rfl, Nat.zero_le _, fun o no => ?_⟩
            have oc : c0 ≠ o := ne_of_none hc0 no
            have op : p0 ≠ o := ne_of_none hp no
            have hp1 : (upd H o (.lst [])) p0 = some (.lst [.ref c0, .int a, .int b]) := by rw [upd_ne op]; exact hp
            have hc1 : (upd H o (.lst [])) c0 = some (.lst (cells.map V.int)) := by rw [upd_ne oc]; exact hc0
            have sm1 : ∀ x u, H x = some u → (upd H o (.lst [])) x = some u := fun x u e => by rw [upd_ne (ne_of_none e no)]; exact e
            generalize hH1 : upd H o (.lst []) = H1 at hp1 hc1 sm1
            have ho1 : H1 o = some (.lst []) := by rw [← hH1]; exact upd_same
            have no1 : ∀ x, H1 x = none → H x = none := fun x e => by rw [← hH1] at e; exact upd_trk e
            refine ⟨.list (cells.map .int), .list [], .lst (.of hc1) (FzAll.dp (FzAll.ints cells) (nd_ints cells)), .lst (.of ho1) .nil, shaped_ints cells, rfl, _, rfl, ite2 (fun h2 => ?_) (fun h2 => ?_)⟩
            · -- a cell is taken
              cases er : cells.reverse with
              | nil =>
                have : cells = [] := by simpa using er
                subst this
                cases h2
              | cons cell rest =>
                have ec := rev_snoc er
                have ed : drawA cells a b many = (cell % many, if cell ≥ many then rest.reverse ++ [cell / many] else rest.reverse, b) := by
                  unfold drawA; rw [if_neg h, er]
                have eg : (cells.map V.int)[(cells.map V.int).length - 1]? = some (.int cell) := by rw [ec]; simp
                have edl : (cells.map V.int).dropLast = rest.reverse.map V.int := by rw [ec]; simp
                refine ⟨.ref p0, rfl, p0, _, 0, .ref c0, rfl, rfl, .of hp1, rfl, .inl ⟨rfl, _, .of hc1⟩, c0, _, .int cell, rfl, rfl, hc1, eg, ?_⟩
                rw [edl]
                have hp2 : (upd H1 c0 (.lst (rest.reverse.map V.int))) p0 = some (.lst [.ref c0, .int a, .int b]) := by rw [upd_ne ne]; exact hp1
                refine ⟨_, rfl, _, rfl, _, _, rfl, rfl, _, rfl, ite2 (fun h3 => ?_) (fun h3 => ?_)⟩
                · have h3 : many ≤ cell := of_decide_eq_true h3
                  refine ⟨.ref p0, rfl, p0, _, 0, .ref c0, rfl, rfl, .of hp2, rfl, .inl ⟨rfl, _, .of upd_same⟩, _, rfl, _, rfl, cell, many, rfl, rfl, ⟨by omega, by omega⟩, c0, _, _, rfl, rfl, upd_same, ?_, ?_⟩
                  · have hl : cells.length = rest.length + 1 := by rw [ec]; simp
                    rw [List.length_map, List.length_reverse, sizeLine_eq]; omega
                  · refine ⟨_, rfl, _, rfl, cell, many, rfl, rfl, (by omega), ?_⟩
                    rw [if_pos h3] at ed
                    show Q (.int (cell.fmod many)) (upd (upd H1 c0 (.lst (rest.reverse.map V.int))) c0 (.lst (rest.reverse.map V.int ++ [.int (cell.fdiv many)])))
                    rw [upd_upd]
                    have e1 : cell.fdiv many = cell / many := Int.fdiv_eq_ediv_of_nonneg _ (by omega)
                    have e2 : cell.fmod many = cell % many := Int.fmod_eq_emod_of_nonneg _ (by omega)
                    rw [e1, e2]
                    refine fin _ _ _ _ ?_ (by rw [upd_same, List.map_append]; rfl) (fun x u n1 n2 e => ?_) (fun x e => no1 x (upd_trk e)) ed
                    · rw [upd_ne ne]; exact hp1
                    · rw [upd_ne n2]; exact sm1 x u e
                · have h3 : ¬ many ≤ cell := fun z => h3 (decide_eq_true z)
                  refine ⟨_, rfl, _, rfl, cell, many, rfl, rfl, (by omega), ?_⟩
                  rw [if_neg h3] at ed
                  have e2 : cell.fmod many = cell % many := Int.fmod_eq_emod_of_nonneg _ (by omega)
                  show Q (.int (cell.fmod many)) (upd H1 c0 (.lst (rest.reverse.map V.int)))
                  rw [e2]
                  refine fin _ _ _ _ hp2 upd_same (fun x u n1 n2 e => ?_) (fun x e => no1 x (upd_trk e)) ed
                  rw [upd_ne n2]; exact sm1 x u e
            · -- the mixed number
              have e0 : cells = [] := by
                cases cells with
                | nil => rfl
                | cons x r => exact absurd rfl h2
              subst e0
              refine ⟨.ref p0, rfl, p0, _, 2, .int b, rfl, rfl, .of hp1, rfl, b, 1, rfl, rfl, .ref p0, rfl, p0, _, 2, 2, rfl, rfl, hp1, rfl, ?_⟩
              have hp2 : (upd H1 p0 (.lst [.ref c0, .int a, .int (b + 1)])) p0 = some (.lst [.ref c0, .int a, .int (b + 1)]) := upd_same
              have hc2 : (upd H1 p0 (.lst [.ref c0, .int a, .int (b + 1)])) c0 = some (.lst (([] : List Int).map V.int)) := by rw [upd_ne ne.symm]; exact hc1
              refine ⟨.ref p0, rfl, p0, _, 1, .int a, rfl, rfl, .of hp2, rfl, .ref p0, rfl, p0, _, 2, .int (b + 1), rfl, rfl, .of hp2, rfl, b + 1, 2654435761, rfl, rfl, .inr (by decide), a, (b + 1) * 2654435761, rfl, rfl, _, 4294967279, rfl, rfl, (by show (0 : Int) < 4294967279; decide), ?_⟩
              have n1b : ∀ x : Int, -(2 ^ 64) < x % 4294967279 ∧ x % 4294967279 < 2 ^ 64 := fun x => ⟨by omega, by omega⟩
              have n2b : ∀ x : Int, -(2 ^ 64) < x % 4294967231 ∧ x % 4294967231 < 2 ^ 64 := fun x => ⟨by omega, by omega⟩
              refine ⟨_, rfl, _, rfl, _, _, rfl, rfl, .inl (n1b _), .ref p0, rfl, p0, _, 2, .int (b + 1), rfl, rfl, .of hp2, rfl, b + 1, 40503, rfl, rfl, .inr (by decide), _, _, rfl, rfl, _, 5, rfl, rfl, _, 4294967231, rfl, rfl, (by show (0 : Int) < 4294967231; decide), ?_⟩
              refine ⟨_, rfl, _, rfl, _, _, rfl, rfl, .inl (n2b _), .ref p0, rfl, p0, _, 1, .int a, rfl, rfl, .of hp2, rfl, _, a, rfl, rfl, _, 4294967291, rfl, rfl, (by show (0 : Int) < 4294967291; decide), ?_⟩
              refine ⟨_, rfl, _, 256, rfl, rfl, ⟨by decide, by decide⟩, _, rfl, _, many, rfl, rfl, (by omega), ?_⟩
              show Q (.int (Int.fmod _ many)) _
              rw [Int.fmod_eq_emod_of_nonneg _ (show (0 : Int) ≤ many by omega)]
              refine fin _ _ [] (b + 1) hp2 hc2 (fun x u n1 n2 e => ?_) (fun x e => no1 x (upd_trk e)) ?_
              · rw [upd_ne n1]; exact sm1 x u e
              · unfold drawA
                rw [if_neg h]
                rfl
end
/-- what the top has written -/
def errNs : List Str := []
abbrev xrM (mg : Str → Option Value) : XR := xrE errNs mg
structure Top (P : Program) (K : PySem.W.Frag) (mg : Str → Option Value) where
  a_is_whole : Addr
  d_is_whole : FuncData
  F_is_whole : Fun K "is_whole" "is_whole" st_is_whole a_is_whole d_is_whole
  g_is_whole : mg "is_whole" = some (.ref a_is_whole)
  a_lots_error : Addr
  d_lots_error : FuncData
  F_lots_error : Fun K "lots_error" "lots_error" st_lots_error a_lots_error d_lots_error
  g_lots_error : mg "lots_error" = some (.ref a_lots_error)
  a_lot_number : Addr
  d_lot_number : FuncData
  F_lot_number : Fun K "lot_number" "lot_number" st_lot_number a_lot_number d_lot_number
  g_lot_number : mg "lot_number" = some (.ref a_lot_number)
  a_lot_of : Addr
  d_lot_of : FuncData
  F_lot_of : Fun K "lot_of" "lot_of" st_lot_of a_lot_of d_lot_of
  g_lot_of : mg "lot_of" = some (.ref a_lot_of)
  a__law_pot : Addr
  d__law_pot : FuncData
  F__law_pot : Fun K "_law_pot" "_law_pot" st__law_pot a__law_pot d__law_pot
  g__law_pot : mg "_law_pot" = some (.ref a__law_pot)
  a__law_of : Addr
  d__law_of : FuncData
  F__law_of : Fun K "_law_of" "_law_of" st__law_of a__law_of d__law_of
  g__law_of : mg "_law_of" = some (.ref a__law_of)
  a__law_one : Addr
  d__law_one : FuncData
  F__law_one : Fun K "_law_one" "_law_one" st__law_one a__law_one d__law_one
  g__law_one : mg "_law_one" = some (.ref a__law_one)
  a__law_from : Addr
  d__law_from : FuncData
  F__law_from : Fun K "_law_from" "_law_from" st__law_from a__law_from d__law_from
  g__law_from : mg "_law_from" = some (.ref a__law_from)
  a__law_is_number : Addr
  d__law_is_number : FuncData
  F__law_is_number : Fun K "_law_is_number" "_law_is_number" st__law_is_number a__law_is_number d__law_is_number
  g__law_is_number : mg "_law_is_number" = some (.ref a__law_is_number)
  a__law_lots_fault : Addr
  d__law_lots_fault : FuncData
  F__law_lots_fault : Fun K "_law_lots_fault" "_law_lots_fault" st__law_lots_fault a__law_lots_fault d__law_lots_fault
  g__law_lots_fault : mg "_law_lots_fault" = some (.ref a__law_lots_fault)
  a__law_lot : Addr
  d__law_lot : FuncData
  F__law_lot : Fun K "_law_lot" "_law_lot" st__law_lot a__law_lot d__law_lot
  g__law_lot : mg "_law_lot" = some (.ref a__law_lot)
  a__law_on : Addr
  d__law_on : FuncData
  F__law_on : Fun K "_law_on" "_law_on" st__law_on a__law_on d__law_on
  g__law_on : mg "_law_on" = some (.ref a__law_on)
  a__law_falling : Addr
  d__law_falling : FuncData
  F__law_falling : Fun K "_law_falling" "_law_falling" st__law_falling a__law_falling d__law_falling
  g__law_falling : mg "_law_falling" = some (.ref a__law_falling)
  a__law_lot_table : Addr
  d__law_lot_table : FuncData
  F__law_lot_table : Fun K "_law_lot_table" "_law_lot_table" st__law_lot_table a__law_lot_table d__law_lot_table
  g__law_lot_table : mg "_law_lot_table" = some (.ref a__law_lot_table)
  a__law_is_judged : Addr
  d__law_is_judged : FuncData
  F__law_is_judged : Fun K "_law_is_judged" "_law_is_judged" st__law_is_judged a__law_is_judged d__law_is_judged
  g__law_is_judged : mg "_law_is_judged" = some (.ref a__law_is_judged)
  a__law_bent_lots : Addr
  d__law_bent_lots : FuncData
  F__law_bent_lots : Fun K "_law_bent_lots" "_law_bent_lots" st__law_bent_lots a__law_bent_lots d__law_bent_lots
  g__law_bent_lots : mg "_law_bent_lots" = some (.ref a__law_bent_lots)
  a_law : Addr
  d_law : FuncData
  F_law : Fun K "law" "law" st_law a_law d_law
  g_law : mg "law" = some (.ref a_law)
  z_abs : mg "abs" = none
  z_bool : mg "bool" = none
  z_enumerate : mg "enumerate" = none
  z_int : mg "int" = none
  z_isinstance : mg "isinstance" = none
  z_len : mg "len" = none
  z_list : mg "list" = none
  z_min : mg "min" = none
  z_range : mg "range" = none
  z_repr : mg "repr" = none
  z_sum : mg "sum" = none
  z_tuple : mg "tuple" = none
  c_MAX_WORTH : ∃ t, mg "MAX_WORTH" = some (.int 1000 t)
  c_SIZES : ∃ a, mg "SIZES" = some (.ref a) ∧ KDctI K a [(2, 1), (4, 2), (8, 3), (16, 4)]
  s_SIZES : ∀ a, mg "SIZES" = some (.ref a) → (a == sysModules) = false
section
variable {P : Program} {w : World} {K : PySem.W.Frag} {mg : Str → Option Value} {base : Heap}
theorem b_is_whole (T : Top P K mg) : Binds K T.d_is_whole ["value", "low", "high"] [] := T.F_is_whole.binds fun _ _ _ _ _ _ us hl => match us, hl with | [_, _, _], _ => rfl
theorem b_lots_error (T : Top P K mg) : Binds K T.d_lots_error ["value"] [] := T.F_lots_error.binds fun _ _ _ _ _ _ us hl => match us, hl with | [_], _ => rfl
theorem b_lot_number (T : Top P K mg) : Binds K T.d_lot_number ["lot"] [] := T.F_lot_number.binds fun _ _ _ _ _ _ us hl => match us, hl with | [_], _ => rfl
theorem b_lot_of (T : Top P K mg) : Binds K T.d_lot_of ["number"] [] := T.F_lot_of.binds fun _ _ _ _ _ _ us hl => match us, hl with | [_], _ => rfl
theorem b__law_pot (T : Top P K mg) : Binds K T.d__law_pot ["script"] [] := T.F__law_pot.binds fun _ _ _ _ _ _ us hl => match us, hl with | [_], _ => rfl
theorem b__law_of (T : Top P K mg) : Binds K T.d__law_of ["pot", "many"] [] := T.F__law_of.binds fun _ _ _ _ _ _ us hl => match us, hl with | [_, _], _ => rfl
theorem b__law_one (T : Top P K mg) : Binds K T.d__law_one ["pot", "items"] [] := T.F__law_one.binds fun _ _ _ _ _ _ us hl => match us, hl with | [_, _], _ => rfl
theorem b__law_from (T : Top P K mg) : Binds K T.d__law_from ["pot", "low", "high"] [] := T.F__law_from.binds fun _ _ _ _ _ _ us hl => match us, hl with | [_, _, _], _ => rfl
theorem b__law_is_number (T : Top P K mg) : Binds K T.d__law_is_number ["value", "low", "high"] [] := T.F__law_is_number.binds fun _ _ _ _ _ _ us hl => match us, hl with | [_, _, _], _ => rfl
theorem b__law_lots_fault (T : Top P K mg) : Binds K T.d__law_lots_fault ["value"] [] := T.F__law_lots_fault.binds fun _ _ _ _ _ _ us hl => match us, hl with | [_], _ => rfl
theorem b__law_lot (T : Top P K mg) : Binds K T.d__law_lot ["number"] [] := T.F__law_lot.binds fun _ _ _ _ _ _ us hl => match us, hl with | [_], _ => rfl
theorem b__law_on (T : Top P K mg) : Binds K T.d__law_on ["point", "number"] [] := T.F__law_on.binds fun _ _ _ _ _ _ us hl => match us, hl with | [_, _], _ => rfl
theorem b__law_falling (T : Top P K mg) : Binds K T.d__law_falling ["pot", "many"] [] := T.F__law_falling.binds fun _ _ _ _ _ _ us hl => match us, hl with | [_, _], _ => rfl
theorem b__law_lot_table (T : Top P K mg) : Binds K T.d__law_lot_table ["pot", "many"] [] := T.F__law_lot_table.binds fun _ _ _ _ _ _ us hl => match us, hl with | [_, _], _ => rfl
theorem b__law_is_judged (T : Top P K mg) : Binds K T.d__law_is_judged ["value"] [] := T.F__law_is_judged.binds fun _ _ _ _ _ _ us hl => match us, hl with | [_], _ => rfl
theorem b__law_bent_lots (T : Top P K mg) : Binds K T.d__law_bent_lots ["pot", "table"] [] := T.F__law_bent_lots.binds fun _ _ _ _ _ _ us hl => match us, hl with | [_, _], _ => rfl
theorem b_law (T : Top P K mg) : Binds K T.d_law ["script"] [] := T.F_law.binds fun _ _ _ _ _ _ us hl => match us, hl with | [_], _ => rfl
theorem kb_lot_number_0_lot (T : Top P K mg) : KBp K T.d_lot_number ["lot"] ["lot"] 0 [0] := kb_mk T.F_lot_number fun _ _ _ _ _ _ us ws h1 h2 => match us, h1, ws, h2 with | [], _, [_], _ => rfl
theorem kb_lot_of_0_number (T : Top P K mg) : KBp K T.d_lot_of ["number"] ["number"] 0 [0] := kb_mk T.F_lot_of fun _ _ _ _ _ _ us ws h1 h2 => match us, h1, ws, h2 with | [], _, [_], _ => rfl
theorem kb_lots_error_0_value (T : Top P K mg) : KBp K T.d_lots_error ["value"] ["value"] 0 [0] := kb_mk T.F_lots_error fun _ _ _ _ _ _ us ws h1 h2 => match us, h1, ws, h2 with | [], _, [_], _ => rfl
theorem ok_is_whole (T : Top P K mg) : FnG P w K mg base 1 T.a_is_whole T.d_is_whole ["value", "low", "high"] (spOf (xrM mg) K 3 m_is_whole) := by
  have h := fnG_of (xr := xrM mg) (P := P) (w := w) (K := K) (mg := mg) (base := base) (k := 0) T.F_is_whole sc_is_whole (ro := [0, 1, 2]) (g := g_is_whole) fun cdv A outer s H vs E hr hG => (ss_one (by exact (ss_ret (sd_and (sd_isi (T := "int") (by rfl) T.z_isinstance (by rfl) T.z_int (by rfl) (sd_name 0 rfl (.inl rfl))) (sd_and (sd_not (sd_isi (T := "bool") (by rfl) T.z_isinstance (by rfl) T.z_bool (by rfl) (sd_name 0 rfl (.inl rfl)))) (sd_one (sd_chain (opq_le hr.units) (opq_le hr.units) (opd_cmpT _ _) (opd_cmpT _ _) (sd_name 1 rfl (.inl rfl)) (sd_name 0 rfl (.inl rfl)) (sd_name 2 rfl (.inl rfl)))))))))
  exact h
theorem ok_lots_error (T : Top P K mg) : FnG P w K mg base 2 T.a_lots_error T.d_lots_error ["value"] (spOf (xrM mg) K 1 m_lots_error) := by
  have h := fnG_of (xr := xrM mg) (P := P) (w := w) (K := K) (mg := mg) (base := base) (k := 1) T.F_lots_error sc_lots_error (ro := [0]) (g := g_lots_error) fun cdv A outer s H vs E hr hG => (ss_cons (by exact (ss_if (PW.pt (sw_or (sd_notT (sd_test (sd_isi (T := "tuple") (by rfl) T.z_isinstance (by rfl) T.z_tuple (by rfl) (sd_name 0 rfl (.inl rfl))))) (sw_or1 (st_gdnin (by rfl) T.c_SIZES T.s_SIZES (sd_callB opr_len opd_len (by rfl) T.z_len rfl (sa_cons (sd_name 0 rfl (.inl rfl)) sa_nil)))))) (ss_one (by exact (ss_ret sd_str))) ss_nil)) (ss_cons (by exact (ss_for body_passes rfl (si_enum (by rfl) T.z_enumerate (sd_name 0 rfl (.inl rfl))) (sg_tup rfl (sgs_cons (sg_name sc_lots_error.nd rfl (.inl rfl) (.inr rfl)) (sgs_cons (sg_name sc_lots_error.nd rfl (.inl rfl) (.inr rfl)) sgs_nil))) (by decide) (ss_one (by exact (ss_if (sd_notT (sd_test (sd_call (ok_is_whole T) len_is_whole (hr.mono (by decide)) hG (by rfl) T.g_is_whole T.F_is_whole.kp (b_is_whole T) body_takes (sap_cons (sd_name 2 rfl (.inl rfl)) (sap_cons (sd_un un_neg und_neg (sd_gint (by rfl) T.c_MAX_WORTH)) (sap_cons (sd_gint (by rfl) T.c_MAX_WORTH) sap_nil)))))) (ss_one (by exact (ss_ret (sd_tup (sad_cons sd_str (sad_cons (sd_name 1 rfl (.inl rfl)) sad_nil)) (hn := argsD_len (by decide)))))) ss_nil))))) (ss_one (by exact (ss_ret (sd_if (sd_cmpT (opr_ne hr.units) opd_ne (sd_ix (ixr_any hr.units) opd_ixD (sd_name 0 rfl (.inl rfl)) sd_int (fun _ _ => rfl)) sd_int (nomark _)) sd_str sd_non))))))
  exact h
theorem ok_lot_number (T : Top P K mg) : FnG P w K mg base 1 T.a_lot_number T.d_lot_number ["lot"] (spOf (xrM mg) K 1 m_lot_number) := by
  have h := fnG_of (xr := xrM mg) (P := P) (w := w) (K := K) (mg := mg) (base := base) (k := 0) T.F_lot_number sc_lot_number (ro := [0]) (g := g_lot_number) fun cdv A outer s H vs E hr hG => (ss_one (by exact (ss_ret (sd_callB (cr_sumF rfl) opd_sum (by rfl) T.z_sum rfl (sa_cons (sd_lc0 rfl sc_lot_number.nd (si_seq (sd_name 0 rfl (.inl rfl))) (own := [("place", 1)]) (blkOk_by (by rfl)) (by decide) (fun _ _ _ _ _ => (sg_name sc_lot_number.nd rfl (.inl rfl) (.inr rfl))) (fun _ _ _ _ _ => (sd_bin op_shl opd_shl sd_int (sd_name 1 rfl (.inl rfl))))) sa_nil)))))
  exact h
theorem ok_lot_of (T : Top P K mg) : FnG P w K mg base 1 T.a_lot_of T.d_lot_of ["number"] (spOf (xrM mg) K 1 m_lot_of) := by
  have h := fnG_of (xr := xrM mg) (P := P) (w := w) (K := K) (mg := mg) (base := base) (k := 0) T.F_lot_of sc_lot_of (ro := [0]) (g := g_lot_of) fun cdv A outer s H vs E hr hG => (ss_one (by exact (ss_ret (sd_callTy opr_tupF opd_tuple (by rfl) T.z_tuple rfl (sa_cons (sd_lc1 rfl sc_lot_of.nd (si_range1 (by rfl) T.z_range (sa_cons sd_int sa_nil)) (own := [("place", 1)]) (blkOk_by (by rfl)) (by decide) (fun _ _ _ _ _ => (sg_name sc_lot_of.nd rfl (.inl rfl) (.inr rfl))) (fun _ _ _ _ _ => (sd_test (sd_bin op_and opd_band (sd_bin op_shr opd_shr (sd_name 0 rfl (.inr (.inl rfl))) (sd_name 1 rfl (.inl rfl))) sd_int))) (fun _ _ _ _ _ => (sd_name 1 rfl (.inl rfl)))) sa_nil)))))
  exact h
theorem ok__law_pot (T : Top P K mg) : FnG P w K mg base 1 T.a__law_pot T.d__law_pot ["script"] (spOf (xrM mg) K 1 m__law_pot) := by
  have h := fnG_of (xr := xrM mg) (P := P) (w := w) (K := K) (mg := mg) (base := base) (k := 0) T.F__law_pot sc__law_pot (ro := [0]) (g := g__law_pot) fun cdv A outer s H vs E hr hG => (ss_cons (by exact (ss_par (i := 1) (j := 2) rfl sc__law_pot.nd rfl rfl (by decide) rfl rfl (sd_lc0 rfl sc__law_pot.nd (si_seq (sd_slice (sd_name 0 rfl (.inl rfl)) sp_none (sp_some sd_int))) (own := [("cell", 3)]) (blkOk_by (by rfl)) (by decide) (fun _ _ _ _ _ => (sg_name sc__law_pot.nd rfl (.inl rfl) (.inr rfl))) (fun _ _ _ _ _ => (sd_bin opr_add opd_add (sd_bin opr_mul opd_mulD sd_int (sd_callB call_abs opd_abs (by rfl) T.z_abs rfl (sa_cons (sd_name 3 rfl (.inl rfl)) sa_nil))) (sd_callTy call_int1 opd_int1 (by rfl) T.z_int rfl (sa_cons (sd_cmp (opq_lt hr.units) (opd_cmpT _ _) (sd_name 3 rfl (.inl rfl)) sd_int (nomark _)) sa_nil))))) (sd_bin opr_add opd_add sd_int (sd_bin opr_mul opd_mulD sd_int (sd_callB opr_len opd_len (by rfl) T.z_len rfl (sa_cons (sd_name 0 rfl (.inl rfl)) sa_nil)))) (by decide) (by decide) (by rfl))) (ss_cons (by exact (ss_for body_passes rfl (si_seq (sd_name 1 rfl (.inl rfl))) (sg_name sc__law_pot.nd rfl (.inl rfl) (.inr rfl)) (by decide) (ss_one (by exact (ss_set (i := 2) sc__law_pot.nd rfl (.inl rfl) (sd_bin op_modN opd_mod (sd_bin opr_add opd_add (sd_bin opr_add opd_add (sd_bin opr_mul opd_mulD (sd_name 2 rfl (.inl rfl)) sd_int) (sd_name 3 rfl (.inl rfl))) sd_int) sd_int) (by decide) (.inr rfl)))))) (ss_one (by exact (ss_ret (sd_pot0 (sa_cons (sd_lc1 rfl sc__law_pot.nd (si_seq (sd_name 1 rfl (.inl rfl))) (own := [("cell", 3)]) (blkOk_by (by rfl)) (by decide) (fun _ _ _ _ _ => (sg_name sc__law_pot.nd rfl (.inl rfl) (.inr rfl))) (fun _ _ _ _ _ => (sd_cmpT (opq_gt hr.units) (opd_cmpT _ _) (sd_name 3 rfl (.inl rfl)) (sd_bin op_pow opd_pow sd_int sd_int) (nomark _))) (fun _ _ _ _ _ => (sd_name 3 rfl (.inl rfl)))) (sa_cons (sd_name 2 rfl (.inl rfl)) (sa_cons sd_int sa_nil)))))))))
  exact h
theorem ok__law_of (T : Top P K mg) : FnG P w K mg base 1 T.a__law_of T.d__law_of ["pot", "many"] (spOf (xrM mg) K 2 drawFA) := drawn_law_of T.F__law_of
theorem ok__law_one (T : Top P K mg) : FnG P w K mg base 2 T.a__law_one T.d__law_one ["pot", "items"] (spOf (xrM mg) K 2 m__law_one) := by
  have h := fnG_of (xr := xrM mg) (P := P) (w := w) (K := K) (mg := mg) (base := base) (k := 1) T.F__law_one sc__law_one (ro := [0, 1]) (g := g__law_one) fun cdv A outer s H vs E hr hG => (ss_one (by exact (ss_ret (sd_ix (ixr_any hr.units) opd_ixD (sd_name 1 rfl (.inl rfl)) (sd_call (ok__law_of T) drawFA_len (hr.mono (by decide)) hG (by rfl) T.g__law_of T.F__law_of.kp (b__law_of T) body_takes (sap_cons (sd_name 0 rfl (.inl rfl)) (sap_cons (sd_callB opr_len opd_len (by rfl) T.z_len rfl (sa_cons (sd_name 1 rfl (.inl rfl)) sa_nil)) sap_nil))) (fun _ _ => rfl)))))
  exact h
theorem ok__law_from (T : Top P K mg) : FnG P w K mg base 2 T.a__law_from T.d__law_from ["pot", "low", "high"] (spOf (xrM mg) K 3 m__law_from) := by
  have h := fnG_of (xr := xrM mg) (P := P) (w := w) (K := K) (mg := mg) (base := base) (k := 1) T.F__law_from sc__law_from (ro := [0, 1, 2]) (g := g__law_from) fun cdv A outer s H vs E hr hG => (ss_one (by exact (ss_ret (sd_bin opr_add opd_add (sd_name 1 rfl (.inl rfl)) (sd_call (ok__law_of T) drawFA_len (hr.mono (by decide)) hG (by rfl) T.g__law_of T.F__law_of.kp (b__law_of T) body_takes (sap_cons (sd_name 0 rfl (.inl rfl)) (sap_cons (sd_bin opr_add opd_add (sd_bin op_sub opd_sub (sd_name 2 rfl (.inl rfl)) (sd_name 1 rfl (.inl rfl))) sd_int) sap_nil)))))))
  exact h
theorem ok__law_is_number (T : Top P K mg) : FnG P w K mg base 1 T.a__law_is_number T.d__law_is_number ["value", "low", "high"] (spOf (xrM mg) K 3 m__law_is_number) := by
  have h := fnG_of (xr := xrM mg) (P := P) (w := w) (K := K) (mg := mg) (base := base) (k := 0) T.F__law_is_number sc__law_is_number (ro := [0, 1, 2]) (g := g__law_is_number) fun cdv A outer s H vs E hr hG => (ss_one (by exact (ss_ret (sd_and (sd_isi (T := "int") (by rfl) T.z_isinstance (by rfl) T.z_int (by rfl) (sd_name 0 rfl (.inl rfl))) (sd_and (sd_not (sd_isi (T := "bool") (by rfl) T.z_isinstance (by rfl) T.z_bool (by rfl) (sd_name 0 rfl (.inl rfl)))) (sd_one (sd_chain (opq_le hr.units) (opq_le hr.units) (opd_cmpT _ _) (opd_cmpT _ _) (sd_name 1 rfl (.inl rfl)) (sd_name 0 rfl (.inl rfl)) (sd_name 2 rfl (.inl rfl)))))))))
  exact h
theorem ok__law_lots_fault (T : Top P K mg) : FnG P w K mg base 2 T.a__law_lots_fault T.d__law_lots_fault ["value"] (spOf (xrM mg) K 1 m__law_lots_fault) := by
  have h := fnG_of (xr := xrM mg) (P := P) (w := w) (K := K) (mg := mg) (base := base) (k := 1) T.F__law_lots_fault sc__law_lots_fault (ro := [0]) (g := g__law_lots_fault) fun cdv A outer s H vs E hr hG => (ss_cons (by exact (ss_if (PW.pt (sw_or (sd_notT (sd_test (sd_isi (T := "tuple") (by rfl) T.z_isinstance (by rfl) T.z_tuple (by rfl) (sd_name 0 rfl (.inl rfl))))) (sw_or1 (sd_cmpT (ninr_any hr.units65) (opd_inD _) (sd_callB opr_len opd_len (by rfl) T.z_len rfl (sa_cons (sd_name 0 rfl (.inl rfl)) sa_nil)) (sd_tup (sad_cons sd_int (sad_cons sd_int (sad_cons sd_int (sad_cons sd_int sad_nil)))) (hn := argsD_len (by decide))) (by with_unfolding_all rfl))))) (ss_one (by exact (ss_ret sd_str))) ss_nil)) (ss_cons (by exact (ss_for body_passes rfl (si_enum (by rfl) T.z_enumerate (sd_name 0 rfl (.inl rfl))) (sg_tup rfl (sgs_cons (sg_name sc__law_lots_fault.nd rfl (.inl rfl) (.inr rfl)) (sgs_cons (sg_name sc__law_lots_fault.nd rfl (.inl rfl) (.inr rfl)) sgs_nil))) (by decide) (ss_one (by exact (ss_if (sd_notT (sd_test (sd_call (ok__law_is_number T) len__law_is_number (hr.mono (by decide)) hG (by rfl) T.g__law_is_number T.F__law_is_number.kp (b__law_is_number T) body_takes (sap_cons (sd_name 2 rfl (.inl rfl)) (sap_cons (sd_un un_neg und_neg sd_int) (sap_cons sd_int sap_nil)))))) (ss_one (by exact (ss_ret (sd_tup (sad_cons sd_str (sad_cons (sd_name 1 rfl (.inl rfl)) sad_nil)) (hn := argsD_len (by decide)))))) ss_nil))))) (ss_one (by exact (ss_ret (sd_if (sd_cmpT (opr_eq hr.units) opd_eq (sd_ix (ixr_any hr.units) opd_ixD (sd_name 0 rfl (.inl rfl)) sd_int (fun _ _ => rfl)) sd_int (nomark _)) sd_non sd_str))))))
  exact h
theorem ok__law_lot (T : Top P K mg) : FnG P w K mg base 1 T.a__law_lot T.d__law_lot ["number"] (spOf (xrM mg) K 1 m__law_lot) := by
  have h := fnG_of (xr := xrM mg) (P := P) (w := w) (K := K) (mg := mg) (base := base) (k := 0) T.F__law_lot sc__law_lot (ro := [0]) (g := g__law_lot) fun cdv A outer s H vs E hr hG => (ss_one (by exact (ss_ret (sd_callTy opr_tupF opd_tuple (by rfl) T.z_tuple rfl (sa_cons (sd_lc1 rfl sc__law_lot.nd (si_range1 (by rfl) T.z_range (sa_cons sd_int sa_nil)) (own := [("i", 1)]) (blkOk_by (by rfl)) (by decide) (fun _ _ _ _ _ => (sg_name sc__law_lot.nd rfl (.inl rfl) (.inr rfl))) (fun _ _ _ _ _ => (sd_cmpT (opr_eq hr.units) opd_eq (sd_bin op_and opd_band (sd_bin op_shr opd_shr (sd_name 0 rfl (.inr (.inl rfl))) (sd_name 1 rfl (.inl rfl))) sd_int) sd_int (nomark _))) (fun _ _ _ _ _ => (sd_name 1 rfl (.inl rfl)))) sa_nil)))))
  exact h
theorem ok__law_on (T : Top P K mg) : FnG P w K mg base 1 T.a__law_on T.d__law_on ["point", "number"] (spOf (xrM mg) K 2 m__law_on) := by
  have h := fnG_of (xr := xrM mg) (P := P) (w := w) (K := K) (mg := mg) (base := base) (k := 0) T.F__law_on sc__law_on (ro := [0, 1]) (g := g__law_on) fun cdv A outer s H vs E hr hG => (ss_one (by exact (ss_ret (sd_callB (cr_sumF rfl) opd_sum (by rfl) T.z_sum rfl (sa_cons (sd_lc1 rfl sc__law_on.nd (si_enum (by rfl) T.z_enumerate (sd_name 0 rfl (.inl rfl))) (own := [("i", 2), ("x", 3)]) (blkOk_by (by rfl)) (by decide) (fun _ _ _ _ _ => (sg_tup rfl (sgs_cons (sg_name sc__law_on.nd rfl (.inl rfl) (.inr rfl)) (sgs_cons (sg_name sc__law_on.nd rfl (.inl rfl) (.inr rfl)) sgs_nil)))) (fun _ _ _ _ _ => (sd_cmpT (opr_eq hr.units) opd_eq (sd_bin op_and opd_band (sd_bin op_shr opd_shr (sd_name 1 rfl (.inr (.inl rfl))) (sd_name 2 rfl (.inl rfl))) sd_int) sd_int (nomark _))) (fun _ _ _ _ _ => (sd_name 3 rfl (.inl rfl)))) sa_nil)))))
  exact h
theorem ok__law_falling (T : Top P K mg) : FnG P w K mg base 3 T.a__law_falling T.d__law_falling ["pot", "many"] (spOf (xrM mg) K 2 m__law_falling) := by
  have h := fnG_of (xr := xrM mg) (P := P) (w := w) (K := K) (mg := mg) (base := base) (k := 2) T.F__law_falling sc__law_falling (ro := [0, 1]) (g := g__law_falling) fun cdv A outer s H vs E hr hG => (ss_cons (by exact (ss_set (i := 2) sc__law_falling.nd rfl (.inl rfl) (sd_bin opr_mul opd_mulD (sd_lst (sad_cons sd_int sad_nil) (argsD_len (by decide))) (sd_bin op_shl opd_shl sd_int (sd_name 1 rfl (.inl rfl)))) (by decide) (.inr rfl))) (ss_cons (by exact (ss_for body_passes rfl (si_range1 (by rfl) T.z_range (sa_cons (sd_call (ok__law_of T) drawFA_len (hr.mono (by decide)) hG (by rfl) T.g__law_of T.F__law_of.kp (b__law_of T) body_takes (sap_cons (sd_name 0 rfl (.inr (.inl rfl))) (sap_cons sd_int sap_nil))) sa_nil)) (sg_name sc__law_falling.nd rfl (.inl rfl) (.inr rfl)) (by decide) (ss_cons (by exact (ss_setT (sd_tup (sad_cons (sd_bin opr_add opd_add sd_int (sd_call (ok__law_of T) drawFA_len (hr.mono (by decide)) hG (by rfl) T.g__law_of T.F__law_of.kp (b__law_of T) body_takes (sap_cons (sd_name 0 rfl (.inr (.inl rfl))) (sap_cons (sd_bin op_sub opd_sub (sd_bin op_shl opd_shl sd_int (sd_name 1 rfl (.inl rfl))) sd_int) sap_nil)))) (sad_cons (sd_bin opr_add opd_add sd_int (sd_call (ok__law_of T) drawFA_len (hr.mono (by decide)) hG (by rfl) T.g__law_of T.F__law_of.kp (b__law_of T) body_takes (sap_cons (sd_name 0 rfl (.inr (.inl rfl))) (sap_cons sd_int sap_nil)))) (sad_cons (sd_bin opr_add opd_add sd_int (sd_call (ok__law_of T) drawFA_len (hr.mono (by decide)) hG (by rfl) T.g__law_of T.F__law_of.kp (b__law_of T) body_takes (sap_cons (sd_name 0 rfl (.inr (.inl rfl))) (sap_cons sd_int sap_nil)))) sad_nil))) (hn := argsD_len (by decide))) (sg_tup rfl (sgs_cons (sg_name sc__law_falling.nd rfl (.inr rfl) (.inl rfl)) (sgs_cons (sg_name sc__law_falling.nd rfl (.inr rfl) (.inl rfl)) (sgs_cons (sg_name sc__law_falling.nd rfl (.inr rfl) (.inl rfl)) sgs_nil)))) (by decide))) (ss_one (by exact (ss_setLc0 (i := 2) rfl sc__law_falling.nd rfl rfl (by decide) (sw_true rfl rfl rfl rfl) (si_enum (by rfl) T.z_enumerate (sd_name 2 rfl (.inl rfl))) (own := [("a", 8), ("item", 9)]) (blkOk_by (by rfl)) (by decide) (fun _ _ _ _ _ => (sg_tup rfl (sgs_cons (sg_name sc__law_falling.nd rfl (.inl rfl) (.inr rfl)) (sgs_cons (sg_name sc__law_falling.nd rfl (.inl rfl) (.inr rfl)) sgs_nil)))) (fun _ _ _ _ _ => (sd_bin opr_add opd_add (sd_name 9 rfl (.inl rfl)) (sd_bin opr_mul opd_mulD (sd_name 6 rfl (.inr (.inl rfl))) (sd_callB (call_min2 rfl) opd_min2 (by rfl) T.z_min rfl (sa_cons (sd_name 5 rfl (.inr (.inl rfl))) (sa_cons (sd_callB opr_len opd_len (by rfl) T.z_len rfl (sa_cons (sd_call (ok__law_lot T) len__law_lot (hr.mono (by decide)) hG (by rfl) T.g__law_lot T.F__law_lot.kp (b__law_lot T) blk_takes (sap_cons (sd_bin op_and opd_band (sd_name 8 rfl (.inl rfl)) (sd_name 4 rfl (.inr (.inl rfl)))) sap_nil)) sa_nil)) sa_nil)))))))))))) (ss_cons (by exact (ss_set (i := 7) sc__law_falling.nd rfl (.inr rfl) (sd_lc0 rfl sc__law_falling.nd (si_range1 (by rfl) T.z_range (sa_cons (sd_name 1 rfl (.inl rfl)) sa_nil)) (own := [("i", 10)]) (blkOk_by (by rfl)) (by decide) (fun _ _ _ _ _ => (sg_name sc__law_falling.nd rfl (.inl rfl) (.inr rfl))) (fun _ _ _ _ _ => (sd_call (ok__law_from T) len__law_from (hr.mono (by decide)) hG (by rfl) T.g__law_from T.F__law_from.kp (b__law_from T) blk_takes (sap_cons (sd_name 0 rfl (.inr (.inl rfl))) (sap_cons (sd_un un_neg und_neg sd_int) (sap_cons sd_int sap_nil)))))) (by decide) (.inl rfl))) (ss_one (by exact (ss_ret (sd_callTy opr_tupF opd_tuple (by rfl) T.z_tuple rfl (sa_cons (sd_lc0 rfl sc__law_falling.nd (si_enum (by rfl) T.z_enumerate (sd_name 2 rfl (.inl rfl))) (own := [("a", 8), ("item", 9)]) (blkOk_by (by rfl)) (by decide) (fun _ _ _ _ _ => (sg_tup rfl (sgs_cons (sg_name sc__law_falling.nd rfl (.inl rfl) (.inr rfl)) (sgs_cons (sg_name sc__law_falling.nd rfl (.inl rfl) (.inr rfl)) sgs_nil)))) (fun _ _ _ _ _ => (sd_bin opr_add opd_add (sd_name 9 rfl (.inl rfl)) (sd_call (ok__law_on T) len__law_on (hr.mono (by decide)) hG (by rfl) T.g__law_on T.F__law_on.kp (b__law_on T) blk_takes (sap_cons (sd_name 7 rfl (.inr (.inl rfl))) (sap_cons (sd_name 8 rfl (.inl rfl)) sap_nil)))))) sa_nil))))))))
  exact h
theorem ok__law_lot_table (T : Top P K mg) : FnG P w K mg base 4 T.a__law_lot_table T.d__law_lot_table ["pot", "many"] (spOf (xrM mg) K 2 m__law_lot_table) := by
  have h := fnG_of (xr := xrM mg) (P := P) (w := w) (K := K) (mg := mg) (base := base) (k := 3) T.F__law_lot_table sc__law_lot_table (ro := [0, 1]) (g := g__law_lot_table) fun cdv A outer s H vs E hr hG => (ss_cons (by exact (ss_par (i := 2) (j := 3) rfl sc__law_lot_table.nd rfl rfl (by decide) rfl rfl (sd_call (ok__law_falling T) len__law_falling (hr.mono (by decide)) hG (by rfl) T.g__law_falling T.F__law_falling.kp (b__law_falling T) body_takes (sap_cons (sd_name 0 rfl (.inr (.inl rfl))) (sap_cons (sd_name 1 rfl (.inl rfl)) sap_nil))) (sd_call (ok__law_of T) drawFA_len (hr.mono (by decide)) hG (by rfl) T.g__law_of T.F__law_of.kp (b__law_of T) body_takes (sap_cons (sd_name 0 rfl (.inr (.inl rfl))) (sap_cons sd_int sap_nil))) (by decide) (by decide) (by rfl))) (ss_cons (by exact (ss_if (PW.pt (sw_or (sd_cmpT (opq_lt hr.units) (opd_cmpT _ _) (sd_name 3 rfl (.inl rfl)) sd_int (nomark _)) (sw_or1 (sd_cmpT (opr_eq hr.units) opd_eq (sd_name 1 rfl (.inl rfl)) sd_int (nomark _))))) (ss_one (by exact (ss_ret (sd_name 2 rfl (.inl rfl))))) ss_nil)) (ss_cons (by exact (ss_if (sd_cmpT (opr_eq hr.units) opd_eq (sd_name 3 rfl (.inl rfl)) sd_int (nomark _)) (ss_cons (by exact (ss_set (i := 4) sc__law_lot_table.nd rfl (.inl rfl) (sd_bin opr_add opd_add sd_int (sd_call (ok__law_of T) drawFA_len (hr.mono (by decide)) hG (by rfl) T.g__law_of T.F__law_of.kp (b__law_of T) body_takes (sap_cons (sd_name 0 rfl (.inr (.inl rfl))) (sap_cons (sd_bin op_sub opd_sub (sd_callB opr_len opd_len (by rfl) T.z_len rfl (sa_cons (sd_name 2 rfl (.inl rfl)) sa_nil)) sd_int) sap_nil)))) (by decide) (.inr rfl))) (ss_one (by exact (ss_ret (sd_bin opr_add opd_add (sd_bin opr_add opd_add (sd_slice (sd_name 2 rfl (.inl rfl)) sp_none (sp_some (sd_name 4 rfl (.inl rfl)))) (sd_tup (sad_cons (sd_bin opr_add opd_add (sd_ix (ixr_any hr.units) opd_ixD (sd_name 2 rfl (.inl rfl)) (sd_name 4 rfl (.inl rfl)) (fun _ _ => rfl)) (sd_call (ok__law_one T) len__law_one (hr.mono (by decide)) hG (by rfl) T.g__law_one T.F__law_one.kp (b__law_one T) body_takes (sap_cons (sd_name 0 rfl (.inr (.inl rfl))) (sap_cons (sd_lst (sad_cons (sd_un un_neg und_neg sd_int) (sad_cons sd_int (sad_cons sd_int sad_nil))) (argsD_len (by decide))) sap_nil)))) sad_nil) (hn := argsD_len (by decide)))) (sd_slice (sd_name 2 rfl (.inl rfl)) (sp_some (sd_bin opr_add opd_add (sd_name 4 rfl (.inl rfl)) sd_int)) sp_none)))))) ss_nil)) (ss_one (by exact (ss_ret (sd_bin opr_add opd_add (sd_tup (sad_cons sd_int sad_nil) (hn := argsD_len (by decide))) (sd_callTy opr_tupF opd_tuple (by rfl) T.z_tuple rfl (sa_cons (sd_lc0 rfl sc__law_lot_table.nd (si_range1 (by rfl) T.z_range (sa_cons (sd_bin op_sub opd_sub (sd_callB opr_len opd_len (by rfl) T.z_len rfl (sa_cons (sd_name 2 rfl (.inl rfl)) sa_nil)) sd_int) sa_nil)) (own := [("a", 4)]) (blkOk_by (by rfl)) (by decide) (fun _ _ _ _ _ => (sg_name sc__law_lot_table.nd rfl (.inl rfl) (.inr rfl))) (fun _ _ _ _ _ => (sd_call (ok__law_from T) len__law_from (hr.mono (by decide)) hG (by rfl) T.g__law_from T.F__law_from.kp (b__law_from T) blk_takes (sap_cons (sd_name 0 rfl (.inr (.inl rfl))) (sap_cons (sd_un un_neg und_neg sd_int) (sap_cons sd_int sap_nil)))))) sa_nil)))))))))
  exact h
theorem ok__law_is_judged (T : Top P K mg) : FnG P w K mg base 3 T.a__law_is_judged T.d__law_is_judged ["value"] (spOf (xrM mg) K 1 m__law_is_judged) := by
  have h := fnG_of (xr := xrM mg) (P := P) (w := w) (K := K) (mg := mg) (base := base) (k := 2) T.F__law_is_judged sc__law_is_judged (ro := [0]) (g := g__law_is_judged) fun cdv A outer s H vs E hr hG => (ss_cons (by exact (ss_par (i := 1) (j := 2) rfl sc__law_is_judged.nd rfl rfl (by decide) rfl rfl (sd_callB (opr_repr hG hr.units) opd_repr (by rfl) T.z_repr rfl (sa_cons (sd_name 0 rfl (.inl rfl)) sa_nil)) (sd_callB (opr_repr hG hr.units) opd_repr (by rfl) T.z_repr rfl (sa_cons (sd_call (ok__law_lots_fault T) len__law_lots_fault (hr.mono (by decide)) hG (by rfl) T.g__law_lots_fault T.F__law_lots_fault.kp (b__law_lots_fault T) body_takes (sap_cons (sd_name 0 rfl (.inl rfl)) sap_nil)) sa_nil)) (by decide) (by decide) (by rfl))) (ss_one (by exact (ss_ret (sd_and (sd_cmp (opr_eq hr.units) opd_eq (sd_callB (opr_repr hG hr.units) opd_repr (by rfl) T.z_repr rfl (sa_cons (sd_call (ok_lots_error T) len_lots_error (hr.mono (by decide)) hG (by rfl) T.g_lots_error T.F_lots_error.kp (b_lots_error T) body_takes (sap_cons (sd_name 0 rfl (.inl rfl)) sap_nil)) sa_nil)) (sd_name 2 rfl (.inl rfl)) (nomark _)) (sd_and (sd_cmp (opr_eq hr.units) opd_eq (sd_callB (opr_repr hG hr.units) opd_repr (by rfl) T.z_repr rfl (sa_cons (sd_callK0 (ks := ["value"]) (ok_lots_error T) len_lots_error (hr.mono (by decide)) hG (by rfl) T.g_lots_error T.F_lots_error.kp (kb_lots_error_0_value T) (by decide) body_takes (skp_cons (sd_name 0 rfl (.inl rfl)) skp_nil)) sa_nil)) (sd_name 2 rfl (.inl rfl)) (nomark _)) (sd_one (sd_cmp (opr_eq hr.units) opd_eq (sd_callB (opr_repr hG hr.units) opd_repr (by rfl) T.z_repr rfl (sa_cons (sd_name 0 rfl (.inl rfl)) sa_nil)) (sd_name 1 rfl (.inl rfl)) (nomark _)))))))))
  exact h
theorem ok__law_bent_lots (T : Top P K mg) : FnG P w K mg base 3 T.a__law_bent_lots T.d__law_bent_lots ["pot", "table"] (spOf (xrM mg) K 2 m__law_bent_lots) := by
  have h := fnG_of (xr := xrM mg) (P := P) (w := w) (K := K) (mg := mg) (base := base) (k := 2) T.F__law_bent_lots sc__law_bent_lots (ro := [0, 1]) (g := g__law_bent_lots) fun cdv A outer s H vs E hr hG => (ss_cons (by exact (ss_par (i := 2) (j := 3) rfl sc__law_bent_lots.nd rfl rfl (by decide) rfl rfl (sd_call (ok__law_one T) len__law_one (hr.mono (by decide)) hG (by rfl) T.g__law_one T.F__law_one.kp (b__law_one T) body_takes (sap_cons (sd_name 0 rfl (.inl rfl)) (sap_cons (sd_lst (sad_cons (sd_call (ok__law_of T) drawFA_len (hr.mono (by decide)) hG (by rfl) T.g__law_of T.F__law_of.kp (b__law_of T) body_takes (sap_cons (sd_name 0 rfl (.inl rfl)) (sap_cons (sd_callB opr_len opd_len (by rfl) T.z_len rfl (sa_cons (sd_name 1 rfl (.inl rfl)) sa_nil)) sap_nil))) (sad_cons sd_int (sad_cons (sd_bin op_sub opd_sub (sd_callB opr_len opd_len (by rfl) T.z_len rfl (sa_cons (sd_name 1 rfl (.inl rfl)) sa_nil)) sd_int) sad_nil))) (argsD_len (by decide))) sap_nil))) (sd_call (ok__law_of T) drawFA_len (hr.mono (by decide)) hG (by rfl) T.g__law_of T.F__law_of.kp (b__law_of T) body_takes (sap_cons (sd_name 0 rfl (.inl rfl)) (sap_cons sd_int sap_nil))) (by decide) (by decide) (by rfl))) (ss_cons (by exact (ss_if (sd_cmpT (opq_lt hr.units) (opd_cmpT _ _) (sd_name 3 rfl (.inl rfl)) sd_int (nomark _)) (ss_cons (by exact (ss_set (i := 4) sc__law_bent_lots.nd rfl (.inl rfl) (sd_call (ok__law_one T) len__law_one (hr.mono (by decide)) hG (by rfl) T.g__law_one T.F__law_one.kp (b__law_one T) body_takes (sap_cons (sd_name 0 rfl (.inl rfl)) (sap_cons (sd_lst (sad_cons sd_int (sad_cons (sd_un un_neg und_neg sd_int) (sad_cons sd_int (sad_cons (sd_un un_neg und_neg sd_int) (sad_cons sd_bl (sad_cons sd_bl (sad_cons sd_non (sad_cons sd_str (sad_cons (sd_tup (sad_cons sd_int sad_nil) (hn := argsD_len (by decide))) (sad_cons sd_int (sad_cons (sd_bin op_pow opd_pow sd_int sd_int) sad_nil))))))))))) (argsD_len (by decide))) sap_nil))) (by decide) (.inr rfl))) (ss_one (by exact (ss_ret (sd_bin opr_add opd_add (sd_bin opr_add opd_add (sd_slice (sd_name 1 rfl (.inl rfl)) sp_none (sp_some (sd_name 2 rfl (.inl rfl)))) (sd_tup (sad_cons (sd_name 4 rfl (.inl rfl)) sad_nil) (hn := argsD_len (by decide)))) (sd_slice (sd_name 1 rfl (.inl rfl)) (sp_some (sd_bin opr_add opd_add (sd_name 2 rfl (.inl rfl)) sd_int)) sp_none)))))) ss_nil)) (ss_one (by exact (ss_ret (sd_call (ok__law_one T) len__law_one (hr.mono (by decide)) hG (by rfl) T.g__law_one T.F__law_one.kp (b__law_one T) body_takes (sap_cons (sd_name 0 rfl (.inl rfl)) (sap_cons (sd_lst (sad_cons (sd_bin opr_add opd_add (sd_name 1 rfl (.inl rfl)) (sd_tup (sad_cons sd_int sad_nil) (hn := argsD_len (by decide)))) (sad_cons (sd_slice (sd_name 1 rfl (.inl rfl)) sp_none (sp_some (sd_un un_neg und_neg sd_int))) (sad_cons (sd_callTy call_list_of opd_list (by rfl) T.z_list rfl (sa_cons (sd_name 1 rfl (.inl rfl)) sa_nil)) (sad_cons (sd_bin opr_add opd_add (sd_name 1 rfl (.inl rfl)) (sd_name 1 rfl (.inl rfl))) (sad_cons (sd_bin opr_add opd_add (sd_bin opr_add opd_add (sd_name 1 rfl (.inl rfl)) (sd_name 1 rfl (.inl rfl))) (sd_name 1 rfl (.inl rfl))) (sad_cons (sd_revT (sd_name 1 rfl (.inl rfl))) sad_nil)))))) (argsD_len (by decide))) sap_nil))))))))
  exact h
theorem ok_law (T : Top P K mg) : FnG P w K mg base 5 T.a_law T.d_law ["script"] (spOf (xrM mg) K 1 m_law) := by
  have h := fnG_of (xr := xrM mg) (P := P) (w := w) (K := K) (mg := mg) (base := base) (k := 4) T.F_law sc_law (ro := [0]) (g := g_law) fun cdv A outer s H vs E hr hG => (ss_cons (by exact (ss_set (i := 1) sc_law.nd rfl (.inr rfl) (sd_call (ok__law_pot T) len__law_pot (hr.mono (by decide)) hG (by rfl) T.g__law_pot T.F__law_pot.kp (b__law_pot T) body_takes (sap_cons (sd_name 0 rfl (.inl rfl)) sap_nil)) (by decide) (.inl rfl))) (ss_cons (by exact (ss_for body_passes rfl (si_range1 (by rfl) T.z_range (sa_cons sd_int sa_nil)) (sg_name sc_law.nd rfl (.inl rfl) (.inr rfl)) (by decide) (ss_cons (by exact (ss_set (i := 3) sc_law.nd rfl (.inl rfl) (sd_call (ok__law_lot_table T) len__law_lot_table (hr.mono (by decide)) hG (by rfl) T.g__law_lot_table T.F__law_lot_table.kp (b__law_lot_table T) body_takes (sap_cons (sd_name 1 rfl (.inr (.inl rfl))) (sap_cons (sd_bin opr_add opd_add sd_int (sd_call (ok__law_of T) drawFA_len (hr.mono (by decide)) hG (by rfl) T.g__law_of T.F__law_of.kp (b__law_of T) body_takes (sap_cons (sd_name 1 rfl (.inr (.inl rfl))) (sap_cons sd_int sap_nil)))) sap_nil))) (by decide) (.inr rfl))) (ss_cons (by exact (ss_if (sd_cmpT (opr_eq hr.units) opd_eq (sd_name 2 rfl (.inl rfl)) sd_int (nomark _)) (ss_one (by exact (ss_set (i := 3) sc_law.nd rfl (.inl rfl) (sd_bin opr_add opd_add (sd_tup (sad_cons sd_int sad_nil) (hn := argsD_len (by decide))) (sd_callTy opr_tupF opd_tuple (by rfl) T.z_tuple rfl (sa_cons (sd_lc0 rfl sc_law.nd (si_range1 (by rfl) T.z_range (sa_cons (sd_bin op_sub opd_sub (sd_callB opr_len opd_len (by rfl) T.z_len rfl (sa_cons (sd_name 3 rfl (.inl rfl)) sa_nil)) sd_int) sa_nil)) (own := [("a", 8)]) (blkOk_by (by rfl)) (by decide) (fun _ _ _ _ _ => (sg_name sc_law.nd rfl (.inl rfl) (.inr rfl))) (fun _ _ _ _ _ => (sd_call (ok__law_one T) len__law_one (hr.mono (by decide)) hG (by rfl) T.g__law_one T.F__law_one.kp (b__law_one T) blk_takes (sap_cons (sd_name 1 rfl (.inr (.inl rfl))) (sap_cons (sd_lst (sad_cons sd_int (sad_cons (sd_un un_neg und_neg sd_int) (sad_cons sd_int sad_nil))) (argsD_len (by decide))) sap_nil))))) sa_nil))) (by decide) (.inr rfl)))) ss_nil)) (ss_cons (by exact (ss_if (sd_notT (sd_test (sd_call (ok__law_is_judged T) len__law_is_judged (hr.mono (by decide)) hG (by rfl) T.g__law_is_judged T.F__law_is_judged.kp (b__law_is_judged T) body_takes (sap_cons (sd_name 3 rfl (.inl rfl)) sap_nil)))) (ss_one (by exact (ss_ret sd_bl))) ss_nil)) (ss_one (by exact (ss_for body_passes rfl (si_range1 (by rfl) T.z_range (sa_cons sd_int sa_nil)) (sg_name sc_law.nd rfl (.inl rfl) (.inr rfl)) (by decide) (ss_one (by exact (ss_if (sd_notT (sd_test (sd_call (ok__law_is_judged T) len__law_is_judged (hr.mono (by decide)) hG (by rfl) T.g__law_is_judged T.F__law_is_judged.kp (b__law_is_judged T) body_takes (sap_cons (sd_call (ok__law_bent_lots T) len__law_bent_lots (hr.mono (by decide)) hG (by rfl) T.g__law_bent_lots T.F__law_bent_lots.kp (b__law_bent_lots T) body_takes (sap_cons (sd_name 1 rfl (.inr (.inl rfl))) (sap_cons (sd_name 3 rfl (.inl rfl)) sap_nil))) sap_nil)))) (ss_one (by exact (ss_ret sd_bl))) ss_nil))))))))))) (ss_cons (by exact (ss_set (i := 5) sc_law.nd rfl (.inl rfl) (sd_lst (sad_cons sd_non (sad_cons (sd_tup sad_nil (hn := argsD_len (by decide))) (sad_cons (sd_lst sad_nil (argsD_len (by decide))) (sad_cons (sd_tup (sad_cons sd_int sad_nil) (hn := argsD_len (by decide))) (sad_cons sd_dict0 (sad_cons sd_int (sad_cons sd_str (sad_cons (sd_tup (sad_cons sd_int (sad_cons sd_int (sad_cons sd_int sad_nil))) (hn := argsD_len (by decide))) (sad_cons (sd_tup (sad_cons (sd_tup (sad_cons sd_int (sad_cons sd_int sad_nil)) (hn := argsD_len (by decide))) sad_nil) (hn := argsD_len (by decide))) (sad_cons (sd_tup (sad_cons sd_non (sad_cons sd_non sad_nil)) (hn := argsD_len (by decide))) (sad_cons (sd_bin opr_mul opd_mulD (sd_tup (sad_cons sd_int sad_nil) (hn := argsD_len (by decide))) sd_int) (sad_cons sd_bl sad_nil)))))))))))) (argsD_len (by decide))) (by decide) (.inr rfl))) (ss_cons (by exact (ss_if (sd_notT (sd_test (sd_call (ok__law_is_judged T) len__law_is_judged (hr.mono (by decide)) hG (by rfl) T.g__law_is_judged T.F__law_is_judged.kp (b__law_is_judged T) body_takes (sap_cons (sd_call (ok__law_one T) len__law_one (hr.mono (by decide)) hG (by rfl) T.g__law_one T.F__law_one.kp (b__law_one T) body_takes (sap_cons (sd_name 1 rfl (.inr (.inl rfl))) (sap_cons (sd_name 5 rfl (.inl rfl)) sap_nil))) sap_nil)))) (ss_one (by exact (ss_ret sd_bl))) ss_nil)) (ss_cons (by exact (ss_for body_passes rfl (si_range1 (by rfl) T.z_range (sa_cons sd_int sa_nil)) (sg_name sc_law.nd rfl (.inl rfl) (.inr rfl)) (by decide) (ss_cons (by exact (ss_set (i := 7) sc_law.nd rfl (.inl rfl) (sd_call (ok__law_lot T) len__law_lot (hr.mono (by decide)) hG (by rfl) T.g__law_lot T.F__law_lot.kp (b__law_lot T) body_takes (sap_cons (sd_name 6 rfl (.inl rfl)) sap_nil)) (by decide) (.inr rfl))) (ss_one (by exact (ss_if (sd_cmpT (opr_ne hr.units) opd_ne (sd_callB (opr_repr hG hr.units) opd_repr (by rfl) T.z_repr rfl (sa_cons (sd_lst (sad_cons (sd_call (ok_lot_of T) len_lot_of (hr.mono (by decide)) hG (by rfl) T.g_lot_of T.F_lot_of.kp (b_lot_of T) body_takes (sap_cons (sd_name 6 rfl (.inl rfl)) sap_nil)) (sad_cons (sd_callK0 (ks := ["number"]) (ok_lot_of T) len_lot_of (hr.mono (by decide)) hG (by rfl) T.g_lot_of T.F_lot_of.kp (kb_lot_of_0_number T) (by decide) body_takes (skp_cons (sd_name 6 rfl (.inl rfl)) skp_nil)) (sad_cons (sd_call (ok_lot_number T) len_lot_number (hr.mono (by decide)) hG (by rfl) T.g_lot_number T.F_lot_number.kp (b_lot_number T) body_takes (sap_cons (sd_name 7 rfl (.inl rfl)) sap_nil)) (sad_cons (sd_callK0 (ks := ["lot"]) (ok_lot_number T) len_lot_number (hr.mono (by decide)) hG (by rfl) T.g_lot_number T.F_lot_number.kp (kb_lot_number_0_lot T) (by decide) body_takes (skp_cons (sd_name 7 rfl (.inl rfl)) skp_nil)) sad_nil)))) (argsD_len (by decide))) sa_nil)) (sd_callB (opr_repr hG hr.units) opd_repr (by rfl) T.z_repr rfl (sa_cons (sd_lst (sad_cons (sd_name 7 rfl (.inl rfl)) (sad_cons (sd_name 7 rfl (.inl rfl)) (sad_cons (sd_name 6 rfl (.inl rfl)) (sad_cons (sd_name 6 rfl (.inl rfl)) sad_nil)))) (argsD_len (by decide))) sa_nil)) (nomark _)) (ss_one (by exact (ss_ret sd_bl))) ss_nil)))))) (ss_one (by exact (ss_ret sd_bl))))))))
  exact h
end
theorem all_mk {l : PySem.W.OpenLaw} {w : World} {K : PySem.W.Frag} {h : Heap} {mg : Str → Option Value} {fa : Addr} (X : K.In h) (G : h.Ns mainGlobals mg) (hfa : mg "law" = some (.ref fa))
    {f0 f1 f2 f3 f4 f5 f6 f7 f8 f9 f10 f11 f12 f13 f14 f15 f16 : Addr} {od0 an0 od1 an1 od2 an2 od3 an3 od4 an4 od5 an5 od6 an6 od7 an7 od8 an8 od9 an9 od10 an10 od11 an11 od12 an12 od13 an13 od14 an14 od15 an15 od16 an16 : Option Addr} {sl0 sl1 sl2 sl3 sl4 sl5 sl6 sl7 sl8 sl9 sl10 sl11 sl12 sl13 sl14 sl15 sl16 : Array (Option Value)} {oc0 kV0 dc0 pm0 cd0 ct0 oc1 kV1 dc1 pm1 cd1 ct1 oc2 kV2 dc2 pm2 cd2 ct2 oc3 kV3 dc3 pm3 cd3 ct3 oc4 kV4 dc4 pm4 cd4 ct4 oc5 kV5 dc5 pm5 cd5 ct5 oc6 kV6 dc6 pm6 cd6 ct6 oc7 kV7 dc7 pm7 cd7 ct7 oc8 kV8 dc8 pm8 cd8 ct8 oc9 kV9 dc9 pm9 cd9 ct9 oc10 kV10 dc10 pm10 cd10 ct10 oc11 kV11 dc11 pm11 cd11 ct11 oc12 kV12 dc12 pm12 cd12 ct12 oc13 kV13 dc13 pm13 cd13 ct13 oc14 kV14 dc14 pm14 cd14 ct14 oc15 kV15 dc15 pm15 cd15 ct15 oc16 kV16 dc16 pm16 cd16 ct16 : Value}
    (a0 : PySem.W.nsIn K mainGlobals "is_whole" = some (some (.ref f0))) (l0 : K.lookup f0 = some ⟨oc0, od0, .func (PySem.W.fnOf "is_whole" "is_whole" (defArgs st_is_whole) (defBody st_is_whole) (defScope st_is_whole) .none kV0 dc0 pm0 an0 cd0 ct0), sl0⟩) (c0 : PySem.W.codeIn K cd0 "is_whole" = true) (k0 : PySem.W.keepIn K (.ref f0) = true)
    (a1 : PySem.W.nsIn K mainGlobals "lots_error" = some (some (.ref f1))) (l1 : K.lookup f1 = some ⟨oc1, od1, .func (PySem.W.fnOf "lots_error" "lots_error" (defArgs st_lots_error) (defBody st_lots_error) (defScope st_lots_error) .none kV1 dc1 pm1 an1 cd1 ct1), sl1⟩) (c1 : PySem.W.codeIn K cd1 "lots_error" = true) (k1 : PySem.W.keepIn K (.ref f1) = true)
    (a2 : PySem.W.nsIn K mainGlobals "lot_number" = some (some (.ref f2))) (l2 : K.lookup f2 = some ⟨oc2, od2, .func (PySem.W.fnOf "lot_number" "lot_number" (defArgs st_lot_number) (defBody st_lot_number) (defScope st_lot_number) .none kV2 dc2 pm2 an2 cd2 ct2), sl2⟩) (c2 : PySem.W.codeIn K cd2 "lot_number" = true) (k2 : PySem.W.keepIn K (.ref f2) = true)
    (a3 : PySem.W.nsIn K mainGlobals "lot_of" = some (some (.ref f3))) (l3 : K.lookup f3 = some ⟨oc3, od3, .func (PySem.W.fnOf "lot_of" "lot_of" (defArgs st_lot_of) (defBody st_lot_of) (defScope st_lot_of) .none kV3 dc3 pm3 an3 cd3 ct3), sl3⟩) (c3 : PySem.W.codeIn K cd3 "lot_of" = true) (k3 : PySem.W.keepIn K (.ref f3) = true)
    (a4 : PySem.W.nsIn K mainGlobals "_law_pot" = some (some (.ref f4))) (l4 : K.lookup f4 = some ⟨oc4, od4, .func (PySem.W.fnOf "_law_pot" "_law_pot" (defArgs st__law_pot) (defBody st__law_pot) (defScope st__law_pot) .none kV4 dc4 pm4 an4 cd4 ct4), sl4⟩) (c4 : PySem.W.codeIn K cd4 "_law_pot" = true) (k4 : PySem.W.keepIn K (.ref f4) = true)
    (a5 : PySem.W.nsIn K mainGlobals "_law_of" = some (some (.ref f5))) (l5 : K.lookup f5 = some ⟨oc5, od5, .func (PySem.W.fnOf "_law_of" "_law_of" (defArgs st__law_of) (defBody st__law_of) (defScope st__law_of) .none kV5 dc5 pm5 an5 cd5 ct5), sl5⟩) (c5 : PySem.W.codeIn K cd5 "_law_of" = true) (k5 : PySem.W.keepIn K (.ref f5) = true)
    (a6 : PySem.W.nsIn K mainGlobals "_law_one" = some (some (.ref f6))) (l6 : K.lookup f6 = some ⟨oc6, od6, .func (PySem.W.fnOf "_law_one" "_law_one" (defArgs st__law_one) (defBody st__law_one) (defScope st__law_one) .none kV6 dc6 pm6 an6 cd6 ct6), sl6⟩) (c6 : PySem.W.codeIn K cd6 "_law_one" = true) (k6 : PySem.W.keepIn K (.ref f6) = true)
    (a7 : PySem.W.nsIn K mainGlobals "_law_from" = some (some (.ref f7))) (l7 : K.lookup f7 = some ⟨oc7, od7, .func (PySem.W.fnOf "_law_from" "_law_from" (defArgs st__law_from) (defBody st__law_from) (defScope st__law_from) .none kV7 dc7 pm7 an7 cd7 ct7), sl7⟩) (c7 : PySem.W.codeIn K cd7 "_law_from" = true) (k7 : PySem.W.keepIn K (.ref f7) = true)
    (a8 : PySem.W.nsIn K mainGlobals "_law_is_number" = some (some (.ref f8))) (l8 : K.lookup f8 = some ⟨oc8, od8, .func (PySem.W.fnOf "_law_is_number" "_law_is_number" (defArgs st__law_is_number) (defBody st__law_is_number) (defScope st__law_is_number) .none kV8 dc8 pm8 an8 cd8 ct8), sl8⟩) (c8 : PySem.W.codeIn K cd8 "_law_is_number" = true) (k8 : PySem.W.keepIn K (.ref f8) = true)
    (a9 : PySem.W.nsIn K mainGlobals "_law_lots_fault" = some (some (.ref f9))) (l9 : K.lookup f9 = some ⟨oc9, od9, .func (PySem.W.fnOf "_law_lots_fault" "_law_lots_fault" (defArgs st__law_lots_fault) (defBody st__law_lots_fault) (defScope st__law_lots_fault) .none kV9 dc9 pm9 an9 cd9 ct9), sl9⟩) (c9 : PySem.W.codeIn K cd9 "_law_lots_fault" = true) (k9 : PySem.W.keepIn K (.ref f9) = true)
    (a10 : PySem.W.nsIn K mainGlobals "_law_lot" = some (some (.ref f10))) (l10 : K.lookup f10 = some ⟨oc10, od10, .func (PySem.W.fnOf "_law_lot" "_law_lot" (defArgs st__law_lot) (defBody st__law_lot) (defScope st__law_lot) .none kV10 dc10 pm10 an10 cd10 ct10), sl10⟩) (c10 : PySem.W.codeIn K cd10 "_law_lot" = true) (k10 : PySem.W.keepIn K (.ref f10) = true)
    (a11 : PySem.W.nsIn K mainGlobals "_law_on" = some (some (.ref f11))) (l11 : K.lookup f11 = some ⟨oc11, od11, .func (PySem.W.fnOf "_law_on" "_law_on" (defArgs st__law_on) (defBody st__law_on) (defScope st__law_on) .none kV11 dc11 pm11 an11 cd11 ct11), sl11⟩) (c11 : PySem.W.codeIn K cd11 "_law_on" = true) (k11 : PySem.W.keepIn K (.ref f11) = true)
    (a12 : PySem.W.nsIn K mainGlobals "_law_falling" = some (some (.ref f12))) (l12 : K.lookup f12 = some ⟨oc12, od12, .func (PySem.W.fnOf "_law_falling" "_law_falling" (defArgs st__law_falling) (defBody st__law_falling) (defScope st__law_falling) .none kV12 dc12 pm12 an12 cd12 ct12), sl12⟩) (c12 : PySem.W.codeIn K cd12 "_law_falling" = true) (k12 : PySem.W.keepIn K (.ref f12) = true)
    (a13 : PySem.W.nsIn K mainGlobals "_law_lot_table" = some (some (.ref f13))) (l13 : K.lookup f13 = some ⟨oc13, od13, .func (PySem.W.fnOf "_law_lot_table" "_law_lot_table" (defArgs st__law_lot_table) (defBody st__law_lot_table) (defScope st__law_lot_table) .none kV13 dc13 pm13 an13 cd13 ct13), sl13⟩) (c13 : PySem.W.codeIn K cd13 "_law_lot_table" = true) (k13 : PySem.W.keepIn K (.ref f13) = true)
    (a14 : PySem.W.nsIn K mainGlobals "_law_is_judged" = some (some (.ref f14))) (l14 : K.lookup f14 = some ⟨oc14, od14, .func (PySem.W.fnOf "_law_is_judged" "_law_is_judged" (defArgs st__law_is_judged) (defBody st__law_is_judged) (defScope st__law_is_judged) .none kV14 dc14 pm14 an14 cd14 ct14), sl14⟩) (c14 : PySem.W.codeIn K cd14 "_law_is_judged" = true) (k14 : PySem.W.keepIn K (.ref f14) = true)
    (a15 : PySem.W.nsIn K mainGlobals "_law_bent_lots" = some (some (.ref f15))) (l15 : K.lookup f15 = some ⟨oc15, od15, .func (PySem.W.fnOf "_law_bent_lots" "_law_bent_lots" (defArgs st__law_bent_lots) (defBody st__law_bent_lots) (defScope st__law_bent_lots) .none kV15 dc15 pm15 an15 cd15 ct15), sl15⟩) (c15 : PySem.W.codeIn K cd15 "_law_bent_lots" = true) (k15 : PySem.W.keepIn K (.ref f15) = true)
    (a16 : PySem.W.nsIn K mainGlobals "law" = some (some (.ref f16))) (l16 : K.lookup f16 = some ⟨oc16, od16, .func (PySem.W.fnOf "law" "law" (defArgs st_law) (defBody st_law) (defScope st_law) .none kV16 dc16 pm16 an16 cd16 ct16), sl16⟩) (c16 : PySem.W.codeIn K cd16 "law" = true) (k16 : PySem.W.keepIn K (.ref f16) = true)
    (z_abs : PySem.W.nsIn K mainGlobals "abs" = some none)
    (z_bool : PySem.W.nsIn K mainGlobals "bool" = some none)
    (z_enumerate : PySem.W.nsIn K mainGlobals "enumerate" = some none)
    (z_int : PySem.W.nsIn K mainGlobals "int" = some none)
    (z_isinstance : PySem.W.nsIn K mainGlobals "isinstance" = some none)
    (z_len : PySem.W.nsIn K mainGlobals "len" = some none)
    (z_list : PySem.W.nsIn K mainGlobals "list" = some none)
    (z_min : PySem.W.nsIn K mainGlobals "min" = some none)
    (z_range : PySem.W.nsIn K mainGlobals "range" = some none)
    (z_repr : PySem.W.nsIn K mainGlobals "repr" = some none)
    (z_sum : PySem.W.nsIn K mainGlobals "sum" = some none)
    (z_tuple : PySem.W.nsIn K mainGlobals "tuple" = some none)
    {tk_MAX_WORTH : Tok}
    {d_SIZES : Addr} {es_SIZES : Array DictEntry} {en_SIZES : Nat}
    (n_MAX_WORTH : PySem.W.nsIn K mainGlobals "MAX_WORTH" = some (some (.int 1000 tk_MAX_WORTH)))
    (n_SIZES : PySem.W.nsIn K mainGlobals "SIZES" = some (some (.ref d_SIZES)))
    (l_SIZES : K.lookup d_SIZES = some ⟨.type "dict", none, .dict es_SIZES en_SIZES, #[]⟩)
    (i_SIZES : PyE.IntEs [(2, 1), (4, 2), (8, 3), (16, 4)] es_SIZES.toList)
    (s_SIZES : (d_SIZES == sysModules) = false)
    : ∃ fd : FuncData, (∀ (s : Shared) (v : Value), BindsTo s fd ⟨[v], []⟩ [("script", v)]) ∧ ∀ base : Heap, K.In base → base.Ns mainGlobals mg → FnG l.prog w K mg base 5 fa fd ["script"] (spOf xrT K 1 m_law) := by
  have e : f16 = fa := by have z := (PySem.W.mg_of X G a16).symm.trans hfa; cases z; rfl
  subst e
  let T : Top l.prog K mg := {
    a_is_whole := f0, d_is_whole := _, F_is_whole := fun_mk (st := st_is_whole) l0 c0 k0, g_is_whole := PySem.W.mg_of X G a0,
    a_lots_error := f1, d_lots_error := _, F_lots_error := fun_mk (st := st_lots_error) l1 c1 k1, g_lots_error := PySem.W.mg_of X G a1,
    a_lot_number := f2, d_lot_number := _, F_lot_number := fun_mk (st := st_lot_number) l2 c2 k2, g_lot_number := PySem.W.mg_of X G a2,
    a_lot_of := f3, d_lot_of := _, F_lot_of := fun_mk (st := st_lot_of) l3 c3 k3, g_lot_of := PySem.W.mg_of X G a3,
    a__law_pot := f4, d__law_pot := _, F__law_pot := fun_mk (st := st__law_pot) l4 c4 k4, g__law_pot := PySem.W.mg_of X G a4,
    a__law_of := f5, d__law_of := _, F__law_of := fun_mk (st := st__law_of) l5 c5 k5, g__law_of := PySem.W.mg_of X G a5,
    a__law_one := f6, d__law_one := _, F__law_one := fun_mk (st := st__law_one) l6 c6 k6, g__law_one := PySem.W.mg_of X G a6,
    a__law_from := f7, d__law_from := _, F__law_from := fun_mk (st := st__law_from) l7 c7 k7, g__law_from := PySem.W.mg_of X G a7,
    a__law_is_number := f8, d__law_is_number := _, F__law_is_number := fun_mk (st := st__law_is_number) l8 c8 k8, g__law_is_number := PySem.W.mg_of X G a8,
    a__law_lots_fault := f9, d__law_lots_fault := _, F__law_lots_fault := fun_mk (st := st__law_lots_fault) l9 c9 k9, g__law_lots_fault := PySem.W.mg_of X G a9,
    a__law_lot := f10, d__law_lot := _, F__law_lot := fun_mk (st := st__law_lot) l10 c10 k10, g__law_lot := PySem.W.mg_of X G a10,
    a__law_on := f11, d__law_on := _, F__law_on := fun_mk (st := st__law_on) l11 c11 k11, g__law_on := PySem.W.mg_of X G a11,
    a__law_falling := f12, d__law_falling := _, F__law_falling := fun_mk (st := st__law_falling) l12 c12 k12, g__law_falling := PySem.W.mg_of X G a12,
    a__law_lot_table := f13, d__law_lot_table := _, F__law_lot_table := fun_mk (st := st__law_lot_table) l13 c13 k13, g__law_lot_table := PySem.W.mg_of X G a13,
    a__law_is_judged := f14, d__law_is_judged := _, F__law_is_judged := fun_mk (st := st__law_is_judged) l14 c14 k14, g__law_is_judged := PySem.W.mg_of X G a14,
    a__law_bent_lots := f15, d__law_bent_lots := _, F__law_bent_lots := fun_mk (st := st__law_bent_lots) l15 c15 k15, g__law_bent_lots := PySem.W.mg_of X G a15,
    a_law := f16, d_law := _, F_law := fun_mk (st := st_law) l16 c16 k16, g_law := PySem.W.mg_of X G a16,
    z_abs := PySem.W.mg_none_of X G z_abs,
    z_bool := PySem.W.mg_none_of X G z_bool,
    z_enumerate := PySem.W.mg_none_of X G z_enumerate,
    z_int := PySem.W.mg_none_of X G z_int,
    z_isinstance := PySem.W.mg_none_of X G z_isinstance,
    z_len := PySem.W.mg_none_of X G z_len,
    z_list := PySem.W.mg_none_of X G z_list,
    z_min := PySem.W.mg_none_of X G z_min,
    z_range := PySem.W.mg_none_of X G z_range,
    z_repr := PySem.W.mg_none_of X G z_repr,
    z_sum := PySem.W.mg_none_of X G z_sum,
    z_tuple := PySem.W.mg_none_of X G z_tuple,
    c_MAX_WORTH := ⟨_, PySem.W.mg_of X G n_MAX_WORTH⟩,
    c_SIZES := ⟨_, PySem.W.mg_of X G n_SIZES, _, _, l_SIZES, i_SIZES⟩,
    s_SIZES := fun a e => by cases (PySem.W.mg_of X G n_SIZES).symm.trans e; exact s_SIZES }
  exact ⟨T.d_law, fun s v => .of_eq rfl, fun base _ _ => (ok_law T).imp fun _ _ _ _ q => spOf_true q⟩
end LawP

namespace LawP
open PySem PySem.Spec PyProof.Rows L2 PyE
local macro_rules | `(tactic| trivial) => `(tactic| try simp (implicitDefEqProofs := false) only [ev_runR_rt, ev_runR_nx, ev_runR_ex, eb_ok, eb_no, eb_ex, eb_bnd, ev_frz, ev_frz_d, ev_frz_nl, ev_frz_nd, ev_frz_s, ev_frS_fz, ev_frS_ol, ev_frS_od, ev_dE, ev_dK, ev_slot, ev_slK_fz, ev_slK_ol, ev_slK_od, ev_slK_rs, ev_slK_pot, ev_data, ev_de_d, ev_de_nl, ev_de_nd, ev_de_s, ev_drS_fz, ev_drS_ol, ev_drS_od, ev_fin, ev_op2, ev_o2a, ev_o2b, ev_o2c, ev_op1, ev_o1a, ev_o1b, ev_test, ev_teK, ev_te2, ev_te3, ev_bool, ev_boK, ev_and, ev_anK_t, ev_anK_f, ev_or, ev_orK_t, ev_orK_f, ev_not, ev_noK, ev_andE, ev_aeK_t, ev_aeK_f, ev_orE, ev_oeK_t, ev_oeK_f, ev_notE, ev_neK, ev_ifE, ev_ieK_t, ev_ieK_f, ev_args0, ev_args, ev_aeC, ev_aeD, ev_argd0, ev_argd, ev_adC, ev_adD, ev_tup, ev_tuK, ev_lst, ev_liK, ev_opN, ev_onK, ev_onO, ev_des0, ev_des, ev_consO, ev_slice, ev_slA, ev_slB, ev_slC_d, ev_slC_nl, ev_slC_s, ev_slD, ev_part0, ev_part, ev_paK, ev_seq, ev_isK_l, ev_isK_t, ev_rg1, ev_ir1, ev_rg2, ev_ir2, ev_enum, ev_enK, ev_zip, ev_ziK, ev_ziO, ev_sq_l, ev_sq_t, ev_zip3, ev_zi3K, ev_zi3O, ev_comp, ev_coK, ev_coF, ev_wipe0, ev_wipe, ev_rest0, ev_rest, ev_yes, ev_step, ev_stepO, ev_stepT_t, ev_stepT_f, ev_stepE, ev_tgN, ev_tgT, ev_tgA0, ev_tgA, ev_tgO, ev_sq, ev_sqK_nx, ev_sqK_rt, ev_sqK_bk, ev_sqK_ct, ev_skip, ev_drop, ev_drK, ev_if, ev_ifK_t, ev_ifK_f, ev_own, ev_owK_d, ev_owK_nl, ev_owK_nd, ev_owK_nr, ev_owK_s, ev_owD, ev_put_d, ev_put_nl, ev_put_nd, ev_put_nr, ev_set, ev_setT, ev_stK, ev_stO, ev_ret, ev_give_d, ev_give_nl, ev_give_nd, ev_give_nr, ev_for, ev_par, ev_prC, ev_prD, ev_prE, ev_pot, ev_potK, forL_nil, ev_bodyO, ev_forT_nx, ev_forT_ct, ev_forT_bk, ev_forT_rt, ev_argp0, ev_argp, ev_apC, ev_apD, ev_pass, ev_paN_d, ev_paN_s, ev_paN_nl, ev_call, ev_callM, ev_caO, ev_caF, ev_caF_ex, ev_pm0, ev_pm_d, ev_pm_s, ev_conM, ev_bm0, ev_bm_s, ev_bm_d, ev_so0, ev_so_d, ev_so_s, ev_mv_fz, ev_mv_ol, ev_mv_od, ev_mv_rs, ev_mv_pot, ev_callK, ev_ckC, ev_ckK, ev_chain, ev_chA, ev_chB, ev_ch1, ev_ch2_t, ev_ch2_f, ev_chK2, ev_ch3, ev_rge1, ev_rg1K, ev_rge2, ev_rg2A, ev_rg2K, ev_rev, ev_revK, ev_revO, ev_par3, ev_p3B, ev_p3C, ev_p3D, ev_p3E, ev_p3F, ev_dictOf, ev_dcO, ev_get, ev_getK, ev_getA, ev_getK2, ev_dict, ev_dictK, ev_dictO, ixDD_l, ixDD_t, inDD_l, inDD_t, ev_setX, ev_setK1, ev_sx1_ol, ev_sx1_od, ev_setK2, ev_retO, ev_reO, ev_ixm, ev_ixmK, ev_ixmO, ev_raise1, ev_rsK, ev_raise0, ev_try, ev_trO_ok, ev_trO_ex, ev_hd, ev_hd0, ev_hdB_t, ev_hdB_f, ev_hdC, ev_hdAt0, ev_hdAt, ev_hdD, ev_hdArg, ev_hdNil, ev_hdCons, ev_hcO, ev_hdTup, ev_hdLst, catch_self, catch_all, catch_UT, catch_TU, ev_mut, ev_mu1, ev_mu2, ev_mu3, ev_mu4, Option.map_some, Option.getD_some, Option.getD_none, Option.isSome_some, Option.isSome_none, Option.map_none, List.getElem?_cons_zero, List.getElem?_cons_succ, List.set_cons_zero, List.set_cons_succ, List.getD_cons_zero, List.getD_cons_succ, List.map_cons, List.map_nil, List.cons_append, List.nil_append, List.length_cons, List.length_nil, Nat.reduceAdd, Nat.zero_add, Nat.reduceLT, Nat.lt_add_one, decide_true, Option.join_some, Option.join_none, distinct, List.contains_cons, List.contains_nil, Nat.reduceBEq, Bool.or_false, Bool.true_and, Bool.false_and, Bool.and_false, Bool.true_bne, Bool.false_bne, Int.reduceBEq, Bool.or_self, Bool.not_false, Bool.not_true, Bool.and_true, Bool.and_self, Option.some.injEq, iD, bD, subD, absD, max2D, min2D, int1D, negD, cmpDT_int, cmpDT_pt, lenL, lenT, tupL, tupT, lisL, lisT, addD_int, neD_int, eqD_int, eqD_str, neD_str, beq_self_eq_true, ne_nil0, ne_nil0T, eq_nil0, eq_nil0T, List.length_map, truth_b, isD_n, isD_i, isD_t, isD_l, isD_s, isD_b, ev_isi, ev_ixl, ev_ixlK, ev_pick, ev_ls, ev_ixmO, isi_int_none, isi_int_bool, isi_int_int, isi_int_str, isi_int_list, isi_int_tuple, isi_bool_none, isi_bool_bool, isi_bool_int, isi_bool_str, isi_bool_list, isi_bool_tuple, isi_str_none, isi_str_bool, isi_str_int, isi_str_str, isi_str_list, isi_str_tuple, isi_tuple_none, isi_tuple_bool, isi_tuple_int, isi_tuple_str, isi_tuple_list, isi_tuple_tuple, isi_int_dict, isi_bool_dict, isi_str_dict, isi_list_dict, isi_tuple_dict])
/-! ### draws of the first kind -/
theorem from_ok {p : Pot} (hp : p.k = 0) (lo hi : Int) (h : lo ≤ hi) (h2 : hi - lo < 1000000000) : ∃ n, ∃ p' : Pot, p'.k = 0 ∧ m__law_from [p.mv, .fz (.int lo), .fz (.int hi)] = .ok (.fz (.int n)) [some p'.mv, some (.fz (.int lo)), some (.fz (.int hi))] ∧ lo ≤ n ∧ n ≤ hi := by
  obtain ⟨v, p', hp', e, h3, h4⟩ := p.drawA hp (many := hi - lo + 1) (by omega)
  have h4 := h4 (by omega)
  refine ⟨lo + v, p', hp', ?_, by omega, by omega⟩
  first | refine (run_ev (st := [some _, some _, some _]) rfl rfl rfl).trans ?_ | refine Meets.of (run_ev (st := [some _, some _, some _]) rfl rfl rfl) ?_ | refine (run_ev (np := 3) (nn := 3) (st := [some _, some _, some _]) rfl rfl rfl).trans ?_
  unfold g__law_from
  trivial
  trivial
  rw [e]
  trivial
  all_goals rfl
theorem getD_at {a : List Int} {i : Nat} (h : i < a.length) : (a.map PyData.int)[i]? = some (.int (a.getD i 0)) := by
  rw [List.getElem?_map, List.getElem?_eq_getElem h, List.getD_eq_getElem?_getD, List.getElem?_eq_getElem h]; rfl
theorem one_ok {p : Pot} (hp : p.k = 0) {a : Mv} {ds : List PyData} (ha : a = .fz (.list ds) ∨ a = .fz (.tuple ds) ∨ a = .ol ds) (h0 : ds ≠ []) (hl : ds.length ≤ 1000) : ∃ (j : Nat) (d : PyData) (p' : Pot), p'.k = 0 ∧ m__law_one [p.mv, a] = .ok (.fz d) [some p'.mv, some a] ∧ ds[j]? = some d := by
  have h1 : 0 < ds.length := List.length_pos_iff.mpr h0
  obtain ⟨v, p', hp', e, h2, h3⟩ := p.drawA hp (many := ds.length) (by omega)
  have h3 := h3 (by omega)
  obtain ⟨k, rfl⟩ := Int.eq_ofNat_of_zero_le h2
  have hk : k < ds.length := by omega
  refine ⟨k, ds[k], p', hp', ?_, List.getElem?_eq_getElem hk⟩
  rcases ha with rfl | rfl | rfl
  · first | refine (run_ev (st := [some _, some _]) rfl rfl rfl).trans ?_ | refine Meets.of (run_ev (st := [some _, some _]) rfl rfl rfl) ?_ | refine (run_ev (np := 2) (nn := 2) (st := [some _, some _]) rfl rfl rfl).trans ?_
    unfold g__law_one
    trivial
    trivial
    rw [e]
    trivial
    rw [ix_list (List.getElem?_eq_getElem hk)]
    trivial
    all_goals rfl
  · first | refine (run_ev (st := [some _, some _]) rfl rfl rfl).trans ?_ | refine Meets.of (run_ev (st := [some _, some _]) rfl rfl rfl) ?_ | refine (run_ev (np := 2) (nn := 2) (st := [some _, some _]) rfl rfl rfl).trans ?_
    unfold g__law_one
    trivial
    trivial
    rw [e]
    trivial
    rw [ix_tuple (List.getElem?_eq_getElem hk)]
    trivial
    all_goals rfl
  · first | refine (run_ev (st := [some _, some _]) rfl rfl rfl).trans ?_ | refine Meets.of (run_ev (st := [some _, some _]) rfl rfl rfl) ?_ | refine (run_ev (np := 2) (nn := 2) (st := [some _, some _]) rfl rfl rfl).trans ?_
    unfold g__law_one
    trivial
    trivial
    rw [e]
    trivial
    rw [ix_list (List.getElem?_eq_getElem hk)]
    trivial
    all_goals rfl
theorem oneI_ok {p : Pot} (hp : p.k = 0) {a : Mv} {ns : List Int} (ha : a = .fz (.list (ns.map .int)) ∨ a = .fz (.tuple (ns.map .int)) ∨ a = .ol (ns.map .int)) (h0 : ns ≠ []) (hl : ns.length ≤ 1000) : ∃ (n : Int) (p' : Pot), p'.k = 0 ∧ m__law_one [p.mv, a] = .ok (.fz (.int n)) [some p'.mv, some a] ∧ n ∈ ns := by
  obtain ⟨j, d, p', hp', e, hd⟩ := one_ok hp ha (by simpa using h0) (by simpa using hl)
  rw [List.getElem?_map] at hd
  cases q : ns[j]? with
  | none => rw [q] at hd; cases hd
  | some n => rw [q] at hd; cases hd; exact ⟨n, p', hp', e, List.mem_of_getElem? q⟩
def abA (x : Int) : Int := if x < 0 then -x else x
theorem pot_ok (ns : List Int) (h : ns.length ≤ 63) : ∃ p : Pot, p.k = 0 ∧ m__law_pot [.fz (.list (ns.map .int))] = .ok p.mv [some (.fz (.list (ns.map .int)))] := by
  have hc : cutP (ns.map PyData.int) none (some 63) = ((ns.drop (HT.sIx ns.length 0 none)).take (HT.sIx ns.length ns.length (some 63) - HT.sIx ns.length 0 none)).map .int := by
    unfold cutP; rw [List.length_map, List.map_take, List.map_drop]
  generalize hL : (ns.drop (HT.sIx ns.length 0 none)).take (HT.sIx ns.length ns.length (some 63) - HT.sIx ns.length 0 none) = L at hc
  have hl : L.length ≤ 63 := by rw [← hL, List.length_take, List.length_drop]; omega
  obtain ⟨m1, e1, x1, o1, rfl⟩ := forL_inv (t := (tgName 3)) (g := (setS 2 (op2E modD (op2E addD (op2E addD (op2E mulD (slotE 2) (dataE (.int 69069))) (slotE 3)) (dataE (.int 11))) (dataE (.int 4294967291))))) (ds := L.map fun (x : Int) => PyData.int (2 * abA x + (if (decide (x < 0)) = true then 1 else 0)))
    (fun _ m => ∃ (x : Int) (o : Option Mv), m = [some (.fz (.list (ns.map .int))), some (.fz (.list (L.map fun (x : Int) => PyData.int (2 * abA x + (if (decide (x < 0)) = true then 1 else 0))))), some (.fz (.int x)), o]) (i := 0) (m := [some (.fz (.list (ns.map .int))), some (.fz (.list (L.map fun (x : Int) => PyData.int (2 * abA x + (if (decide (x < 0)) = true then 1 else 0))))), some (.fz (.int (16244 + 61 * ns.length))), none])
    (fun j d m hd ⟨x, o, hm⟩ => by
      subst hm
      have := List.mem_of_getElem? hd
      obtain ⟨z, _, rfl⟩ := List.mem_map.mp this
      refine ⟨.nx, _, ?_, .inl rfl, (x * 69069 + (2 * abA z + (if (decide (z < 0)) = true then 1 else 0)) + 11) % 4294967291, some (.fz (.int (2 * abA z + (if (decide (z < 0)) = true then 1 else 0)))), rfl⟩
      trivial
      rw [mulD_r (smallI_of (by omega) (by omega))]
      trivial
      rw [modD_ok (by omega)]
      trivial) ⟨_, _, rfl⟩
  refine ⟨⟨0, (L.map fun (x : Int) => 2 * abA x + (if (decide (x < 0)) = true then 1 else 0)).filter fun x => decide (1000000000000 < x), x1, 0, ?_⟩, rfl, ?_⟩
  · exact Nat.le_trans (List.length_filter_le _ _) (by rw [List.length_map]; omega)
  · first | refine (run_ev (st := [some _, none, none, none]) rfl rfl rfl).trans ?_ | refine Meets.of (run_ev (st := [some _, none, none, none]) rfl rfl rfl) ?_ | refine (run_ev (np := 1) (nn := 4) (st := [some _, none, none, none]) rfl rfl rfl).trans ?_
    unfold g__law_pot
    trivial
    rw [show sliceD (.list (ns.map .int)) none (some 63) = some (.nl (L.map .int)) by rw [← hc]; rfl]
    trivial
    rw [compL_mapOf _ _ (fun (x : Int) => .int (2 * abA x + (if (decide (x < 0)) = true then 1 else 0))) fun x _ => ?c1]
    case c1 =>
      trivial
      rw [mulD_l (smallI_of (by omega) (by omega))]
      trivial
      rfl
    trivial
    rw [mulD_l (smallI_of (by omega) (by omega))]
    trivial
    rw [e1]
    trivial
    rw [show (L.map fun (x : Int) => PyData.int (2 * abA x + (if (decide (x < 0)) = true then 1 else 0))) = (L.map fun (x : Int) => 2 * abA x + (if (decide (x < 0)) = true then 1 else 0)).map .int by rw [List.map_map]; rfl]
    rw [compL_filterOf _ (fun (x : Int) => decide (1000000000000 < x)) _ (fun x => .int x) fun x _ => ?c2]
    case c2 =>
      trivial
      rw [show powD (.int 10) (.int 12) = some (.d (.int 1000000000000)) from rfl]
      trivial
      cases hx : decide (1000000000000 < x) <;> trivial <;> rfl
    trivial
    rfl
/-! ### lot tables: numbers of lots -/
theorem band_n (a b : Nat) : bandD (.int (a : Int)) (.int (b : Int)) = some (.d (.int ((a &&& b : Nat) : Int))) := by
  show iD (Builtin.bitAnd _ _) = _
  unfold Builtin.bitAnd
  rw [decide_eq_true (show (0 : Int) ≤ a by omega), decide_eq_true (show (0 : Int) ≤ b by omega)]
  rfl
theorem band_1 (a : Nat) : bandD (.int (a : Int)) (.int 1) = some (.d (.int ((a &&& 1 : Nat) : Int))) := band_n a 1
theorem bor_n (a b : Nat) : borD (.int (a : Int)) (.int (b : Int)) = some (.d (.int ((a ||| b : Nat) : Int))) := by
  show iD (Builtin.bitOr _ _) = _
  unfold Builtin.bitOr Builtin.bitAnd Builtin.bitNot
  rw [decide_eq_false (show ¬ (0 : Int) ≤ -(a : Int) - 1 by omega), decide_eq_false (show ¬ (0 : Int) ≤ -(b : Int) - 1 by omega)]
  show iD (-(-(((-(-(a : Int) - 1) - 1).toNat ||| (-(-(b : Int) - 1) - 1).toNat : Nat) : Int) - 1) - 1) = _
  rw [show (-(-(a : Int) - 1) - 1).toNat = a by omega, show (-(-(b : Int) - 1) - 1).toNat = b by omega, show -(-((a ||| b : Nat) : Int) - 1) - 1 = ((a ||| b : Nat) : Int) by omega]
  rfl
theorem shr_n (a i : Nat) : shrD (.int (a : Int)) (.int (i : Int)) = some (.d (.int ((a >>> i : Nat) : Int))) := by
  show (if 0 ≤ (i : Int) then iD ((a : Int) / 2 ^ (i : Int).toNat) else none) = _
  rw [if_pos (by omega), Int.toNat_natCast, Nat.shiftRight_eq_div_pow]
  show some (Rv.d (.int _)) = _
  congr 3
theorem shl_n {i : Nat} (h : i ≤ 1000) : shlD (.int 1) (.int (i : Int)) = some (.d (.int ((2 ^ i : Nat) : Int))) := by
  show (if 0 ≤ (i : Int) ∧ (i : Int) ≤ 1000000 ∧ (1 : Int).natAbs < 2 ^ 64 then iD (1 * 2 ^ (i : Int).toNat) else none) = _
  rw [if_pos ⟨by omega, by omega, by decide⟩, Int.toNat_natCast, Int.one_mul]
  show some (Rv.d (.int _)) = _
  congr 3
theorem mulL {x : Int} {n : Nat} (h : n ≤ 1000) : mulD (.list [.int x]) (.int (n : Int)) = some (.nl ((List.replicate n x).map .int)) := by
  show (if -1000000 ≤ (n : Int) ∧ (n : Int) ≤ 1000000 ∧ [PyData.int x].length * (n : Int).toNat ≤ sizeLine then some (Rv.nl (List.replicate (n : Int).toNat [PyData.int x]).flatten) else none) = _
  rw [if_pos ⟨by omega, by omega, by rw [sizeLine_eq]; simp; omega⟩, Int.toNat_natCast, flat_one, List.map_replicate]
theorem bit_ne (a i : Nat) : (!((a >>> i &&& 1 : Nat) : Int) == 0) = bitN a i := by
  unfold bitN
  rw [Nat.and_one_is_mod]
  rcases Nat.mod_two_eq_zero_or_one (a >>> i) with h | h <;> rw [h] <;> rfl
theorem bit_eq (a i : Nat) : (((a >>> i &&& 1 : Nat) : Int) == 1) = bitN a i := by
  unfold bitN
  rw [Nat.and_one_is_mod]
  rcases Nat.mod_two_eq_zero_or_one (a >>> i) with h | h <;> rw [h] <;> rfl
theorem truth_i {i : Int} : truth (.int i) = some (!(i == 0)) := rfl
theorem lot_of_ok (a : Nat) : m_lot_of [.fz (.int (a : Int))] = .ok (.fz (lotP (lotN a))) [some (.fz (.int (a : Int)))] := by
  first | refine (run_ev (st := [some _, none]) rfl rfl rfl).trans ?_ | refine Meets.of (run_ev (st := [some _, none]) rfl rfl rfl) ?_ | refine (run_ev (np := 1) (nn := 2) (st := [some _, none]) rfl rfl rfl).trans ?_
  unfold g_lot_of
  trivial
  rw [show irK 0 4 = fun m => .ok ((List.range 4).map fun (i : Nat) => PyData.int (i : Int)) m from rfl]
  trivial
  rw [compL_filterOf _ (bitN a) _ (fun (i : Nat) => .int (i : Int)) fun i hi => ?c1]
  case c1 =>
    trivial
    rw [shr_n]
    trivial
    rw [band_1 (a >>> i)]
    trivial
    rw [truth_i]
    trivial
    rw [bit_ne]
    cases bitN a i <;> trivial <;> rfl
  trivial
  rfl
theorem law_lot_ok (a : Nat) : m__law_lot [.fz (.int (a : Int))] = .ok (.fz (lotP (lotN a))) [some (.fz (.int (a : Int)))] := by
  first | refine (run_ev (st := [some _, none]) rfl rfl rfl).trans ?_ | refine Meets.of (run_ev (st := [some _, none]) rfl rfl rfl) ?_ | refine (run_ev (np := 1) (nn := 2) (st := [some _, none]) rfl rfl rfl).trans ?_
  unfold g__law_lot
  trivial
  rw [show irK 0 4 = fun m => .ok ((List.range 4).map fun (i : Nat) => PyData.int (i : Int)) m from rfl]
  trivial
  rw [compL_filterOf _ (bitN a) _ (fun (i : Nat) => .int (i : Int)) fun i hi => ?c1]
  case c1 =>
    trivial
    rw [shr_n]
    trivial
    rw [band_1 (a >>> i)]
    trivial
    rw [bit_eq]
    cases bitN a i <;> trivial <;> rfl
  trivial
  rfl

/-! ### falling breaks -/
abbrev fbV (r : Nat × Nat) : PyData := .tuple [lotP (lotN r.1), lotP (lotN r.2)]
def ofb : Option (Nat × Nat) → PyData
  | none => .none
  | some r => fbV r
abbrev nfV (r : Nat × Nat × Nat) : PyData := .tuple [lotP (lotN r.1), .int (r.2.1 : Nat), .int (r.2.2 : Nat)]
def onf : Option (Nat × Nat × Nat) → PyData
  | none => .none
  | some r => nfV r
theorem ixT {T : List Int} {a : Nat} (h : a < T.length) : ixD (.tuple (T.map .int)) (.int (a : Int)) = some (.d (.int (tt T a))) := ix_tuple (getD_at h)
theorem gdx_size {n : Nat} (h0 : 0 < n) (hn : n ≤ 4) : gdxD [(2, 1), (4, 2), (8, 3), (16, 4)] (.int ((2 ^ n : Nat) : Int)) = some (.d (.int (n : Int))) := by
  have : n = 1 ∨ n = 2 ∨ n = 3 ∨ n = 4 := by omega
  rcases this with rfl | rfl | rfl | rfl <;> rfl
theorem idx_size {n : Nat} (h0 : 0 < n) (hn : n ≤ 4) : idxT [.int 2, .int 4, .int 8, .int 16] [.int ((2 ^ n : Nat) : Int)] = some (.d (.int ((n : Int) - 1))) := by
  have : n = 1 ∨ n = 2 ∨ n = 3 ∨ n = 4 := by omega
  rcases this with rfl | rfl | rfl | rfl <;> rfl
/-! ### near falling -/
theorem or_both (a b c : Nat) : a ||| b ||| (a ||| c) = a ||| b ||| c := by
  rw [Nat.or_assoc a b (a ||| c), ← Nat.or_assoc b a c, Nat.or_comm b a, Nat.or_assoc a b c, ← Nat.or_assoc a a (b ||| c), Nat.or_self]
theorem slice_fromLi {ds : List PyData} {k : Int} (h : 0 ≤ k) : sliceD (.list ds) (some k) none = some (.nl (ds.drop k.toNat)) := by
  obtain ⟨j, rfl⟩ := Int.eq_ofNat_of_zero_le h
  exact slice_fromL j
theorem mem_rest {n a i : Nat} (h : i ∈ restN n a) : i < n := List.mem_range.mp (List.mem_filter.mp h).1
/-! ### near falling, the law's -/
theorem and0 (x : Nat) : (((x : Nat) : Int) == 0) = (x == 0) := by
  rw [Bool.eq_iff_iff, beq_iff_eq, beq_iff_eq]; omega
/-! ### turned tables -/
def inT (U : List Int) : Bool := U.all fun x => decide (-1000 ≤ x) && decide (x ≤ 1000)
def tolP (U : List Int) : PyData := if inT U = true then pt U else .tuple [.str "many", .int 1000]
theorem is_whole_ok (x a b : Int) : m_is_whole [.fz (.int x), .fz (.int a), .fz (.int b)] = .ok (.fz (.bool (decide (a ≤ x) && decide (x ≤ b)))) [some (.fz (.int x)), some (.fz (.int a)), some (.fz (.int b))] := by
  first | refine (run_ev (st := [some _, some _, some _]) rfl rfl rfl).trans ?_ | refine Meets.of (run_ev (st := [some _, some _, some _]) rfl rfl rfl) ?_ | refine (run_ev (np := 3) (nn := 3) (st := [some _, some _, some _]) rfl rfl rfl).trans ?_
  unfold g_is_whole
  trivial
  cases decide (a ≤ x) <;> trivial <;> rfl
theorem turN_pt {T : List Int} : turN T = (List.range T.length).map fun a => tt T (T.length - 1 - a) - tt T (T.length - 1) := rfl
def absI (x : Int) : Int := if x < 0 then -x else x
theorem far_iff {U : List Int} (h : U ≠ []) : decide (1000 < maxI (U.map absI)) = !inT U := by
  have hne : U.map absI ≠ [] := by simpa using h
  have hm := maxI_mem hne
  have hg : ∀ x ∈ U, absI x ≤ maxI (U.map absI) := fun x hx => le_maxI (List.mem_map_of_mem (f := absI) hx)
  obtain ⟨y, hy, e⟩ := List.mem_map.mp hm
  generalize maxI (U.map absI) = M at *
  rw [Bool.eq_iff_iff, decide_eq_true_eq, Bool.not_eq_true', ← Bool.not_eq_true, inT, List.all_eq_true]
  constructor
  · intro h1 h2
    have := h2 y hy
    simp only [Bool.and_eq_true, decide_eq_true_eq] at this
    unfold absI at e
    split at e <;> omega
  · intro h1
    refine Decidable.byContradiction fun h2 => h1 fun x hx => ?_
    have := hg x hx
    simp only [Bool.and_eq_true, decide_eq_true_eq]
    unfold absI at this
    split at this <;> omega
theorem on_ok (s : List Int) (k : Nat) : m__law_on [.fz (.list (s.map .int)), .fz (.int (k : Int))] = .ok (.fz (.int (onF s k))) [some (.fz (.list (s.map .int))), some (.fz (.int (k : Int)))] := by
  first | refine (run_ev (st := [some _, some _, none, none]) rfl rfl rfl).trans ?_ | refine Meets.of (run_ev (st := [some _, some _, none, none]) rfl rfl rfl) ?_ | refine (run_ev (np := 2) (nn := 4) (st := [some _, some _, none, none]) rfl rfl rfl).trans ?_
  unfold g__law_on
  trivial
  rw [enum_eq, compL_filterOf _ (fun (p : Int × Nat) => bitN k p.2) _ (fun p => .int p.1) fun p hp => ?c1]
  case c1 =>
    trivial
    rw [shr_n]
    trivial
    rw [band_1 (k >>> p.2)]
    trivial
    rw [bit_eq]
    cases bitN k p.2 <;> trivial <;> rfl
  trivial
  rw [sum_map]
  trivial
  rfl

/-! ### falling tables drawn -/
theorem compL_two {own : List Nat} {bt : Tg} {tst : Ev Bool} {e : Ev PyData} {γ : Type} {L : List γ} {m m1 : Sm} (q r : γ → PyData) (hL : L ≠ []) (h0 : ∀ x ∈ L, compStep own bt tst e (q x) m = .ok (some (r x)) m1) (h1 : ∀ x ∈ L, compStep own bt tst e (q x) m1 = .ok (some (r x)) m1) : compL own bt tst e (L.map q) [] m = .ok (L.map r) m1 := by
  suffices z : ∀ (L : List γ) (acc : List PyData), (∀ x ∈ L, compStep own bt tst e (q x) m1 = .ok (some (r x)) m1) → compL own bt tst e (L.map q) acc m1 = .ok (acc ++ L.map r) m1 by
    cases L with
    | nil => exact absurd rfl hL
    | cons x L =>
      rw [List.map_cons, compL_step (h0 x (List.mem_cons_self ..)), z L _ fun y hy => h1 y (List.mem_cons_of_mem _ hy)]
      simp [adds]
  intro L
  induction L with
  | nil => intro acc h; rw [List.map_nil, List.map_nil, List.append_nil]; rfl
  | cons x L ih =>
    intro acc h
    rw [List.map_cons, compL_step (h x (List.mem_cons_self ..)), ih _ fun y hy => h y (List.mem_cons_of_mem _ hy)]
    simp [adds]
theorem tab_zip (N : Nat) (f g : Nat → Int) : (tab N f).zipIdx.map (fun p => p.1 + g p.2) = tab N fun a => f a + g a := by
  refine List.ext_getElem? fun k => ?_
  unfold tab
  rw [List.getElem?_map, List.getElem?_zipIdx, List.getElem?_map, List.getElem?_map]
  by_cases h : k < N
  · rw [List.getElem?_range h]; simp
  · rw [List.getElem?_eq_none (by simpa using by omega)]; rfl
theorem tab_zero (N : Nat) : List.replicate N (0 : Int) = tab N fun _ => 0 := by
  unfold tab
  rw [List.map_const', List.length_range]
theorem min_n (c l : Nat) : (if (l : Int) < c then (l : Int) else c) = ((min c l : Nat) : Int) := by
  split <;> omega
theorem on_ol (s : List Int) (k : Nat) : m__law_on [.ol (s.map .int), .fz (.int (k : Int))] = .ok (.fz (.int (onF s k))) [some (.fz (.list (s.map .int))), some (.fz (.int (k : Int)))] := by
  first | refine (run_ev (st := [some _, some _, none, none]) rfl rfl rfl).trans ?_ | refine Meets.of (run_ev (st := [some _, some _, none, none]) rfl rfl rfl) ?_ | refine (run_ev (np := 2) (nn := 4) (st := [some _, some _, none, none]) rfl rfl rfl).trans ?_
  unfold g__law_on
  trivial
  rw [enum_eq, compL_filterOf _ (fun (p : Int × Nat) => bitN k p.2) _ (fun p => .int p.1) fun p hp => ?c1]
  case c1 =>
    trivial
    rw [shr_n]
    trivial
    rw [band_1 (k >>> p.2)]
    trivial
    rw [bit_eq]
    cases bitN k p.2 <;> trivial <;> rfl
  trivial
  rw [sum_map]
  trivial
  rfl
theorem onF_bound {s : List Int} (hs : ∀ x ∈ s, -2 ≤ x ∧ x ≤ 2) (hl : s.length ≤ 4) (k : Nat) : -8 ≤ onF s k ∧ onF s k ≤ 8 := by
  rw [on_sum]
  have key : ∀ l : List (Int × Nat), (∀ p ∈ l, -2 ≤ p.1 ∧ p.1 ≤ 2) → -2 * (l.length : Int) ≤ (l.map fun p => if bitN k p.2 = true then p.1 else 0).sum ∧ (l.map fun p => if bitN k p.2 = true then p.1 else 0).sum ≤ 2 * (l.length : Int) := fun l => by
    induction l with
    | nil => intro _; simp
    | cons p l ih =>
      intro h
      have h1 := ih fun q hq => h q (List.mem_cons_of_mem _ hq)
      have h2 := h p (List.mem_cons_self ..)
      rw [List.map_cons, List.sum_cons, List.length_cons]
      split <;> omega
  have := key s.zipIdx fun p hp => hs p.1 (List.fst_mem_of_mem_zipIdx hp)
  rw [List.length_zipIdx] at this
  omega
theorem onF_zero (s : List Int) : onF s 0 = 0 := by
  have h : (s.zipIdx.filter fun p => bitN 0 p.2) = [] := by
    rw [List.filter_eq_nil_iff]
    intro p _
    rw [bit_test, Nat.zero_testBit]
    decide
  unfold onF
  rw [h]
  rfl
theorem lotN_le (a : Nat) : (lotN a).length ≤ 4 := List.length_filter_le _ _
theorem lotN_zero : lotN 0 = [] := by decide +kernel
theorem falling_ok {p : Pot} (hp : p.k = 0) {n : Nat} (h0 : 0 < n) (hn : n ≤ 4) : Meets (fun v m => ∃ (f : Nat → Int) (p' : Pot), p'.k = 0 ∧ v = .fz (pt (tab (2 ^ n) f)) ∧ m = [some p'.mv, some (.fz (.int (n : Int)))] ∧ SubF (2 ^ n) f ∧ f 0 = 0 ∧ ∀ a, a < 2 ^ n → -20 ≤ f a ∧ f a ≤ 20) (m__law_falling [p.mv, .fz (.int (n : Int))]) := by
  have h16 := pow_le16 hn
  have h2 : 2 ≤ 2 ^ n := by
    have := Nat.pow_le_pow_right (show 0 < 2 by omega) (show 1 ≤ n by omega)
    omega
  generalize hN : 2 ^ n = N at *
  have shl : shlD (.int 1) (.int (n : Int)) = some (.d (.int (N : Int))) := by rw [← hN]; exact shl_n (by omega)
  obtain ⟨v, p1, hp1, e1, v0, v4⟩ := p.drawA hp (many := 4) (by omega)
  have v4 := v4 (by omega)
  obtain ⟨t, rfl⟩ := Int.eq_ofNat_of_zero_le v0
  have loop : ∃ m', forL (tgName 3) (seqS (setT (tgTup [(tgName 4), (tgName 5), (tgName 6)]) (tupE [(op2E addD (dataE (.int 1)) (callE drawFA [(slotE 0), (op2E subD (op2E shlD (dataE (.int 1)) (slotE 1)) (dataE (.int 1)))])), (op2E addD (dataE (.int 1)) (callE drawFA [(slotE 0), (dataE (.int 2))])), (op2E addD (dataE (.int 1)) (callE drawFA [(slotE 0), (dataE (.int 2))]))])) (setS 2 (compE [8, 9] (itEnum (slotE 2)) (tgTup [(tgName 8), (tgName 9)]) yesT (op2E addD (slotE 9) (op2E mulD (slotE 6) (opNE min2D [(slotE 5), (opNE lenD [(callE m__law_lot [(op2E bandD (slotE 8) (slotE 4))])])])))))) ((List.range t).map fun (i : Nat) => PyData.int (i : Int)) [some p1.mv, some (.fz (.int (n : Int))), some (.ol ((tab N fun _ => 0).map .int)), none, none, none, none, none, none, none, none] = .ok .nx m' ∧ ∃ (f : Nat → Int) (p : Pot) (o3 o4 o5 o6 : Option Mv), p.k = 0 ∧ SubF N f ∧ f 0 = 0 ∧ (∀ a, a < N → 0 ≤ f a ∧ f a ≤ 4 * (List.range t).length) ∧ m' = [some p.mv, some (.fz (.int (n : Int))), some (.ol ((tab N f).map .int)), o3, o4, o5, o6, none, none, none, none] := by
    refine forL_all (t := (tgName 3)) (g := (seqS (setT (tgTup [(tgName 4), (tgName 5), (tgName 6)]) (tupE [(op2E addD (dataE (.int 1)) (callE drawFA [(slotE 0), (op2E subD (op2E shlD (dataE (.int 1)) (slotE 1)) (dataE (.int 1)))])), (op2E addD (dataE (.int 1)) (callE drawFA [(slotE 0), (dataE (.int 2))])), (op2E addD (dataE (.int 1)) (callE drawFA [(slotE 0), (dataE (.int 2))]))])) (setS 2 (compE [8, 9] (itEnum (slotE 2)) (tgTup [(tgName 8), (tgName 9)]) yesT (op2E addD (slotE 9) (op2E mulD (slotE 6) (opNE min2D [(slotE 5), (opNE lenD [(callE m__law_lot [(op2E bandD (slotE 8) (slotE 4))])])]))))))) (q := fun (i : Nat) => PyData.int (i : Int)) (fun pre m => ∃ (f : Nat → Int) (p : Pot) (o3 o4 o5 o6 : Option Mv), p.k = 0 ∧ SubF N f ∧ f 0 = 0 ∧ (∀ a, a < N → 0 ≤ f a ∧ f a ≤ 4 * pre.length) ∧ m = [some p.mv, some (.fz (.int (n : Int))), some (.ol ((tab N f).map .int)), o3, o4, o5, o6, none, none, none, none]) (L := List.range t) ⟨fun _ => 0, p1, _, _, _, _, hp1, fun _ _ _ _ => by simp, rfl, fun a _ => by simp, rfl⟩ (fun pre x su m hL ⟨f, p, o3, o4, o5, o6, hp, hS, hf0, hb, hm⟩ => ?_)
    subst hm
    obtain ⟨v1, p1, hp1, e1, a1, b1⟩ := p.drawA hp (many := (N : Int) - 1) (by omega)
    have b1 := b1 (by omega)
    obtain ⟨v2, p2, hp2, e2, a2, b2⟩ := p1.drawA hp1 (many := 2) (by omega)
    have b2 := b2 (by omega)
    obtain ⟨v3, p3, hp3, e3, a3, b3⟩ := p2.drawA hp2 (many := 2) (by omega)
    have b3 := b3 (by omega)
    obtain ⟨l, hl⟩ : ∃ l : Nat, 1 + v1 = (l : Int) := ⟨(1 + v1).toNat, by omega⟩
    obtain ⟨c, hc⟩ : ∃ l : Nat, 1 + v2 = (l : Int) := ⟨(1 + v2).toNat, by omega⟩
    have hw : 1 + v3 = 1 ∨ 1 + v3 = 2 := by omega
    generalize hwe : 1 + v3 = w at *
    trivial
    rw [shl]
    trivial
    rw [e1]
    trivial
    rw [e2]
    trivial
    rw [e3]
    trivial
    rw [hl, hc, hwe, enum_eq, compL_mapOf _ _ (fun p => .int (p.1 + w * (capN2 c l p.2 : Int))) fun p hp => ?c1]
    case c1 =>
      trivial
      rw [band_n p.2 l]
      trivial
      rw [law_lot_ok (p.2 &&& l)]
      trivial
      rw [min_n, mulD_l (smallI_of (by omega) (by omega))]
      trivial
      rfl
    trivial
    rw [any_map_i (fun p : Int × Nat => p.1 + w * (capN2 c l p.2 : Int)), tab_zip N f fun a => w * (capN2 c l a : Int)]
    refine .nx ⟨fun a => f a + w * (capN2 c l a : Int), p3, _, _, _, _, hp3, ?_, ?_, fun a ha => ?_, rfl⟩
    · rw [← hN] at hS ⊢
      exact sub_cap hn hS hw (by omega) (by omega)
    · simp only
      unfold capN2
      rw [hf0, Nat.zero_and, lotN_zero]
      simp
    · have h1 := hb a ha
      have h2 : capN2 c l a ≤ 2 := by unfold capN2; omega
      rw [List.length_append, List.length_singleton]
      simp only
      rcases hw with rfl | rfl <;> omega
  obtain ⟨_, e2, f, p2, o3, o4, o5, o6, hp2, hS, hf0, hb, rfl⟩ := loop
  rw [List.length_range] at hb
  obtain ⟨s, p3, hp3, e3, l3, b3⟩ := pots_gen (fun mv => [some mv, some (.fz (.int (n : Int))), some (.ol ((tab N f).map .int)), o3, o4, o5, o6, none, none, none, none]) PyData.int (fun k => -2 ≤ k ∧ k ≤ 2) (own := [10]) (bt := (tgName 10)) (tst := yesT) (e := frzE (callE m__law_from [(slotE 0), (op1E negD (dataE (.int 2))), (dataE (.int 2))])) (ds := (List.range n).map fun (i : Nat) => PyData.int (i : Int)) (fun p => p.k = 0) hp2 (fun d hd p hp => by
    obtain ⟨w, p4, hp4, e4, h3, h4⟩ := from_ok hp (-2) 2 (by omega) (by omega)
    refine ⟨w, p4, hp4, ?_, h3, h4⟩
    trivial
    rw [e4]
    trivial)
  rw [List.length_map, List.length_range] at l3
  have hne : (tab N f).zipIdx ≠ [] := fun e => by
    have := congrArg List.length e
    rw [List.length_zipIdx, tab_length, List.length_nil] at this
    omega
  first | refine (run_ev (st := [some _, some _, none, none, none, none, none, none, none, none, none]) rfl rfl rfl).trans ?_ | refine Meets.of (run_ev (st := [some _, some _, none, none, none, none, none, none, none, none, none]) rfl rfl rfl) ?_ | refine (run_ev (np := 2) (nn := 11) (st := [some _, some _, none, none, none, none, none, none, none, none, none]) rfl rfl rfl).trans ?_
  unfold g__law_falling
  trivial
  trivial
  rw [shl]
  trivial
  rw [mulL (show N ≤ 1000 by omega)]
  trivial
  rw [tab_zero]
  trivial
  rw [e1]
  trivial
  rw [ev_irK (okRg_nat (show t ≤ 1000000 by omega))]
  trivial
  rw [rangeD_nat]
  trivial
  rw [e2]
  trivial
  rw [ev_irK (okRg_nat (show n ≤ 1000000 by omega))]
  trivial
  rw [rangeD_nat]
  trivial
  rw [e3]
  trivial
  rw [enum_eq, compL_two _ (fun p => .int (p.1 + onF s p.2)) hne (m1 := [some p3.mv, some (.fz (.int (n : Int))), some (.fz (.list ((tab N f).map .int))), o3, o4, o5, o6, some (.fz (.list (s.map .int))), none, none, none]) (fun p hp => ?c1) fun p hp => ?c2]
  case c1 =>
    trivial
    rw [on_ol]
    trivial
  case c2 =>
    trivial
    rw [on_ok]
    trivial
  trivial
  rw [any_map_i (fun p : Int × Nat => p.1 + onF s p.2), tab_zip N f fun a => onF s a]
  refine .mk ⟨fun a => f a + onF s a, p3, hp3, rfl, rfl, sub_on hS s, ?_, fun a ha => ?_⟩
  · simp only
    rw [hf0, onF_zero]
    rfl
  · have h1 := hb a ha
    have h2 := onF_bound b3 (by omega) a
    simp only
    omega

/-! ### lot tables drawn -/
structure TabOk (n : Nat) (T : List Int) : Prop where
  len : T.length = 2 ^ n
  z : tt T 0 = 0
  b : ∀ x ∈ T, -1000 ≤ x ∧ x ≤ 1000
theorem TabOk.tab {n : Nat} (h0 : 0 < n) {f : Nat → Int} (hf0 : f 0 = 0) (hb : ∀ a, a < 2 ^ n → -20 ≤ f a ∧ f a ≤ 20) : TabOk n (tab (2 ^ n) f) where
  len := tab_length ..
  z := by rw [tab_at (Nat.pow_pos (by omega))]; exact hf0
  b := fun x hx => by
    obtain ⟨a, ha, rfl⟩ := List.mem_map.mp hx
    have := hb a (List.mem_range.mp ha)
    omega
theorem lot_table_ok {p : Pot} (hp : p.k = 0) {n : Nat} (h0 : 0 < n) (hn : n ≤ 4) : Meets (fun v m => ∃ (T : List Int) (p' : Pot), p'.k = 0 ∧ v = .fz (pt T) ∧ m = [some p'.mv, some (.fz (.int (n : Int)))] ∧ TabOk n T) (m__law_lot_table [p.mv, .fz (.int (n : Int))]) := by
  have h16 := pow_le16 hn
  have h2 : 2 ≤ 2 ^ n := by
    have := Nat.pow_le_pow_right (show 0 < 2 by omega) (show 1 ≤ n by omega)
    omega
  obtain ⟨_, _, e1, f, p1, hp1, rfl, rfl, hS, hf0, hb⟩ := (falling_ok hp h0 hn).out
  obtain ⟨v, p2, hp2, e2, v0, v5⟩ := p1.drawA hp1 (many := 5) (by omega)
  have v5 := v5 (by omega)
  have hT := TabOk.tab h0 hf0 hb
  have hb2 : ∀ x ∈ tab (2 ^ n) f, -20 ≤ x ∧ x ≤ 20 := fun x hx => by
    obtain ⟨a, ha, rfl⟩ := List.mem_map.mp hx
    exact hb a (List.mem_range.mp ha)
  generalize hTT : tab (2 ^ n) f = T at *
  have hl := hT.len
  first | refine (run_ev (st := [some _, some _, none, none, none]) rfl rfl rfl).trans ?_ | refine Meets.of (run_ev (st := [some _, some _, none, none, none]) rfl rfl rfl) ?_ | refine (run_ev (np := 2) (nn := 5) (st := [some _, some _, none, none, none]) rfl rfl rfl).trans ?_
  unfold g__law_lot_table
  trivial
  trivial
  rw [e1]
  trivial
  rw [e2]
  trivial
  by_cases hv : v < 3
  · rw [decide_eq_true hv]
    trivial
    exact .mk ⟨T, p2, hp2, rfl, rfl, hT⟩
  rw [decide_eq_false hv]
  trivial
  cases hn1 : ((n : Int) == 1)
  case true =>
    trivial
    exact .mk ⟨T, p2, hp2, rfl, rfl, hT⟩
  trivial
  cases h3 : (v == 3)
  · obtain ⟨s, p3, hp3, e3, l3, b3⟩ := pots_gen (fun mv => [some mv, some (.fz (.int (n : Int))), some (.fz (pt T)), some (.fz (.int v)), none]) PyData.int (fun k => -3 ≤ k ∧ k ≤ 4) (own := [4]) (bt := (tgName 4)) (tst := yesT) (e := frzE (callE m__law_from [(slotE 0), (op1E negD (dataE (.int 3))), (dataE (.int 4))])) (ds := (List.range (T.length - 1)).map fun (i : Nat) => PyData.int (i : Int)) (fun p => p.k = 0) hp2 (fun d hd p hp => by
      obtain ⟨w, p4, hp4, e4, h3, h4⟩ := from_ok hp (-3) 4 (by omega) (by omega)
      refine ⟨w, p4, hp4, ?_, h3, h4⟩
      trivial
      rw [e4]
      trivial)
    rw [List.length_map, List.length_range] at l3
    trivial
    rw [show (T.length : Int) - 1 = ((T.length - 1 : Nat) : Int) by omega]
    trivial
    rw [ev_irK (okRg_nat (show T.length - 1 ≤ 1000000 by omega))]
    trivial
    rw [rangeD_nat]
    trivial
    rw [e3]
    trivial
    rw [addD_tuple (by rw [List.length_map]; simp; omega)]
    trivial
    refine .mk ⟨0 :: s, p3, hp3, rfl, rfl, ?_, rfl, fun x hx => ?_⟩
    · rw [List.length_cons]; omega
    · rcases List.mem_cons.mp hx with rfl | hx
      · omega
      · have := b3 x hx; omega
  · obtain ⟨w, p3, hp3, e3, w0, w1⟩ := p2.drawA hp2 (many := (T.length : Int) - 1) (by omega)
    have w1 := w1 (by omega)
    obtain ⟨a, ha⟩ : ∃ l : Nat, 1 + w = (l : Int) := ⟨(1 + w).toNat, by omega⟩
    obtain ⟨d, p4, hp4, e4, hd⟩ := oneI_ok hp3 (a := .fz (.list ([-1, 1, 2].map .int))) (ns := [-1, 1, 2]) (.inl rfl) (by decide) (by decide)
    have hd : -1 ≤ d ∧ d ≤ 2 := by
      simp only [List.mem_cons, List.not_mem_nil, or_false] at hd
      omega
    have ha2 : a < T.length := by omega
    simp only [List.map_cons, List.map_nil] at e4
    trivial
    rw [e3]
    trivial
    rw [ha]
    trivial
    rw [slice_toTi (show 0 ≤ (a : Int) by omega)]
    trivial
    rw [ixT ha2]
    trivial
    rw [e4]
    trivial
    rw [addD_tuple (by rw [List.length_take, List.length_map]; simp; omega)]
    trivial
    rw [slice_fromTi (show 0 ≤ (a : Int) + 1 by omega)]
    trivial
    rw [addD_tuple (by rw [List.length_append, List.length_take, List.length_drop, List.length_map]; simp; omega)]
    trivial
    rw [show ((a : Nat) : Int).toNat = a by omega, show ((a : Int) + 1).toNat = a + 1 by omega]
    have eq : List.take a (T.map PyData.int) ++ [PyData.int (tt T a + d)] ++ List.drop (a + 1) (T.map PyData.int) = (T.take a ++ [tt T a + d] ++ T.drop (a + 1)).map .int := by
      rw [List.map_append, List.map_append, List.map_take, List.map_drop]
      rfl
    rw [eq]
    refine .mk ⟨_, p4, hp4, rfl, rfl, ?_, ?_, fun x hx => ?_⟩
    · rw [List.length_append, List.length_append, List.length_take, List.length_drop, List.length_singleton]; omega
    · have hz := hT.z
      unfold tt at hz ⊢
      cases T with
      | nil => simp at ha2
      | cons y T =>
        obtain ⟨a', rfl⟩ : ∃ b, a = b + 1 := ⟨a - 1, by omega⟩
        simpa using hz
    · have hat : tt T a ∈ T := by
        unfold tt
        rw [List.getD_eq_getElem?_getD, List.getElem?_eq_getElem ha2]
        exact List.getElem_mem ha2
      rcases List.mem_append.mp hx with hx | hx
      · rcases List.mem_append.mp hx with hx | hx
        · have := hb2 x (List.mem_of_mem_take hx); omega
        · rw [List.mem_singleton] at hx
          have := hb2 _ hat
          omega
      · have := hb2 x (List.mem_of_mem_drop hx); omega
/-! ### any values (of k02) -/
def isTup : PyData → Bool
  | .tuple _ => true
  | _ => false
def numB (lo hi : Int) : PyData → Bool
  | .int i => decide (lo ≤ i) && decide (i ≤ hi)
  | _ => false
theorem isi_tup (d : PyData) : isiD "tuple" d = some (.d (.bool (isTup d))) := by cases d <;> rfl
theorem whole_ok (d : PyData) (lo hi : Int) : m_is_whole [.fz d, .fz (.int lo), .fz (.int hi)] = .ok (.fz (.bool (numB lo hi d))) [some (.fz d), some (.fz (.int lo)), some (.fz (.int hi))] := by
  cases d with
  | int i =>
    first | refine (run_ev (st := [some _, some _, some _]) rfl rfl rfl).trans ?_ | refine Meets.of (run_ev (st := [some _, some _, some _]) rfl rfl rfl) ?_ | refine (run_ev (np := 3) (nn := 3) (st := [some _, some _, some _]) rfl rfl rfl).trans ?_
    unfold g_is_whole
    trivial
    rw [show numB lo hi (.int i) = (decide (lo ≤ i) && decide (i ≤ hi)) from rfl]
    cases decide (lo ≤ i)
    · trivial
      rfl
    · trivial
      rfl
  | _ => rfl
theorem number_ok (d : PyData) (lo hi : Int) : m__law_is_number [.fz d, .fz (.int lo), .fz (.int hi)] = .ok (.fz (.bool (numB lo hi d))) [some (.fz d), some (.fz (.int lo)), some (.fz (.int hi))] := by
  cases d with
  | int i =>
    first | refine (run_ev (st := [some _, some _, some _]) rfl rfl rfl).trans ?_ | refine Meets.of (run_ev (st := [some _, some _, some _]) rfl rfl rfl) ?_ | refine (run_ev (np := 3) (nn := 3) (st := [some _, some _, some _]) rfl rfl rfl).trans ?_
    unfold g__law_is_number
    trivial
    rw [show numB lo hi (.int i) = (decide (lo ≤ i) && decide (i ≤ hi)) from rfl]
    cases decide (lo ≤ i)
    · trivial
      rfl
    · trivial
      rfl
  | _ => rfl
def sizB (n : Nat) : PyData → Bool
  | .tuple xs => xs.length == n
  | _ => false
theorem compL_filterD {own : List Nat} {bt : Tg} {tst : Ev Bool} {e : Ev PyData} {m : Sm} {ds : List PyData} (p : PyData → Bool) (r : PyData → PyData) (h : ∀ x ∈ ds, compStep own bt tst e x m = .ok (if p x = true then some (r x) else none) m) : compL own bt tst e ds [] m = .ok ((ds.filter p).map r) m := by
  have := compL_filterOf ds p (fun d => d) r h
  rw [List.map_id'] at this
  exact this
theorem ones_empty (xs : List PyData) (f : PyData → Bool) : ((xs.filter fun d => !f d).isEmpty) = xs.all f := by
  rw [Bool.eq_iff_iff, List.isEmpty_iff, List.filter_eq_nil_iff, List.all_eq_true]
  simp
theorem eq_ones (L : List PyData) : eqD (.list (L.map fun _ => .int 1)) (.list []) = some (.d (.bool L.isEmpty)) := by
  rw [show (L.map fun _ => PyData.int 1) = (L.map fun _ => (1 : Int)).map .int by rw [List.map_map]; rfl, eq_nil (shaped_ints _), List.isEmpty_map, List.isEmpty_map]
def intsT : PyData → List Int
  | .tuple xs => xs.map fun d => match d with | .int i => i | _ => 0
  | _ => []
theorem strOk_of (s : String) : PyData.strOk (Str.ofString s) = true := by
  rw [Str.ofString_eq_byList]
  unfold PyData.strOk Str.ofStringByList
  rw [List.all_toArray, List.all_eq_true]
  intro c hc
  obtain ⟨x, _, rfl⟩ := List.mem_map.mp hc
  have h := x.valid
  refine decide_eq_true ?_
  show x.val.toNat < 0x110000
  rcases h with h | ⟨_, h⟩
  · exact Nat.lt_trans h (by decide)
  · exact h
def Rp (d : PyData) : Prop := reprD [d] = some (.d (.str d.shown))
theorem sz_rp {d : PyData} {dp c : Nat} (h : Sz d dp c) (h1 : dp ≤ 60) (h2 : c ≤ 140000) : Rp d := repr_ok (h.fine h1 h2)
theorem sz_strL {s : String} {n : Nat} (h : s.length ≤ n) : Sz (.str (Str.ofString s)) 0 (1 + n) := by
  refine ⟨strOk_of s, Nat.le_refl _, ?_⟩
  have := PySem.ofString_length s
  show 1 + (Str.ofString s).cps.size ≤ 1 + n
  have e : (Str.ofString s).length = (Str.ofString s).cps.size := rfl
  omega
theorem cut_last (ds : List PyData) : cutP ds none (some (-1)) = ds.dropLast := by
  unfold cutP
  rw [HT.sIx_none, List.drop_zero, Nat.sub_zero, List.dropLast_eq_take]
  have e : HT.sIx ds.length ds.length (some (-1)) = ds.length - 1 := by
    show (if (-1 : Int) < 0 then ((-1 : Int) + (ds.length : Int)).toNat else min (-1 : Int).toNat ds.length) = _
    rw [if_pos (by decide)]
    omega
  rw [e]
theorem slice_lastT {ds : List PyData} : sliceD (.tuple ds) none (some (-1)) = some (.d (.tuple ds.dropLast)) := by rw [← cut_last]; rfl
theorem sz_worth {w : Int} (h : -1000000 ≤ w ∧ w ≤ 1000000) : Sz (.str (toString w)) 0 9 := sz_strL (n := 8) (int_text_length_le10 (k := 7) (by decide) (by omega))
theorem str_worth {w : Int} (h : -1000000 ≤ w ∧ w ≤ 1000000) : strD [.int w] = some (.d (.str (toString w))) := by
  refine if_pos ?_
  by_cases h0 : w.natAbs = 0
  · rw [h0]; decide
  · exact (Nat.log2_lt h0).mpr (Nat.lt_of_le_of_lt (show w.natAbs ≤ 2 ^ 20 by omega) (Nat.pow_lt_pow_right (by omega) (by omega)))
theorem szs_ints {x : List Int} {B : Int} (hb : Bd B x) (hB : B ≤ 1000000000000000000000000000000) : ∀ d ∈ x.map PyData.int, Sz d 1 3 := fun d hd => by
  obtain ⟨i, hi, rfl⟩ := List.mem_map.mp hd
  exact (sz_int (hb.at hi hB)).mono (by omega) (by omega)
/-! ### lots judged -/
theorem range_first {n : Nat} {f : Nat → Bool} {pre su : List Nat} {k : Nat} (hL : List.range n = pre ++ k :: su) (hp : ∀ j ∈ pre, f j = false) (hk : f k = true) : (List.range n).find? f = some k := by
  rw [hL, List.find?_append, List.find?_eq_none.mpr (fun j hj => by rw [hp j hj]; exact Bool.false_ne_true), List.find?_cons, hk]
  rfl
theorem range_none {n : Nat} {f : Nat → Bool} (hp : ∀ j ∈ List.range n, f j = false) : (List.range n).find? f = none := List.find?_eq_none.mpr fun j hj => by rw [hp j hj]; exact Bool.false_ne_true
theorem enumD_range (xs : List PyData) : enumD xs = (List.range xs.length).map fun k => .tuple [.int (k : Int), xs.getD k .none] := by
  have := enum_eq (fun d : PyData => d) xs
  rw [List.map_id'] at this
  rw [this]
  refine List.ext_getElem (by simp) fun i h1 h2 => ?_
  have hi : i < xs.length := by simpa using h1
  rw [List.getElem_map, List.getElem_zipIdx, List.getElem_map, List.getElem_range, List.getD_eq_getElem?_getD, List.getElem?_eq_getElem hi]
  simp
def okSz (n : Nat) : Bool := n == 2 || (n == 4 || (n == 8 || n == 16))
def zeroB : PyData → Bool
  | .int i => i == 0
  | _ => false
def lfD : PyData → PyData
  | .tuple xs => if okSz xs.length = true then (match (List.range xs.length).find? fun (k : Nat) => !numB (-1000) 1000 (xs.getD k .none) with
    | some k => .tuple [.str "item", .int (k : Int)]
    | none => if zeroB (xs.getD 0 .none) = true then .none else .str "nought") else .str "form"
  | _ => .str "form"
theorem gd_size (n : Nat) : gdinD true [(2, 1), (4, 2), (8, 3), (16, 4)] (.int (n : Int)) = some (.d (.bool (!okSz n))) := by
  show bD (true != (gdx [(2, 1), (4, 2), (8, 3), (16, 4)] (n : Int)).isSome) = _
  unfold okSz
  by_cases h2 : n = 2
  · subst h2; rfl
  by_cases h4 : n = 4
  · subst h4; rfl
  by_cases h8 : n = 8
  · subst h8; rfl
  by_cases h16 : n = 16
  · subst h16; rfl
  have : gdx [(2, 1), (4, 2), (8, 3), (16, 4)] (n : Int) = none := by
    unfold gdx
    rw [List.find?_eq_none.mpr fun p hp => ?_]
    · rfl
    · simp only [List.mem_cons, List.not_mem_nil, or_false] at hp
      rcases hp with rfl | rfl | rfl | rfl <;> simp <;> omega
  rw [this]
  simp [h2, h4, h8, h16, bD]
theorem nin_size (n : Nat) : inD true (.int (n : Int)) (.tuple [.int 2, .int 4, .int 8, .int 16]) = some (.d (.bool (!okSz n))) := by
  have := in_ptN (ns := [2, 4, 8, 16]) (i := (n : Int))
  refine this.trans ?_
  unfold okSz
  congr 4
  simp only [List.any_cons, List.any_nil, Bool.or_false]
  rw [Bool.eq_iff_iff]
  simp
  omega
theorem okSz_pos {n : Nat} (h : okSz n = true) : 0 < n ∧ n ≤ 16 := by
  unfold okSz at h
  simp only [Bool.or_eq_true, beq_iff_eq] at h
  omega
theorem item_loop {g : Sf} {t : Tg} (xs : List PyData) (S : Option Mv → Option Mv → Sm)
    (hb : ∀ (k : Nat) o1 o2, k < xs.length → ∃ o1' o2', bodyO g (t (.tuple [.int (k : Int), xs.getD k .none]) (S o1 o2)) = if numB (-1000) 1000 (xs.getD k .none) = true then .ok .nx (S o1' o2') else .ok (.rt (.fz (.tuple [.str "item", .int (k : Int)]))) (S o1' o2')) (o1 o2 : Option Mv) :
    ∃ o1' o2', forL t g ((List.range xs.length).map fun (k : Nat) => .tuple [.int (k : Int), xs.getD k .none]) (S o1 o2) = match (List.range xs.length).find? fun (k : Nat) => !numB (-1000) 1000 (xs.getD k .none) with
      | some k => .ok (.rt (.fz (.tuple [.str "item", .int (k : Int)]))) (S o1' o2')
      | none => .ok .nx (S o1' o2') := by
  rcases forL_find (g := g) (t := t) (q := fun k : Nat => .tuple [.int (k : Int), xs.getD k .none]) (fun pre m => (∀ k ∈ pre, (!numB (-1000) 1000 (xs.getD k .none)) = false) ∧ ∃ o3 o4, m = S o3 o4) (fun pre k v m => (∀ j ∈ pre, (!numB (-1000) 1000 (xs.getD j .none)) = false) ∧ (!numB (-1000) 1000 (xs.getD k .none)) = true ∧ v = .fz (.tuple [.str "item", .int (k : Int)]) ∧ ∃ o3 o4, m = S o3 o4) (L := List.range xs.length) (m := S o1 o2) ⟨by simp, o1, o2, rfl⟩ (fun pre k su m hL ⟨hp, o3, o4, hm⟩ => by
    subst hm
    have hk : k < xs.length := by
      have : k ∈ List.range xs.length := by rw [hL]; simp
      exact List.mem_range.mp this
    obtain ⟨o1', o2', e⟩ := hb k o3 o4 hk
    rw [e]
    cases hn : numB (-1000) 1000 (xs.getD k .none)
    · exact .rt ⟨hp, by first | rfl | (rw [hn]; rfl), rfl, _, _, rfl⟩
    · exact .nx ⟨fun j hj => by
        rcases List.mem_append.mp hj with hj | hj
        · exact hp j hj
        · rw [List.mem_singleton] at hj; subst hj; rw [hn]; rfl, _, _, rfl⟩) with ⟨m', e, hg, o3, o4, rfl⟩ | ⟨pre, k, su, v, m', hL, e, hp, hk, rfl, o3, o4, rfl⟩
  · exact ⟨o3, o4, by rw [range_none hg, e]⟩
  · exact ⟨o3, o4, by rw [range_first hL hp hk, e]⟩
theorem at_num {xs : List PyData} (h : (List.range xs.length).find? (fun (k : Nat) => !numB (-1000) 1000 (xs.getD k .none)) = none) (h0 : 0 < xs.length) : ∃ i, xs.getD 0 .none = .int i := by
  have := List.find?_eq_none.mp h 0 (List.mem_range.mpr h0)
  cases hd : xs.getD 0 .none with
  | int i => exact ⟨i, rfl⟩
  | _ => rw [hd] at this; exact absurd rfl this
theorem lots_error_ok (d : PyData) : m_lots_error [.fz d] = .ok (.fz (lfD d)) [some (.fz d)] := by
  cases d with
  | tuple xs =>
    have fd : lfD (.tuple xs) = if okSz xs.length = true then (match (List.range xs.length).find? fun (k : Nat) => !numB (-1000) 1000 (xs.getD k .none) with
      | some k => .tuple [.str "item", .int (k : Int)]
      | none => if zeroB (xs.getD 0 .none) = true then .none else .str "nought") else .str "form" := rfl
    rw [fd]
    obtain ⟨o1, o2, loop⟩ := item_loop (t := (tgTup [(tgName 1), (tgName 2)])) (g := (ifS (notT (testE (callE m_is_whole [(slotE 2), (op1E negD (dataE (.int 1000))), (dataE (.int 1000))]))) (retS (tupE [(dataE (.str "item")), (slotE 1)])) skipS)) xs (fun o1 o2 => [some (.fz (.tuple xs)), o1, o2]) (fun k o1 o2 hk => by
      have e := whole_ok (xs.getD k .none) (-1000) 1000
      refine ⟨some (.fz (.int (k : Int))), some (.fz (xs.getD k .none)), ?_⟩
      trivial
      rw [e]
      trivial
      cases numB (-1000) 1000 (xs.getD k .none) <;> rfl) none none
    first | refine (run_ev (st := [some _, none, none]) rfl rfl rfl).trans ?_ | refine Meets.of (run_ev (st := [some _, none, none]) rfl rfl rfl) ?_ | refine (run_ev (np := 1) (nn := 3) (st := [some _, none, none]) rfl rfl rfl).trans ?_
    unfold g_lots_error
    trivial
    rw [gd_size]
    cases hs : okSz xs.length
    · rfl
    · have hp := okSz_pos hs
      trivial
      rw [enumD_range, loop]
      cases hf : (List.range xs.length).find? (fun (k : Nat) => !numB (-1000) 1000 (xs.getD k .none)) with
      | some k => rfl
      | none =>
        obtain ⟨i, hi⟩ := at_num hf hp.1
        have e0 : ixD (.tuple xs) (.int 0) = some (.d (.int i)) := by
          rw [← hi]
          exact ix_tuple (i := 0) (by rw [List.getD_eq_getElem?_getD, List.getElem?_eq_getElem hp.1]; rfl)
        trivial
        rw [e0, hi]
        trivial
        rw [show zeroB (.int i) = (i == 0) from rfl]
        cases (i == 0) <;> rfl
  | _ => rfl
theorem lots_fault_ok (d : PyData) : m__law_lots_fault [.fz d] = .ok (.fz (lfD d)) [some (.fz d)] := by
  cases d with
  | tuple xs =>
    have fd : lfD (.tuple xs) = if okSz xs.length = true then (match (List.range xs.length).find? fun (k : Nat) => !numB (-1000) 1000 (xs.getD k .none) with
      | some k => .tuple [.str "item", .int (k : Int)]
      | none => if zeroB (xs.getD 0 .none) = true then .none else .str "nought") else .str "form" := rfl
    rw [fd]
    obtain ⟨o1, o2, loop⟩ := item_loop (t := (tgTup [(tgName 1), (tgName 2)])) (g := (ifS (notT (testE (callE m__law_is_number [(slotE 2), (op1E negD (dataE (.int 1000))), (dataE (.int 1000))]))) (retS (tupE [(dataE (.str "item")), (slotE 1)])) skipS)) xs (fun o1 o2 => [some (.fz (.tuple xs)), o1, o2]) (fun k o1 o2 hk => by
      have e := number_ok (xs.getD k .none) (-1000) 1000
      refine ⟨some (.fz (.int (k : Int))), some (.fz (xs.getD k .none)), ?_⟩
      trivial
      rw [e]
      trivial
      cases numB (-1000) 1000 (xs.getD k .none) <;> rfl) none none
    first | refine (run_ev (st := [some _, none, none]) rfl rfl rfl).trans ?_ | refine Meets.of (run_ev (st := [some _, none, none]) rfl rfl rfl) ?_ | refine (run_ev (np := 1) (nn := 3) (st := [some _, none, none]) rfl rfl rfl).trans ?_
    unfold g__law_lots_fault
    trivial
    rw [nin_size]
    cases hs : okSz xs.length
    · rfl
    · have hp := okSz_pos hs
      trivial
      rw [enumD_range, loop]
      cases hf : (List.range xs.length).find? (fun (k : Nat) => !numB (-1000) 1000 (xs.getD k .none)) with
      | some k => rfl
      | none =>
        obtain ⟨i, hi⟩ := at_num hf hp.1
        have e0 : ixD (.tuple xs) (.int 0) = some (.d (.int i)) := by
          rw [← hi]
          exact ix_tuple (i := 0) (by rw [List.getD_eq_getElem?_getD, List.getElem?_eq_getElem hp.1]; rfl)
        trivial
        rw [e0, hi]
        trivial
        rw [show zeroB (.int i) = (i == 0) from rfl]
        cases (i == 0) <;> rfl
  | _ => rfl
/-! ### lots: judged, bent, the law -/
theorem lfD_rp (d : PyData) : Rp (lfD d) := by
  have wd : ∀ s : String, s.length ≤ 20 → Sz (.str (Str.ofString s)) 0 21 := fun s hs => sz_strL hs
  have hform : Rp (.str (Str.ofString "form")) := sz_rp (wd _ (by decide)) (by omega) (by omega)
  cases d with
  | tuple xs =>
    show Rp (if okSz xs.length = true then (match (List.range xs.length).find? fun (k : Nat) => !numB (-1000) 1000 (xs.getD k .none) with
      | some k => .tuple [.str "item", .int (k : Int)]
      | none => if zeroB (xs.getD 0 .none) = true then .none else .str "nought") else .str "form")
    split
    · rename_i hs
      have hp := okSz_pos hs
      split
      · rename_i k hk
        have := List.mem_range.mp (List.mem_of_find?_eq_some hk)
        exact sz_rp ((sz_tuple (dp := 0) (c := 21) fun y hy => by
          simp only [List.mem_cons, List.not_mem_nil, or_false] at hy
          rcases hy with rfl | rfl
          · exact wd _ (by decide)
          · exact (sz_int (natAbs_ok (by omega) (by omega))).mono (by omega) (by omega)).mono (dp' := 1) (by omega) (Nat.le_refl _)) (by omega) (by simp)
      · split
        · exact sz_rp sz_none (by omega) (by omega)
        · exact sz_rp (wd _ (by decide)) (by omega) (by omega)
    · exact hform
  | _ => exact hform
theorem judged_ok {d : PyData} (h : Rp d) : m__law_is_judged [.fz d] = .ok (.fz (.bool true)) [some (.fz d)] := by
  have e1 := lots_fault_ok d
  have e2 := lots_error_ok d
  have f : reprD [lfD d] = some (.d (.str (lfD d).shown)) := lfD_rp d
  have h : reprD [d] = some (.d (.str d.shown)) := h
  first | refine (run_ev (st := [some _, none, none]) rfl rfl rfl).trans ?_ | refine Meets.of (run_ev (st := [some _, none, none]) rfl rfl rfl) ?_ | refine (run_ev (np := 1) (nn := 3) (st := [some _, none, none]) rfl rfl rfl).trans ?_
  unfold g__law_is_judged
  trivial
  trivial
  rw [h]
  trivial
  rw [e1]
  trivial
  rw [f]
  trivial
  rw [e2]
  trivial
  rw [f]
  trivial
  rw [e2]
  trivial
  rw [f]
  trivial
  rw [h]
  trivial
  rfl
theorem bent_ok {p : Pot} (hp : p.k = 0) {T : List Int} (h0 : 2 ≤ T.length) (h16 : T.length ≤ 16) (hb : Bd 2000 T) : Meets (fun v m => ∃ (d : PyData) (p' : Pot), p'.k = 0 ∧ v = .fz d ∧ m = [some p'.mv, some (.fz (pt T))] ∧ Rp d) (m__law_bent_lots [p.mv, .fz (pt T)]) := by
  obtain ⟨v, p1, hp1, e1, h1, h2⟩ := p.drawA hp (many := (T.length : Int)) (by omega)
  have h2 := h2 (by omega)
  obtain ⟨a, p2, hp2, e2, ha⟩ := oneI_ok hp1 (a := .fz (.list ([v, 0, (T.length : Int) - 1].map .int))) (ns := [v, 0, (T.length : Int) - 1]) (.inl rfl) (by simp) (by simp)
  simp only [List.map_cons, List.map_nil] at e2
  obtain ⟨a0, a1⟩ : 0 ≤ a ∧ a < (T.length : Int) := by
    simp only [List.mem_cons, List.not_mem_nil, or_false] at ha
    omega
  obtain ⟨w, p3, hp3, e3, h3, h4⟩ := p2.drawA hp2 (many := 5) (by omega)
  have hT : ∀ d ∈ T.map PyData.int, Sz d 1 3 := szs_ints hb (by omega)
  have mk : ∀ L : List PyData, L.length ≤ 100 → (∀ d ∈ L, Sz d 1 3) → Rp (.tuple L) := fun L hl h => sz_rp ((sz_tuple h).mono (dp' := 2) (c' := 400) (by omega) (by omega)) (by omega) (by omega)
  have app : ∀ A B : List PyData, (∀ z ∈ A, Sz z 1 3) → (∀ z ∈ B, Sz z 1 3) → ∀ z ∈ A ++ B, Sz z 1 3 := fun A B ha hb z hzz => (List.mem_append.mp hzz).elim (ha z) (hb z)
  have one : ∀ d, Sz d 1 3 → ∀ z ∈ [d], Sz z 1 3 := fun d hd z hzz => by rw [List.mem_singleton] at hzz; subst hzz; exact hd
  first | refine (run_ev (st := [some _, some _, none, none, none]) rfl rfl rfl).trans ?_ | refine Meets.of (run_ev (st := [some _, some _, none, none, none]) rfl rfl rfl) ?_ | refine (run_ev (np := 2) (nn := 5) (st := [some _, some _, none, none, none]) rfl rfl rfl).trans ?_
  unfold g__law_bent_lots
  trivial
  trivial
  rw [e1]
  trivial
  rw [e2]
  trivial
  rw [e3]
  trivial
  by_cases w3 : w < 3
  · rw [decide_eq_true w3]
    let L1 : List PyData := [.int 1001, .int (-1001), .int 1000, .int (-1000), .bool true, .bool false, .none, .str (Str.ofString "0"), .tuple [.int 0], .int 1, .int 100000000000000000000000000000000000000000000000000]
    obtain ⟨j, d, p4, hp4, e4, hj⟩ := one_ok hp3 (a := .fz (.list L1)) (ds := L1) (.inl rfl) (by simp [L1]) (by simp [L1])
    have hd : Sz d 1 3 := by
      have hm := List.mem_of_getElem? hj
      simp only [L1, List.mem_cons, List.not_mem_nil, or_false] at hm
      rcases hm with rfl | rfl | rfl | rfl | rfl | rfl | rfl | rfl | rfl | rfl | rfl
      · exact (sz_int (by decide +kernel)).mono (by omega) (by omega)
      · exact (sz_int (by decide +kernel)).mono (by omega) (by omega)
      · exact (sz_int (by decide +kernel)).mono (by omega) (by omega)
      · exact (sz_int (by decide +kernel)).mono (by omega) (by omega)
      · exact sz_bool.mono (by omega) (by omega)
      · exact sz_bool.mono (by omega) (by omega)
      · exact sz_none.mono (by omega) (by omega)
      · exact (sz_strL (n := 1) (by decide)).mono (by omega) (by omega)
      · exact (sz_pt (ns := [0]) fun n hn => natAbs_ok (by simp at hn; omega) (by simp at hn; omega)).mono (by omega) (by simp)
      · exact (sz_int (by decide +kernel)).mono (by omega) (by omega)
      · exact (sz_int (by decide +kernel)).mono (by omega) (by omega)
    simp only [L1] at e4
    trivial
    rw [show powD (.int 10) (.int 50) = some (.d (.int 100000000000000000000000000000000000000000000000000)) from rfl]
    trivial
    rw [e4]
    trivial
    rw [slice_toTi a0]
    trivial
    rw [addD_tuple (by simp; omega)]
    trivial
    rw [slice_fromTi (show 0 ≤ a + 1 by omega)]
    trivial
    rw [addD_tuple (by simp; omega)]
    trivial
    exact .mk ⟨_, p4, hp4, rfl, rfl, mk _ (by simp; omega) (app _ _ (app _ _ (fun z hz => hT z (List.mem_of_mem_take hz)) (one _ hd)) fun z hz => hT z (List.mem_of_mem_drop hz))⟩
  · rw [decide_eq_false w3]
    trivial
    let L2 : List PyData := [.tuple (T.map PyData.int ++ [.int 0]), .tuple (T.map PyData.int).dropLast, .list (T.map PyData.int), .tuple (T.map PyData.int ++ T.map PyData.int), .tuple (T.map PyData.int ++ T.map PyData.int ++ T.map PyData.int), .tuple (T.map PyData.int).reverse]
    obtain ⟨j, d, p4, hp4, e4, hj⟩ := one_ok hp3 (a := .fz (.list L2)) (ds := L2) (.inl rfl) (by simp [L2]) (by simp [L2])
    simp only [L2] at e4
    trivial
    rw [addD_tuple (by simp; omega)]
    trivial
    rw [slice_lastT]
    trivial
    rw [addD_tuple (by simp; omega)]
    trivial
    rw [addD_tuple (by simp; omega)]
    trivial
    rw [addD_tuple (by simp; omega)]
    trivial
    rw [ev_revT]
    trivial
    rw [revTK_t]
    trivial
    rw [e4]
    trivial
    refine .mk ⟨_, p4, hp4, rfl, rfl, ?_⟩
    have hm := List.mem_of_getElem? hj
    simp only [L2, List.mem_cons, List.not_mem_nil, or_false] at hm
    rcases hm with rfl | rfl | rfl | rfl | rfl | rfl
    · exact mk _ (by simp; omega) (app _ _ hT (one _ ((sz_int (by decide)).mono (by omega) (by omega))))
    · exact mk _ (by simp; omega) fun z hz => hT z ((List.dropLast_sublist _).subset hz)
    · exact sz_rp ((sz_list hT).mono (dp' := 2) (c' := 400) (by omega) (by simp; omega)) (by omega) (by omega)
    · exact mk _ (by simp; omega) (app _ _ hT hT)
    · exact mk _ (by simp; omega) (app _ _ (app _ _ hT hT) hT)
    · exact mk _ (by simp; omega) fun z hz => hT z (List.mem_reverse.mp hz)
theorem lot_number_ok (l : List Nat) (h : ∀ i ∈ l, i ≤ 1000) : m_lot_number [.fz (lotP l)] = .ok (.fz (.int (l.map fun i => ((2 ^ i : Nat) : Int)).sum)) [some (.fz (lotP l))] := by
  first | refine (run_ev (st := [some _, none]) rfl rfl rfl).trans ?_ | refine Meets.of (run_ev (st := [some _, none]) rfl rfl rfl) ?_ | refine (run_ev (np := 1) (nn := 2) (st := [some _, none]) rfl rfl rfl).trans ?_
  unfold g_lot_number
  trivial
  rw [compL_mapOf _ _ (fun (i : Nat) => .int ((2 ^ i : Nat) : Int)) fun i hi => ?c1]
  case c1 =>
    trivial
    rw [shl_n (h i hi)]
    trivial
  trivial
  rw [show (l.map fun (i : Nat) => PyData.int ((2 ^ i : Nat) : Int)) = (l.map fun i => ((2 ^ i : Nat) : Int)).map .int by rw [List.map_map]; rfl, sum_ints]
  trivial
  rfl
theorem lot_sum : ∀ a, a < 16 → ((lotN a).map fun i => ((2 ^ i : Nat) : Int)).sum = (a : Int) := by decide +kernel
theorem lot_lt (a : Nat) : ∀ i ∈ lotN a, i < 4 := fun i hi => List.mem_range.mp (List.mem_filter.mp hi).1
theorem some_rp {d : PyData} (h : d ∈ ([.none, .tuple [], .list [], .tuple [.int 0], .dict [], .int 0, .str (Str.ofString "0"), .tuple [.int 0, .int 0, .int 0], .tuple [.tuple [.int 0, .int 0]], .tuple [.none, .none], .tuple (List.replicate 32 (.int 0)), .bool true] : List PyData)) : Rp d := by
  have i0 : Sz (.int 0) 0 1 := sz_int (by decide)
  have p5 : ∀ k : Nat, Sz (.tuple (List.replicate k (.int 0))) 1 (1 + k) := fun k => (sz_tuple (dp := 0) (c := 1) fun z hz => by rw [(List.mem_replicate.mp hz).2]; exact i0).mono (by omega) (by simp)
  simp only [List.mem_cons, List.not_mem_nil, or_false] at h
  rcases h with rfl | rfl | rfl | rfl | rfl | rfl | rfl | rfl | rfl | rfl | rfl | rfl
  · exact sz_rp sz_none (by omega) (by omega)
  · exact sz_rp (p5 0) (by omega) (by omega)
  · exact sz_rp (sz_list (xs := []) (dp := 0) (c := 1) fun z hz => by cases hz) (by omega) (by simp)
  · exact sz_rp (p5 1) (by omega) (by omega)
  · show (if (PyData.dict []).showable = true ∧ (PyData.dict []).depth ≤ 60 ∧ (PyData.dict []).shown.length ≤ sizeLine ∧ ((PyData.dict []).hasDict = false ∨ nol (PyData.dict []) = true) then some (Rv.d (.str (PyData.dict []).shown)) else none) = _
    exact if_pos ⟨by decide +kernel, by decide +kernel, by decide +kernel, .inr rfl⟩
  · exact sz_rp i0 (by omega) (by omega)
  · exact sz_rp (sz_strL (n := 1) (by decide)) (by omega) (by omega)
  · exact sz_rp (p5 3) (by omega) (by omega)
  · exact sz_rp (sz_tuple (xs := [.tuple [.int 0, .int 0]]) (dp := 1) (c := 3) fun z hz => by rw [List.mem_singleton] at hz; subst hz; exact p5 2) (by omega) (by simp)
  · exact sz_rp (sz_tuple (xs := [.none, .none]) (dp := 0) (c := 1) fun z hz => by
      simp only [List.mem_cons, List.not_mem_nil, or_false, or_self] at hz
      subst hz; exact sz_none) (by omega) (by simp)
  · exact sz_rp (p5 32) (by omega) (by omega)
  · exact sz_rp sz_bool (by omega) (by omega)
def Mk (ns : List Int) (p : Pot) (o2 o3 o4 : Option Mv) : Sm := [some (.fz (.list (ns.map .int))), some p.mv, o2, o3, o4, none, none, none, none]
theorem law_is : LawIs m_law 63 := fun ns hlen => by
  obtain ⟨p0, hp0, e0⟩ := pot_ok ns hlen
  obtain ⟨_, e1, p1, o2, o3, o4, hp1, rfl⟩ := forL_all (t := (tgName 2)) (g := (seqS (setS 3 (callE m__law_lot_table [(slotE 1), (op2E addD (dataE (.int 1)) (callE drawFA [(slotE 1), (dataE (.int 4))]))])) (seqS (ifS (boolE (op2E eqD (slotE 2) (dataE (.int 0)))) (setS 3 (op2E addD (tupE [(dataE (.int 0))]) (opNE tupleD [(compE [8] (itRange1 [(op2E subD (opNE lenD [(slotE 3)]) (dataE (.int 1)))]) (tgName 8) yesT (callE m__law_one [(slotE 1), (lstE [(dataE (.int 1000)), (op1E negD (dataE (.int 1000))), (dataE (.int 0))])]))]))) skipS) (seqS (ifS (notT (testE (callE m__law_is_judged [(slotE 3)]))) (retS (dataE (.bool false))) skipS) (forS (itRange1 [(dataE (.int 4))]) (tgName 4) (ifS (notT (testE (callE m__law_is_judged [(callE m__law_bent_lots [(slotE 1), (slotE 3)])]))) (retS (dataE (.bool false))) skipS)))))) (q := fun (i : Nat) => PyData.int (i : Int)) (fun pre m => ∃ (p : Pot) (o2 o3 o4 : Option Mv), p.k = 0 ∧ m = Mk ns p o2 o3 o4) (L := List.range 6) (m := Mk ns p0 none none none) ⟨p0, _, _, _, hp0, rfl⟩ (fun pre x su m hL ⟨p, o2, o3, o4, hp, hm⟩ => by
    subst hm
    obtain ⟨v, p1, hp1, e1, h1, h2⟩ := p.drawA hp (many := 4) (by omega)
    have h2 := h2 (by omega)
    obtain ⟨n, hn⟩ : ∃ n : Nat, 1 + v = (n : Int) := ⟨(1 + v).toNat, by omega⟩
    obtain ⟨_, _, e2, T, p2, hp2, rfl, rfl, hT⟩ := (lot_table_ok hp1 (n := n) (by omega) (by omega)).out
    have s0 : (setS 3 (callE m__law_lot_table [(slotE 1), (op2E addD (dataE (.int 1)) (callE drawFA [(slotE 1), (dataE (.int 4))]))])) (Mk ns p (some (.fz (.int x))) o3 o4) = .ok .nx (Mk ns p2 (some (.fz (.int x))) (some (.fz (pt T))) o4) := by
      unfold Mk
      trivial
      rw [e1]
      trivial
      rw [hn]
      trivial
      rw [e2]
      trivial
    have l2 : 2 ≤ T.length ∧ T.length ≤ 16 := by
      rw [hT.len]
      have h16 := pow_le16 (show n ≤ 4 by omega)
      have := Nat.pow_le_pow_right (show 0 < 2 by omega) (show 1 ≤ n by omega)
      omega
    obtain ⟨U, p3, s1, hp3, lU, bU⟩ : ∃ (U : List Int) (p3 : Pot), (ifS (boolE (op2E eqD (slotE 2) (dataE (.int 0)))) (setS 3 (op2E addD (tupE [(dataE (.int 0))]) (opNE tupleD [(compE [8] (itRange1 [(op2E subD (opNE lenD [(slotE 3)]) (dataE (.int 1)))]) (tgName 8) yesT (callE m__law_one [(slotE 1), (lstE [(dataE (.int 1000)), (op1E negD (dataE (.int 1000))), (dataE (.int 0))])]))]))) skipS) (Mk ns p2 (some (.fz (.int x))) (some (.fz (pt T))) o4) = .ok .nx (Mk ns p3 (some (.fz (.int x))) (some (.fz (pt U))) o4) ∧ p3.k = 0 ∧ (2 ≤ U.length ∧ U.length ≤ 16) ∧ Bd 2000 U := by
      cases hx : ((x : Int) == 0)
      · refine ⟨T, p2, ?_, hp2, l2, fun z hz => by have := hT.b z hz; omega⟩
        unfold Mk
        trivial
        rw [hx]
        trivial
      · obtain ⟨ks, p3, hp3, e3, l3, b3⟩ := pots_gen (fun mv => [some (.fz (.list (ns.map .int))), some mv, some (.fz (.int x)), some (.fz (pt T)), o4, none, none, none, none]) PyData.int (fun k => -2000 ≤ k ∧ k ≤ 2000) (own := [8]) (bt := (tgName 8)) (tst := yesT) (e := frzE (callE m__law_one [(slotE 1), (lstE [(dataE (.int 1000)), (op1E negD (dataE (.int 1000))), (dataE (.int 0))])])) (ds := (List.range (T.length - 1)).map fun (i : Nat) => PyData.int (i : Int)) (fun p => p.k = 0) hp2 (fun d hd p hp => by
          obtain ⟨w, p4, hp4, e4, hw⟩ := oneI_ok hp (a := .fz (.list ([1000, -1000, 0].map .int))) (ns := [1000, -1000, 0]) (.inl rfl) (by simp) (by simp)
          simp only [List.map_cons, List.map_nil] at e4
          simp only [List.mem_cons, List.not_mem_nil, or_false] at hw
          refine ⟨w, p4, hp4, ?_, by omega⟩
          trivial
          rw [e4]
          trivial)
        rw [List.length_map, List.length_range] at l3
        refine ⟨0 :: ks, p3, ?_, hp3, by simp; omega, fun z hz => ?_⟩
        · unfold Mk
          trivial
          rw [hx]
          trivial
          rw [show (((T.length : Nat) : Int) - 1) = ((T.length - 1 : Nat) : Int) by omega]
          trivial
          rw [ev_irK (okRg_nat (by omega))]
          trivial
          rw [rangeD_nat]
          trivial
          rw [e3]
          trivial
          rw [addD_tuple (by simp; omega)]
          trivial
          rfl
        · rcases List.mem_cons.mp hz with rfl | hz
          · omega
          · exact b3 z hz
    have j1 := judged_ok (d := pt U) (sz_rp ((sz_pt fun z hz => bU.at hz (by omega)).mono (dp' := 1) (c' := 100) (by omega) (by omega)) (by omega) (by omega))
    obtain ⟨_, e4, p4, o4', hp4, rfl⟩ := forL_all (t := (tgName 4)) (g := (ifS (notT (testE (callE m__law_is_judged [(callE m__law_bent_lots [(slotE 1), (slotE 3)])]))) (retS (dataE (.bool false))) skipS)) (q := fun (i : Nat) => PyData.int (i : Int)) (fun pre m => ∃ (p : Pot) (o4 : Option Mv), p.k = 0 ∧ m = Mk ns p (some (.fz (.int x))) (some (.fz (pt U))) o4) (L := List.range 4) (m := Mk ns p3 (some (.fz (.int x))) (some (.fz (pt U))) o4) ⟨p3, _, hp3, rfl⟩ (fun pre y su m hL ⟨p, o4, hp, hm⟩ => by
      subst hm
      obtain ⟨_, _, e5, d, p5, hp5, rfl, rfl, hd⟩ := (bent_ok hp lU.1 lU.2 bU).out
      have jd := judged_ok hd
      unfold Mk
      trivial
      rw [e5]
      trivial
      rw [jd]
      trivial
      exact .nx ⟨p5, _, hp5, rfl⟩)
    rw [ev_tgN, ev_bodyO]
    show Goes _ (seqS _ _ (Mk ns p (some (.fz (.int x))) o3 o4))
    rw [ev_sq, s0, eb_ok, ev_sqK_nx, ev_sq, s1, eb_ok, ev_sqK_nx]
    unfold Mk at e4 ⊢
    trivial
    rw [j1]
    trivial
    rw [show irK 0 4 = fun m => .ok ((List.range 4).map fun (i : Nat) => PyData.int (i : Int)) m from rfl]
    trivial
    rw [e4]
    trivial
    exact .nx ⟨p4, _, _, _, hp4, rfl⟩)
  suffices h : Gives (.fz (.bool true)) (m_law [.fz (.list (ns.map .int))]) by
    generalize m_law [.fz (.list (ns.map .int))] = r at h
    cases h
    exact ⟨_, rfl⟩
  let L : List PyData := [.none, .tuple [], .list [], .tuple [.int 0], .dict [], .int 0, .str (Str.ofString "0"), .tuple [.int 0, .int 0, .int 0], .tuple [.tuple [.int 0, .int 0]], .tuple [.none, .none], .tuple (List.replicate 32 (.int 0)), .bool true]
  obtain ⟨j, d, p3, hp3, e3, hj⟩ := one_ok hp1 (a := .ol L) (ds := L) (.inr (.inr rfl)) (by simp [L]) (by simp [L])
  have j3 := judged_ok (some_rp (List.mem_of_getElem? hj))
  simp only [L] at e3
  obtain ⟨_, e5, o6, o7, rfl⟩ := forL_all (t := (tgName 6)) (g := (seqS (setS 7 (callE m__law_lot [(slotE 6)])) (ifS (boolE (op2E neD (opNE reprD [(lstE [(callE m_lot_of [(slotE 6)]), (callKE m_lot_of 0 1 [0] [] [(slotE 6)]), (callE m_lot_number [(slotE 7)]), (callKE m_lot_number 0 1 [0] [] [(slotE 7)])])]) (opNE reprD [(lstE [(slotE 7), (slotE 7), (slotE 6), (slotE 6)])]))) (retS (dataE (.bool false))) skipS))) (q := fun (i : Nat) => PyData.int (i : Int)) (fun pre m => ∃ (o6 o7 : Option Mv), m = [some (.fz (.list (ns.map .int))), some p3.mv, o2, o3, o4, some (.ol L), o6, o7, none]) (L := List.range 16) (m := [some (.fz (.list (ns.map .int))), some p3.mv, o2, o3, o4, some (.ol L), none, none, none]) ⟨_, _, rfl⟩ (fun pre a su m hL ⟨o6, o7, hm⟩ => by
    subst hm
    have ha : a < 16 := by
      have : a ∈ List.range 16 := by rw [hL]; simp
      exact List.mem_range.mp this
    have ea := law_lot_ok a
    have eb := lot_of_ok a
    have ec := lot_number_ok (lotN a) fun i hi => by have := lot_lt a i hi; omega
    rw [lot_sum a ha] at ec
    have fr : reprD [.list [lotP (lotN a), lotP (lotN a), .int (a : Int), .int (a : Int)]] = some (.d (.str (PyData.list [lotP (lotN a), lotP (lotN a), .int (a : Int), .int (a : Int)]).shown)) := by
      have hl := lotN_le a
      have h1 : Sz (lotP (lotN a)) 1 10 := (sz_tuple (dp := 0) (c := 1) fun z hz => by
        obtain ⟨i, hi, rfl⟩ := List.mem_map.mp hz
        have := lot_lt a i hi
        exact sz_int (natAbs_ok (by omega) (by omega))).mono (by omega) (by rw [List.length_map]; omega)
      have h2 : Sz (.int (a : Int)) 1 10 := (sz_int (natAbs_ok (by omega) (by omega))).mono (by omega) (by omega)
      exact sz_rp (sz_list (dp := 1) (c := 10) fun z hz => by
        simp only [List.mem_cons, List.not_mem_nil, or_false] at hz
        rcases hz with rfl | rfl | rfl | rfl
        · exact h1
        · exact h1
        · exact h2
        · exact h2) (by omega) (by simp)
    trivial
    rw [ea]
    trivial
    rw [eb]
    trivial
    rw [eb]
    trivial
    rw [ec]
    trivial
    rw [ec]
    trivial
    rw [fr]
    trivial
    rw [fr]
    trivial
    exact .nx ⟨_, _, rfl⟩)
  simp only [L] at e5
  rw [show m_law [.fz (.list (ns.map .int))] = _ from run_ev (st := [some _, none, none, none, none, none, none, none, none]) rfl rfl rfl]
  unfold g_law
  unfold Mk at e1
  trivial
  rw [e0]
  trivial
  rw [show Mv.rs p0.k p0.c p0.a p0.b = p0.mv from rfl, show irK 0 6 = fun m => .ok ((List.range 6).map fun (i : Nat) => PyData.int (i : Int)) m from rfl]
  trivial
  rw [e1]
  trivial
  rw [show mulD (.tuple [.int 0]) (.int 32) = some (.d (.tuple (List.replicate 32 (.int 0)))) from rfl]
  trivial
  rw [e3]
  trivial
  rw [j3]
  trivial
  rw [show irK 0 16 = fun m => .ok ((List.range 16).map fun (i : Nat) => PyData.int (i : Int)) m from rfl]
  trivial
  rw [e5]
  trivial
  exact .mk
end LawP
open PySem PySem.W PyProof.Rows
set_option maxHeartbeats 0 in
theorem PySem.Challenge.cw_wholehills_k47_lots_judged_holds : PySem.Challenge.rw_wholehills_k47_lots_judged.Holds := by
  w_on; o_law; k_head; (case hw => w_witness2)
  k_fill
  refine PyE.walk_G (l := PySem.Challenge.rw_wholehills_k47_lots_judged) (n := 63) (k := 5) (x := "script") (xr := PyE.xrT) (f := LawP.m_law) rfl (by decide) rfl ⟨rfl, by decide, by decide⟩ (fun w h Y => PySem.W.kIn_of Y) LawP.law_is ?F
  case F =>
    intro w mg fa h KX G hmg
    refine' LawP.all_mk KX G hmg ?a0 ?l0 ?c0 ?k0 ?a1 ?l1 ?c1 ?k1 ?a2 ?l2 ?c2 ?k2 ?a3 ?l3 ?c3 ?k3 ?a4 ?l4 ?c4 ?k4 ?a5 ?l5 ?c5 ?k5 ?a6 ?l6 ?c6 ?k6 ?a7 ?l7 ?c7 ?k7 ?a8 ?l8 ?c8 ?k8 ?a9 ?l9 ?c9 ?k9 ?a10 ?l10 ?c10 ?k10 ?a11 ?l11 ?c11 ?k11 ?a12 ?l12 ?c12 ?k12 ?a13 ?l13 ?c13 ?k13 ?a14 ?l14 ?c14 ?k14 ?a15 ?l15 ?c15 ?k15 ?a16 ?l16 ?c16 ?k16 ?z_abs ?z_bool ?z_enumerate ?z_int ?z_isinstance ?z_len ?z_list ?z_min ?z_range ?z_repr ?z_sum ?z_tuple ?n_MAX_WORTH ?n_SIZES ?l_SIZES ?i_SIZES ?s_SIZES
    (case a0 => k_is); (case l0 => k_is); (case c0 => k_is); (case k0 => k_is); (case a1 => k_is); (case l1 => k_is)
    (case c1 => k_is); (case k1 => k_is); (case a2 => k_is); (case l2 => k_is); (case c2 => k_is); (case k2 => k_is)
    (case a3 => k_is); (case l3 => k_is); (case c3 => k_is); (case k3 => k_is); (case a4 => k_is); (case l4 => k_is)
    (case c4 => k_is); (case k4 => k_is); (case a5 => k_is); (case l5 => k_is); (case c5 => k_is); (case k5 => k_is)
    (case a6 => k_is); (case l6 => k_is); (case c6 => k_is); (case k6 => k_is); (case a7 => k_is); (case l7 => k_is)
    (case c7 => k_is); (case k7 => k_is); (case a8 => k_is); (case l8 => k_is); (case c8 => k_is); (case k8 => k_is)
    (case a9 => k_is); (case l9 => k_is); (case c9 => k_is); (case k9 => k_is); (case a10 => k_is); (case l10 => k_is)
    (case c10 => k_is); (case k10 => k_is); (case a11 => k_is); (case l11 => k_is); (case c11 => k_is); (case k11 => k_is)
    (case a12 => k_is); (case l12 => k_is); (case c12 => k_is); (case k12 => k_is); (case a13 => k_is); (case l13 => k_is)
    (case c13 => k_is); (case k13 => k_is); (case a14 => k_is); (case l14 => k_is); (case c14 => k_is); (case k14 => k_is)
    (case a15 => k_is); (case l15 => k_is); (case c15 => k_is); (case k15 => k_is); (case a16 => k_is); (case l16 => k_is)
    (case c16 => k_is); (case k16 => k_is); (case z_abs => k_is); (case z_bool => k_is); (case z_enumerate => k_is); (case z_int => k_is)
    (case z_isinstance => k_is); (case z_len => k_is); (case z_list => k_is); (case z_min => k_is); (case z_range => k_is); (case z_repr => k_is)
    (case z_sum => k_is); (case z_tuple => k_is); (case n_MAX_WORTH => k_is); (case n_SIZES => k_is); (case l_SIZES => k_is); (case i_SIZES => exact ⟨⟨_, _, rfl, by first | rfl | decide +kernel, rfl⟩, ⟨_, _, rfl, by first | rfl | decide +kernel, rfl⟩, ⟨_, _, rfl, by first | rfl | decide +kernel, rfl⟩, ⟨_, _, rfl, by first | rfl | decide +kernel, rfl⟩, True.intro⟩)
    (case s_SIZES => first | rfl | decide)
