import PyProof.Rows.All
import Wide.All
import OpenK.AllK
import Wide.FinOn
import HandS.ForExc
import HandS.Comp
import HandS.Walk
import HandS.Dict
import HandS.ExcSuper
import HandS.TryMany
import PyProof.ReprRoads
import HandS.Ends
import HandS.WordsExc
import HandS.TupAny
import HandS.Deep
import HandS.RaiseMore
import KE.GoesNew
import HandS.Text
import PyProof.ReprLen
import PySem.Challenge.RW_wholehills_k01_whole_points
set_option Elab.async false
set_option linter.all false
set_option maxRecDepth 100000
set_option maxHeartbeats 4000000
/-! PyE: a pure evaluator over data; its values, how they lie in the heap -/
namespace PyE
open PySem PySem.Spec PyProof.Rows
open L2

abbrev St := L2.St
abbrev Kvs := List (PyData × PyData)
/-- what a slot holds: frozen data; an owned list, dict; a source of draws -/
inductive Mv where
  | fz (d : PyData) | ol (xs : List PyData) | od (kvs : Kvs) | rs (kind : Nat) (cells : List Int) (a b : Int)
abbrev Sm := List (Option Mv)
/-- what an expression gives: data; a slot's owned thing; a new list; a new dict -/
inductive Rv where
  | d (x : PyData) | s (i : Nat) | nl (xs : List PyData) | nd (kvs : Kvs) | nr (kind : Nat) (cells : List Int) (a b : Int)
/-- an exception: its class's name, what it keeps -/
structure Ex where
  cls : Str
  arg : Option PyData
inductive Res (α : Type) where
  | ok (a : α) (m : Sm) | ex (e : Ex) (m : Sm) | no
abbrev Ev (α : Type) := Sm → Res α
def Res.bind {α β : Type} : Res α → (α → Ev β) → Res β
  | .ok a m, f => f a m
  | .ex e m, _ => .ex e m
  | .no, _ => .no

/-! ### frozen data -/
/-- a list that never changes -/
def FL (K : PySem.W.Frag) (H : Hp) (a : Addr) (xs : List V) : Prop :=
  (∃ o, H a = some (.frz o (.lst xs))) ∨ ∃ (its : Array Value) (n : Nat), K.lookup a = some { cls := .type "list", dict := none, data := .seq its n, slots := #[] } ∧ its.size ≤ sizeLine ∧ Vals xs its.toList
theorem FL.seq {K : PySem.W.Frag} {H : Hp} {a : Addr} {xs : List V} (h : FL K H a xs) : SqL K H a xs := by
  rcases h with h | ⟨its, n, h1, h2, h3⟩
  · exact .inl (.inr h)
  · exact .inr ⟨_, its, n, h1, rfl, rfl, rfl, h2, h3⟩
mutual
inductive Fz (K : PySem.W.Frag) (H : Hp) : V → PyData → Prop
  | non : Fz K H .non .none
  | bl (b : Bool) : Fz K H (.bl b) (.bool b)
  | int (i : Int) : Fz K H (.int i) (.int i)
  | str (x : Str) : Fz K H (.str x) (.str x)
  | lst {a : Addr} {xs : List V} {ds : List PyData} : FL K H a xs → FzAll K H xs ds → Fz K H (.ref a) (.list ds)
  | tup {a : Addr} {xs : List V} {ds : List PyData} : SqT K H a xs → FzAll K H xs ds → Fz K H (.ref a) (.tuple ds)
inductive FzAll (K : PySem.W.Frag) (H : Hp) : List V → List PyData → Prop
  | nil : FzAll K H [] []
  | cons {v : V} {vs : List V} {d : PyData} {ds : List PyData} : Fz K H v d → FzAll K H vs ds → FzAll K H (v :: vs) (d :: ds)
end
/-- what never changes is kept -/
def Keep (H H' : Hp) : Prop := ∀ b u, H b = some u → ¬ Mut (some u) → H' b = some u
theorem Keep.refl (H : Hp) : Keep H H := fun _ _ h _ => h
theorem Keep.trans {H H1 H2 : Hp} (a : Keep H H1) (b : Keep H1 H2) : Keep H H2 := fun c u h n => b c u (a c u h n) n
theorem Keep.rd {H H' : Hp} {a : Addr} {xs : List V} (k : Keep H H') (h : Rd H a (.tup xs)) : Rd H' a (.tup xs) := by
  rcases h with h | ⟨o, h⟩
  · exact .inl (k _ _ h fun z => z)
  · exact .inr ⟨o, k _ _ h fun z => z⟩
theorem Keep.sqT {K : PySem.W.Frag} {H H' : Hp} {a : Addr} {xs : List V} (k : Keep H H') (h : SqT K H a xs) : SqT K H' a xs := by
  rcases h with h | h
  · exact .inl (k.rd h)
  · exact .inr h
theorem Keep.fl {K : PySem.W.Frag} {H H' : Hp} {a : Addr} {xs : List V} (k : Keep H H') (h : FL K H a xs) : FL K H' a xs := by
  rcases h with ⟨o, h⟩ | h
  · exact .inl ⟨o, k _ _ h fun z => z⟩
  · exact .inr h
theorem Same.toKeep {H H' : Hp} (s : Same H H') : Keep H H' := fun b u h _ => s b u h
section
variable {K : PySem.W.Frag} {H H' : Hp}
mutual
theorem Fz.keep (k : Keep H H') : ∀ {v : V} {d : PyData}, Fz K H v d → Fz K H' v d
  | _, _, .non => .non
  | _, _, .bl b => .bl b
  | _, _, .int i => .int i
  | _, _, .str x => .str x
  | _, _, .lst h g => .lst (k.fl h) (FzAll.keep k g)
  | _, _, .tup h g => .tup (k.sqT h) (FzAll.keep k g)
theorem FzAll.keep (k : Keep H H') : ∀ {vs : List V} {ds : List PyData}, FzAll K H vs ds → FzAll K H' vs ds
  | _, _, .nil => .nil
  | _, _, .cons h g => .cons (Fz.keep k h) (FzAll.keep k g)
end
mutual
theorem Fz.dp : ∀ {v : V} {d : PyData}, Fz K H v d → Dp K H v d
  | _, _, .non => .non
  | _, _, .bl b => .bl b
  | _, _, .int i => .int i
  | _, _, .str x => .str x
  | _, _, .lst h g => .lst h.seq (FzAll.dp g)
  | _, _, .tup h g => .tup h (FzAll.dp g)
theorem FzAll.dp : ∀ {vs : List V} {ds : List PyData}, FzAll K H vs ds → DpAll K H vs ds
  | _, _, .nil => .nil
  | _, _, .cons h g => .cons (Fz.dp h) (FzAll.dp g)
end
theorem FzAll.length : ∀ {vs : List V} {ds : List PyData}, FzAll K H vs ds → vs.length = ds.length
  | _, _, .nil => rfl
  | _, _, .cons _ g => congrArg (· + 1) (FzAll.length g)
theorem FzAll.append : ∀ {vs ws : List V} {ds es : List PyData}, FzAll K H vs ds → FzAll K H ws es → FzAll K H (vs ++ ws) (ds ++ es)
  | _, _, _, _, .nil, g => g
  | _, _, _, _, .cons h g, g' => .cons h (FzAll.append g g')
theorem FzAll.get : ∀ {vs : List V} {ds : List PyData} {i : Nat} {d : PyData}, FzAll K H vs ds → ds[i]? = some d → ∃ v, vs[i]? = some v ∧ Fz K H v d
  | _, _, _, _, .nil, e => by simp at e
  | _, _, 0, _, .cons h _, e => by simp at e; subst e; exact ⟨_, rfl, h⟩
  | _, _, i + 1, d, .cons _ g, e => by
    obtain ⟨v, e1, h⟩ := FzAll.get (i := i) (d := d) g (by simpa using e)
    exact ⟨v, by simpa using e1, h⟩
theorem FzAll.getV : ∀ {vs : List V} {ds : List PyData} {i : Nat} {v : V}, FzAll K H vs ds → vs[i]? = some v → ∃ d, ds[i]? = some d ∧ Fz K H v d
  | _, _, _, _, .nil, e => by simp at e
  | _, _, 0, _, .cons h _, e => by simp at e; subst e; exact ⟨_, rfl, h⟩
  | _, _, i + 1, v, .cons _ g, e => by
    obtain ⟨d, e1, h⟩ := FzAll.getV (i := i) (v := v) g (by simpa using e)
    exact ⟨d, by simpa using e1, h⟩
theorem FzAll.take : ∀ {vs : List V} {ds : List PyData} (n : Nat), FzAll K H vs ds → FzAll K H (vs.take n) (ds.take n)
  | _, _, 0, _ => .nil
  | _, _, _ + 1, .nil => .nil
  | _, _, n + 1, .cons h g => .cons h (FzAll.take n g)
theorem FzAll.drop : ∀ {vs : List V} {ds : List PyData} (n : Nat), FzAll K H vs ds → FzAll K H (vs.drop n) (ds.drop n)
  | _, _, 0, g => g
  | _, _, _ + 1, .nil => .nil
  | _, _, n + 1, .cons _ g => FzAll.drop n g
theorem FzAll.reverse : ∀ {vs : List V} {ds : List PyData}, FzAll K H vs ds → FzAll K H vs.reverse ds.reverse
  | _, _, .nil => .nil
  | _, _, .cons h g => by rw [List.reverse_cons, List.reverse_cons]; exact (FzAll.reverse g).append (.cons h .nil)
theorem FzAll.set {w : V} {e : PyData} (q : Fz K H w e) : ∀ {vs : List V} {ds : List PyData} (n : Nat), FzAll K H vs ds → FzAll K H (vs.set n w) (ds.set n e)
  | _, _, _, .nil => .nil
  | _, _, 0, .cons _ g => .cons q g
  | _, _, n + 1, .cons h g => .cons h (FzAll.set q n g)
theorem FzAll.ints : ∀ (ns : List Int), FzAll K H (ns.map V.int) (ns.map PyData.int)
  | [] => .nil
  | n :: r => .cons (.int n) (FzAll.ints r)
end

/-! ### dicts -/
/-- a dict's key: an int, a text -/
def keyD : Key → PyData
  | .inl i => .int i
  | .inr x => .str x
/-- the dict at a holds these pairs: keys ints and texts, or tuples of them -/
inductive DictAt (K : PySem.W.Frag) (H : Hp) (a : Addr) : Kvs → Prop
  | nil : (H a = some (.dK []) ∨ H a = some (.dT [])) → DictAt K H a []
  | k {ks : List Key} {vs : List V} {ds : List PyData} : H a = some (.dK (ks.zip vs)) → ks.length = ds.length → ks ≠ [] → FzAll K H vs ds → DictAt K H a ((ks.map keyD).zip ds)
  | t {ks : List (List Key)} {vs : List V} {ds : List PyData} : H a = some (.dT (ks.zip vs)) → ks.length = ds.length → ks ≠ [] → FzAll K H vs ds → DictAt K H a ((ks.map fun k => PyData.tuple (k.map keyD)).zip ds)
theorem DictAt.mut {K : PySem.W.Frag} {H : Hp} {a : Addr} {kvs : Kvs} (h : DictAt K H a kvs) : Mut (H a) := by
  cases h with
  | nil h => rcases h with h | h <;> (rw [h]; exact trivial)
  | k h => rw [h]; exact trivial
  | t h => rw [h]; exact trivial
theorem DictAt.keep {K : PySem.W.Frag} {H H' : Hp} {a : Addr} {kvs : Kvs} (h : DictAt K H a kvs) (k : Keep H H') (e : H' a = H a) : DictAt K H' a kvs := by
  cases h with
  | nil h => exact .nil (by rw [e]; exact h)
  | k h h2 h3 g => exact .k (by rw [e]; exact h) h2 h3 (g.keep k)
  | t h h2 h3 g => exact .t (by rw [e]; exact h) h2 h3 (g.keep k)

/-! ### sources of draws: how each kind lies -/
/-- kind 0: [cells, a, b], cells a list; kind 1: a dict of three text keys; more kinds by further rules -/
inductive RsAt (H : Hp) : Nat → List Int → Int → Int → V → List Addr → Prop
  | k0 {p c : Addr} {cells : List Int} {a b : Int} : p ≠ c → H p = some (.lst [.ref c, .int a, .int b]) → H c = some (.lst (cells.map V.int)) → RsAt H 0 cells a b (.ref p) [p, c]
  | k1 {p c : Addr} {cells : List Int} {a b : Int} : p ≠ c → H p = some (.dK [(.inr "great", .ref c), (.inr "stirred", .int a), (.inr "turn", .int b)]) → H c = some (.lst (cells.map V.int)) → RsAt H 1 cells a b (.ref p) [p, c]
  | k2 {p c : Addr} {cells : List Int} {a b : Int} : p ≠ c → H p = some (.dK [(.inr "great", .ref c), (.inr "seal", .int a), (.inr "turn", .int b)]) → H c = some (.lst (cells.map V.int)) → RsAt H 2 cells a b (.ref p) [p, c]
  | k3 {p c : Addr} {cells : List Int} {a b : Int} : p ≠ c → H p = some (.dK [(.inr "great", .ref c), (.inr "mixed", .int a), (.inr "turns", .int b)]) → H c = some (.lst (cells.map V.int)) → RsAt H 3 cells a b (.ref p) [p, c]
  | k4 {p c : Addr} {cells : List Int} {a b : Int} : p ≠ c → H p = some (.lst [.ref c, .int a, .int b]) → H c = some (.lst (cells.map V.int)) → RsAt H 4 cells a b (.ref p) [p, c]

theorem RsAt.mut {H : Hp} {k : Nat} {c : List Int} {a b : Int} {v : V} {fp : List Addr} (h : RsAt H k c a b v fp) : ∀ b ∈ fp, Mut (H b) := by
  intro b hb
  cases h <;> (rename_i h1 h2; simp only [List.mem_cons, List.not_mem_nil, or_false] at hb; rcases hb with rfl | rfl <;> first | (rw [h1]; exact trivial) | (rw [h2]; exact trivial))
theorem RsAt.at {H H' : Hp} {k : Nat} {c : List Int} {a b : Int} {v : V} {fp : List Addr} (h : RsAt H k c a b v fp) (e : ∀ b ∈ fp, H' b = H b) : RsAt H' k c a b v fp := by
  cases h with
  | k0 n h1 h2 => exact .k0 n ((e _ (by simp)).trans h1) ((e _ (by simp)).trans h2)
  | k1 n h1 h2 => exact .k1 n ((e _ (by simp)).trans h1) ((e _ (by simp)).trans h2)
  | k2 n h1 h2 => exact .k2 n ((e _ (by simp)).trans h1) ((e _ (by simp)).trans h2)
  | k3 n h1 h2 => exact .k3 n ((e _ (by simp)).trans h1) ((e _ (by simp)).trans h2)
  | k4 n h1 h2 => exact .k4 n ((e _ (by simp)).trans h1) ((e _ (by simp)).trans h2)

/-! ### what a slot holds, by its heap -/
inductive RelM (K : PySem.W.Frag) (H : Hp) : Mv → V → List Addr → Prop
  | fz {d : PyData} {v : V} : Fz K H v d → RelM K H (.fz d) v []
  | ol {xs : List PyData} {a : Addr} {ys : List V} : H a = some (.lst ys) → FzAll K H ys xs → RelM K H (.ol xs) (.ref a) [a]
  | od {kvs : Kvs} {a : Addr} : DictAt K H a kvs → RelM K H (.od kvs) (.ref a) [a]
  | rs {k : Nat} {c : List Int} {a b : Int} {v : V} {fp : List Addr} : RsAt H k c a b v fp → RelM K H (.rs k c a b) v fp
theorem RelM.mut {K : PySem.W.Frag} {H : Hp} {mv : Mv} {v : V} {fp : List Addr} (h : RelM K H mv v fp) : ∀ b ∈ fp, Mut (H b) := by
  cases h with
  | fz h => intro b hb; cases hb
  | ol h g => intro b hb; simp only [List.mem_singleton] at hb; subst hb; rw [h]; exact trivial
  | od h => intro b hb; simp only [List.mem_singleton] at hb; subst hb; exact h.mut
  | rs h => exact h.mut
theorem RelM.keep {K : PySem.W.Frag} {H H' : Hp} {mv : Mv} {v : V} {fp : List Addr} (h : RelM K H mv v fp) (k : Keep H H') (e : ∀ b ∈ fp, H' b = H b) : RelM K H' mv v fp := by
  cases h with
  | fz h => exact .fz (h.keep k)
  | ol h g => exact .ol (by rw [e _ (by simp)]; exact h) (g.keep k)
  | od h => exact .od (h.keep k (e _ (by simp)))
  | rs h => exact .rs (h.at e)

/-! ### the slots -/
abbrev Fp := Nat → List Addr
structure RelS (K : PySem.W.Frag) (H : Hp) (m : Sm) (σ : St) (fp : Fp) : Prop where
  at_ : ∀ i mv, m[i]? = some (some mv) → ∃ v, σ[i]? = some (some v) ∧ RelM K H mv v (fp i)
  emp : ∀ i, (∀ mv, m[i]? ≠ some (some mv)) → fp i = []
  dis : ∀ i j b, b ∈ fp i → b ∈ fp j → i = j
  len : m.length = σ.length
/-- what an evaluation does to the heap: what was not owned stays; what is owned now was owned, or is new; what is tracked stays so -/
structure Step (fp fp' : Fp) (H H' : Hp) : Prop where
  own : ∀ i b, b ∈ fp' i → (∃ j, b ∈ fp j) ∨ H b = none
  keep : ∀ b o, H b = some o → (∀ i, b ∉ fp i) → H' b = some o
  trk : ∀ b, H' b = none → H b = none
theorem Step.refl (fp : Fp) (H : Hp) : Step fp fp H H := ⟨fun i b h => .inl ⟨i, h⟩, fun _ _ h _ => h, fun _ h => h⟩
theorem Step.trans {f0 f1 f2 : Fp} {H0 H1 H2 : Hp} (a : Step f0 f1 H0 H1) (b : Step f1 f2 H1 H2) : Step f0 f2 H0 H2 := by
  refine ⟨fun i c h => ?_, fun c o h n => ?_, fun c h => a.trk c (b.trk c h)⟩
  · rcases b.own i c h with ⟨j, h1⟩ | h1
    · exact a.own j c h1
    · exact .inr (a.trk c h1)
  · refine b.keep c o (a.keep c o h n) fun i hi => ?_
    rcases a.own i c hi with ⟨j, h1⟩ | h1
    · exact n j h1
    · rw [h] at h1; cases h1
theorem Step.same {fp : Fp} {H H' : Hp} (s : Same H H') : Step fp fp H H' :=
  ⟨fun i b h => .inl ⟨i, h⟩, fun b o h _ => s b o h, fun _ h => s.free h⟩
section
variable {K : PySem.W.Frag} {H H' : Hp} {m m' : Sm} {σ : St} {fp fp' : Fp}
theorem RelS.mut (r : RelS K H m σ fp) {i : Nat} {b : Addr} (h : b ∈ fp i) : Mut (H b) := by
  by_cases e : ∃ mv, m[i]? = some (some mv)
  · obtain ⟨mv, e⟩ := e
    obtain ⟨v, _, q⟩ := r.at_ i mv e
    exact q.mut b h
  · rw [r.emp i fun mv q => e ⟨mv, q⟩] at h; cases h
theorem RelS.some_ (r : RelS K H m σ fp) {i : Nat} {b : Addr} (h : b ∈ fp i) : H b ≠ none := fun e => by
  have := r.mut h; rw [e] at this; exact this
theorem RelS.keepOf (r : RelS K H m σ fp) (s : Step fp fp' H H') : Keep H H' := fun b u h n =>
  s.keep b u h fun i hi => n (by have := r.mut hi; rw [h] at this; exact this)
theorem RelS.same (r : RelS K H m σ fp) (s : Same H H') : RelS K H' m σ fp := by
  refine ⟨fun i mv e => ?_, r.emp, r.dis, r.len⟩
  obtain ⟨v, e1, q⟩ := r.at_ i mv e
  refine ⟨v, e1, q.keep (PyE.Same.toKeep s) fun b hb => ?_⟩
  cases q2 : H b with
  | none => exact absurd q2 (r.some_ hb)
  | some o => exact s b o q2
end
end PyE

/-! PyE: what an expression's evaluation says of it -/
namespace PyE
open PySem PySem.Spec PyProof.Rows
open L2

/-- how an exception lies: its class, its own dict -/
abbrev XR := PySem.W.Frag → Hp → Ex → Value → Option Addr → Prop

/-- what an expression gave, by its heap; H0: the heap ahead of it -/
def RelR (K : PySem.W.Frag) (H0 H : Hp) (σ : St) (fp : Fp) : Rv → V → Prop
  | .d x, v => Fz K H v x
  | .s i, v => σ[i]? = some (some v)
  | .nl xs, v => ∃ a ys, v = .ref a ∧ H a = some (.lst ys) ∧ FzAll K H ys xs ∧ H0 a = none ∧ ∀ i, a ∉ fp i
  | .nd kvs, v => ∃ a, v = .ref a ∧ DictAt K H a kvs ∧ H0 a = none ∧ ∀ i, a ∉ fp i
  | .nr k c a b, v => ∃ f, RsAt H k c a b v f ∧ ∀ b ∈ f, H0 b = none ∧ ∀ i, b ∉ fp i

abbrev RelT (α β : Type) := Hp → Hp → St → Fp → α → β → Prop
/-- what is wanted of a result -/
def Post {α β : Type} (xr : XR) (K : PySem.W.Frag) (W : WX) (R : RelT α β) (σ : St) (H : Hp) (fp : Fp) (Q : β → Hp → Prop) : Res α → Prop
  | .ok r m' => ∀ v H' fp', RelS K H' m' σ fp' → Step fp fp' H H' → R H H' σ fp' r v → Q v H'
  | .ex e m' => ∀ c d H' fp', RelS K H' m' σ fp' → Step fp fp' H H' → xr K H' e c d → W c d σ H'
  | .no => False
def tG {α β : Type} (xr : XR) (K : PySem.W.Frag) (W : WX) (R : RelT α β) (f : Ev α) (σ : St) (H : Hp) (Q : β → Hp → Prop) : Prop :=
  ∃ m fp, RelS K H m σ fp ∧ Post xr K W R σ H fp Q (f m)
/-- several values: each is related as the state behind all of them has it -/
def RelRs (K : PySem.W.Frag) (H0 H : Hp) (σ : St) (fp : Fp) : List Rv → List V → Prop
  | [], [] => True
  | r :: rs, v :: vs => RelR K H0 H σ fp r v ∧ RelRs K H0 H σ fp rs vs
  | _, _ => False
abbrev RelD (K : PySem.W.Frag) : RelT PyData V := fun _ H _ _ x v => Fz K H v x
abbrev RelB : RelT Bool Bool := fun _ _ _ _ x b => x = b
abbrev RelU {β : Type} : RelT Unit β := fun _ _ _ _ _ _ => True
/-- readings of expressions, tests, argument lists -/
abbrev tE (xr : XR) (K : PySem.W.Frag) (W : WX) (f : Ev Rv) : TE := fun σ H Q => tG xr K W (RelR K) f σ H Q
abbrev tT (xr : XR) (K : PySem.W.Frag) (W : WX) (f : Ev Bool) : TT := fun σ H Q => tG xr K W RelB f σ H Q
abbrev tA (xr : XR) (K : PySem.W.Frag) (W : WX) (f : Ev (List Rv)) : TA := fun σ H Q => tG xr K W (RelRs K) f σ H Q

def bnd {α γ : Type} (f : Ev α) (g : α → Ev γ) : Ev γ := fun m => (f m).bind g

section
variable {xr : XR} {K : PySem.W.Frag} {W : WX} {α β γ δ : Type}
/-- one evaluation behind another -/
theorem tG_bind {Ra : RelT α β} {Rc : RelT γ δ} {f : Ev α} {g : α → Ev γ} {σ : St} {H : Hp} {Q : δ → Hp → Prop} {Q1 : β → Hp → Prop}
    (h : tG xr K W Rc (bnd f g) σ H Q)
    (h1 : ∀ m fp a m1 v H1 fp1, RelS K H m σ fp → RelS K H1 m1 σ fp1 → Step fp fp1 H H1 → Ra H H1 σ fp1 a v → Post xr K W Rc σ H fp Q (g a m1) → Q1 v H1) : tG xr K W Ra f σ H Q1 := by
  obtain ⟨m, fp, r, p⟩ := h
  refine ⟨m, fp, r, ?_⟩
  unfold bnd at p
  generalize f m = q at p
  cases q with
  | no => exact p
  | ex x m' => exact p
  | ok a m1 => exact fun v H1 fp1 r1 s1 ra => h1 m fp a m1 v H1 fp1 r r1 s1 ra p
/-- the wish of what is behind, from the state that has come -/
theorem Post.from {Rc : RelT γ δ} {σ : St} {H H1 : Hp} {fp fp1 : Fp} {Q : δ → Hp → Prop} {r : Res γ} (p : Post xr K W Rc σ H fp Q r) (s : Step fp fp1 H H1)
    (hR : ∀ H' fp' x v, Rc H1 H' σ fp' x v → Rc H H' σ fp' x v) : Post xr K W Rc σ H1 fp1 Q r := by
  cases r with
  | no => exact p
  | ex e m' => exact fun c d H' fp' rs st x => p c d H' fp' rs (s.trans st) x
  | ok a m' => exact fun v H' fp' rs st x => p v H' fp' rs (s.trans st) (hR _ _ _ _ x)
/-- two evaluations in a row -/
theorem tG_bind2 {α2 β2 : Type} {Ra : RelT α β} {Rb : RelT α2 β2} {Rc : RelT γ δ} {fa : Ev α} {fb : Ev α2} {g : α → α2 → Ev γ} {σ : St} {H : Hp} {Q : δ → Hp → Prop} {Q1 : β → β2 → Hp → Prop}
    (h : tG xr K W Rc (bnd fa fun a => bnd fb (g a)) σ H Q)
    (h2 : ∀ fp fp1 m1 a b m2 v u H1 H2 fp2, Step fp fp1 H H1 → RelS K H1 m1 σ fp1 → Ra H H1 σ fp1 a v → RelS K H2 m2 σ fp2 → Step fp1 fp2 H1 H2 → Rb H1 H2 σ fp2 b u → Post xr K W Rc σ H fp Q (g a b m2) → Q1 v u H2) :
    tG xr K W Ra fa σ H (fun v H1 => tG xr K W Rb fb σ H1 fun u H2 => Q1 v u H2) := by
  refine tG_bind h fun m fp a m1 v H1 fp1 r r1 s1 ra p => ?_
  refine ⟨m1, fp1, r1, ?_⟩
  unfold bnd at p
  generalize fb m1 = q at p
  cases q with
  | no => exact p
  | ex x m' => exact fun c d H' fp' rs st x => p c d H' fp' rs (s1.trans st) x
  | ok b m2 => exact fun u H2 fp2 r2 s2 rb => h2 fp fp1 m1 a b m2 v u H1 H2 fp2 s1 r1 ra r2 s2 rb p
/-- what is behind one evaluation, from there -/
theorem tG_tail {Ra : RelT α β} {Rc : RelT γ δ} {f : Ev α} {g : α → Ev γ} {σ : St} {H : Hp} {Q : δ → Hp → Prop} {Q1 : β → Hp → Prop} (h : tG xr K W Rc (bnd f g) σ H Q)
    (hR : ∀ H H1 H' fp' x v, (∀ b, H1 b = none → H b = none) → Rc H1 H' σ fp' x v → Rc H H' σ fp' x v)
    (h1 : ∀ fp a m1 v H1 fp1, RelS K H1 m1 σ fp1 → Step fp fp1 H H1 → Ra H H1 σ fp1 a v → Post xr K W Rc σ H1 fp1 Q (g a m1) → Q1 v H1) : tG xr K W Ra f σ H Q1 :=
  tG_bind h fun m fp a m1 v H1 fp1 r r1 s1 ra p => h1 fp a m1 v H1 fp1 r1 s1 ra (p.from s1 fun H' fp' x w q => hR _ _ _ _ _ _ s1.trk q)

variable {H H0 H1 H2 H' : Hp} {σ : St} {fp fp1 fp2 : Fp} {x : Rv} {v : V} {m1 m2 : Sm}
theorem RelR.from (r : RelR K H1 H' σ fp x v) (t : ∀ b, H1 b = none → H b = none) : RelR K H H' σ fp x v := by
  cases x with
  | d x => exact r
  | s i => exact r
  | nl xs => obtain ⟨a, ys, e, h, g, n, q⟩ := r; exact ⟨a, ys, e, h, g, t a n, q⟩
  | nd kvs => obtain ⟨a, e, h, n, q⟩ := r; exact ⟨a, e, h, t a n, q⟩
  | nr k c a b => obtain ⟨f, h, q⟩ := r; exact ⟨f, h, fun b hb => ⟨t b (q b hb).1, (q b hb).2⟩⟩
theorem RelRs.from (t : ∀ b, H1 b = none → H b = none) : ∀ {xs : List Rv} {vs : List V}, RelRs K H1 H' σ fp xs vs → RelRs K H H' σ fp xs vs
  | [], [], _ => trivial
  | _ :: _, _ :: _, ⟨h, g⟩ => ⟨RelR.from h t, RelRs.from t g⟩
theorem Step.out (s : Step fp1 fp2 H1 H2) {a : Addr} (h : H1 a ≠ none) (n : ∀ i, a ∉ fp1 i) : ∀ i, a ∉ fp2 i := fun i hi => by
  rcases s.own i a hi with ⟨j, hj⟩ | hn
  · exact n j hj
  · exact h hn
/-- a value that was got stays related behind another evaluation -/
theorem RelR.step (r : RelR K H0 H1 σ fp1 x v) (r0 : RelS K H1 m1 σ fp1) (s : Step fp1 fp2 H1 H2) : RelR K H0 H2 σ fp2 x v := by
  have k := r0.keepOf s
  cases x with
  | d x => exact Fz.keep k r
  | s i => exact r
  | nl xs =>
    obtain ⟨a, ys, rfl, h, g, n, q⟩ := r
    exact ⟨a, ys, rfl, s.keep a _ h q, g.keep k, n, s.out (by rw [h]; exact fun z => nomatch z) q⟩
  | nd kvs =>
    obtain ⟨a, rfl, h, n, q⟩ := r
    have hm := h.mut
    cases e : H1 a with
    | none => rw [e] at hm; exact hm.elim
    | some o => exact ⟨a, rfl, h.keep k ((s.keep a o e q).trans e.symm), n, s.out (by rw [e]; exact fun z => nomatch z) q⟩
  | nr k c a b =>
    obtain ⟨f, h, q⟩ := r
    have hs : ∀ b ∈ f, H1 b ≠ none := fun b hb e => by have := h.mut b hb; rw [e] at this; exact this
    refine ⟨f, h.at fun b hb => ?_, fun b hb => ⟨(q b hb).1, s.out (hs b hb) (q b hb).2⟩⟩
    cases e : H1 b with
    | none => exact absurd e (hs b hb)
    | some o => exact s.keep b o e (q b hb).2
theorem RelRs.step (r0 : RelS K H1 m1 σ fp1) (s : Step fp1 fp2 H1 H2) : ∀ {xs : List Rv} {vs : List V}, RelRs K H0 H1 σ fp1 xs vs → RelRs K H0 H2 σ fp2 xs vs
  | [], [], _ => trivial
  | _ :: _, _ :: _, ⟨h, g⟩ => ⟨h.step r0 s, RelRs.step r0 s g⟩
theorem RelRs.length : ∀ {xs : List Rv} {vs : List V}, RelRs K H0 H1 σ fp1 xs vs → xs.length = vs.length
  | [], [], _ => rfl
  | _ :: _, _ :: _, ⟨_, g⟩ => congrArg (· + 1) (RelRs.length g)
end

/-! ### reading what was got -/
/-- the data that a value is just now -/
def deref (m : Sm) : Rv → Option PyData
  | .d x => some x
  | .nl xs => some (.list xs)
  | .nd kvs => some (.dict kvs)
  | .nr _ _ _ _ => none
  | .s i => match m[i]? with
    | some (some (.fz d)) => some d
    | some (some (.ol xs)) => some (.list xs)
    | some (some (.od kvs)) => some (.dict kvs)
    | _ => none
/-- data as it may be read now: frozen, or a list, a dict that stands so just now -/
inductive Rb (K : PySem.W.Frag) (H : Hp) : V → PyData → Prop
  | fz {v : V} {d : PyData} : Fz K H v d → Rb K H v d
  | lst {a : Addr} {xs : List V} {ds : List PyData} : H a = some (.lst xs) → FzAll K H xs ds → Rb K H (.ref a) (.list ds)
  | dic {a : Addr} {kvs : Kvs} : DictAt K H a kvs → Rb K H (.ref a) (.dict kvs)
inductive RbAll (K : PySem.W.Frag) (H : Hp) : List V → List PyData → Prop
  | nil : RbAll K H [] []
  | cons {v : V} {vs : List V} {d : PyData} {ds : List PyData} : Rb K H v d → RbAll K H vs ds → RbAll K H (v :: vs) (d :: ds)
section
variable {K : PySem.W.Frag} {H0 H : Hp} {m : Sm} {σ : St} {fp : Fp}
theorem RelR.rb (s : RelS K H m σ fp) {x : Rv} {v : V} {d : PyData} (r : RelR K H0 H σ fp x v) (e : deref m x = some d) : Rb K H v d := by
  cases x with
  | d x => cases e; exact .fz r
  | nl xs => cases e; obtain ⟨a, ys, rfl, h, g, _⟩ := r; exact .lst h g
  | nd kvs => cases e; obtain ⟨a, rfl, h, _⟩ := r; exact .dic h
  | nr k c a b => cases e
  | s i =>
    unfold deref at e
    cases q : m[i]? with
    | none => simp only [q] at e; cases e
    | some o =>
      cases o with
      | none => simp only [q] at e; cases e
      | some mv =>
        obtain ⟨w, e1, rm⟩ := s.at_ i mv q
        have r' : σ[i]? = some (some v) := r
        rw [r'] at e1; cases e1
        simp only [q] at e
        generalize fp i = f0 at rm
        cases rm with
        | fz h => cases e; exact .fz h
        | ol h g => cases e; exact .lst h g
        | od h => cases e; exact .dic h
        | rs h => cases e
def derefs (m : Sm) : List Rv → Option (List PyData)
  | [] => some []
  | r :: rs => match deref m r, derefs m rs with
    | some d, some ds => some (d :: ds)
    | _, _ => none
theorem RelRs.rb (s : RelS K H m σ fp) : ∀ {xs : List Rv} {vs : List V} {ds : List PyData}, RelRs K H0 H σ fp xs vs → derefs m xs = some ds → RbAll K H vs ds
  | [], [], _, _, e => by cases e; exact .nil
  | x :: xs, v :: vs, ds, ⟨h, g⟩, e => by
    unfold derefs at e
    cases q1 : deref m x with
    | none => simp only [q1] at e; cases e
    | some d =>
      cases q2 : derefs m xs with
      | none => simp only [q1, q2] at e; cases e
      | some es =>
        simp only [q1, q2] at e
        cases e
        exact .cons (h.rb s q1) (RelRs.rb s g q2)
end
end PyE

/-! PyE: freezing; operators; argument lists -/
namespace PyE
open PySem PySem.Spec PyProof.Rows
open L2

abbrev tD (xr : XR) (K : PySem.W.Frag) (W : WX) (f : Ev PyData) : TE := fun σ H Q => tG xr K W (RelD K) f σ H Q
/-- a value is frozen -/
def frz (r : Rv) : Ev PyData := fun m => match r with
  | .d x => .ok x m
  | .nl xs => .ok (.list xs) m
  | .nd _ => .no
  | .nr _ _ _ _ => .no
  | .s i => match m[i]? with
    | some (some (.fz d)) => .ok d m
    | some (some (.ol xs)) => .ok (.list xs) (m.set i (some (.fz (.list xs))))
    | _ => .no
def frzE (f : Ev Rv) : Ev PyData := bnd f frz
def dE (f : Ev PyData) : Ev Rv := bnd f fun x m => .ok (.d x) m

section
variable {X : Cx} {pins : List (Addr × Obj)} {σ : St} {H : Hp} {s : Shared}
theorem freeze {a : Addr} {xs : List V} (I : Inv X pins σ H s) (h : H a = some (.lst xs)) : ∃ o, Inv X pins σ (upd H a (.frz o (.lst xs))) s := by
  have q := I.hok a _ h
  obtain ⟨z, its, n, r, e⟩ := id q
  refine ⟨{ cls := .type "list", data := .seq its.toArray n }, I.un (h' := s.heap) (t' := s.toks) ⟨fun b o e _ _ _ => e, fun b o e _ _ _ => ⟨o.slots, e⟩, fun b o e hn _ => ?_, fun b o e _ => ⟨o, e⟩, fun b ys hb => ?_, fun b o u hb => ?_, fun b ps hb => ⟨#[], ?_⟩⟩ fun b u hb => ?_⟩
  · rw [upd_ne (fun z => by subst z; rw [h] at hn; cases hn)]; exact hn
  · rw [upd_ne (ne_of hb h (by intro z; cases z))]; exact hb
  · rw [upd_ne (ne_of hb h (by intro z; cases z))]; exact hb
  · rw [upd_ne (ne_of hb h (by intro z; cases z)), hb]; simp
  · by_cases hba : b = a
    · subst hba
      rw [upd_same] at hb; cases hb
      refine ⟨e, ?_⟩
      exact (show ObjOk X.prog X.w H s.heap b (.lst xs) from q).stay (fun c u _ g => g) (fun c g => by rw [upd_ne (ne_of g h (by intro z; cases z))]; exact g) fun c ys g => by rw [upd_ne (ne_of g h (by intro z; cases z))]; exact g
    · rw [upd_ne hba] at hb
      exact (I.hok b u hb).stay (fun c u _ g => g) (fun c g => by rw [upd_ne (ne_of g h (by intro z; cases z))]; exact g) fun c ys g => by rw [upd_ne (ne_of g h (by intro z; cases z))]; exact g
end
theorem keep_upd {H : Hp} {a : Addr} {o : HO} (m : Mut (H a)) : Keep H (upd H a o) := fun b u h n => by
  rw [upd_ne (fun z => by subst z; rw [h] at m; exact n m)]; exact h
theorem upd_trk {H : Hp} {a b : Addr} {o : HO} (h : upd H a o b = none) : H b = none := by
  by_cases e : b = a
  · subst e; rw [upd_same] at h; cases h
  · rw [upd_ne e] at h; exact h
theorem nth_lt {α : Type} {m : List α} {i : Nat} {x : α} (e : m[i]? = some x) : i < m.length := (List.getElem?_eq_some_iff.mp e).1
section
variable {K : PySem.W.Frag} {H : Hp} {m : Sm} {σ : St} {fp : Fp}
/-- one slot holds another thing now -/
theorem RelS.put {H' : Hp} {i : Nat} {mv : Mv} {v : V} {f : List Addr} (r : RelS K H m σ fp) (hi : i < m.length) (k : Keep H H') (e : ∀ j, j ≠ i → ∀ b ∈ fp j, H' b = H b) (hv : σ[i]? = some (some v)) (rm : RelM K H' mv v f)
    (df : ∀ b ∈ f, ∀ j, j ≠ i → b ∉ fp j) : RelS K H' (m.set i (some mv)) σ (fun j => if j = i then f else fp j) := by
  refine ⟨fun j mv' q => ?_, fun j hj => ?_, fun j l b hb hc => ?_, by rw [List.length_set]; exact r.len⟩
  · by_cases hji : j = i
    · subst hji
      rw [List.getElem?_set_self hi] at q; cases q
      exact ⟨v, hv, by rw [if_pos rfl]; exact rm⟩
    · rw [List.getElem?_set_ne (Ne.symm hji)] at q
      obtain ⟨w, e1, q1⟩ := r.at_ j mv' q
      exact ⟨w, e1, by rw [if_neg hji]; exact q1.keep k (e j hji)⟩
  · by_cases hji : j = i
    · subst hji
      exact absurd (List.getElem?_set_self hi) (hj mv)
    · show (if j = i then f else fp j) = []
      rw [if_neg hji]
      exact r.emp j fun mv' q => hj mv' (by rw [List.getElem?_set_ne (Ne.symm hji)]; exact q)
  · have hb : b ∈ (if j = i then f else fp j) := hb
    have hc : b ∈ (if l = i then f else fp l) := hc
    by_cases h1 : j = i
    · by_cases h2 : l = i
      · rw [h1, h2]
      · rw [if_pos h1] at hb; rw [if_neg h2] at hc
        exact absurd hc (df b hb l h2)
    · by_cases h2 : l = i
      · rw [if_neg h1] at hb; rw [if_pos h2] at hc
        exact absurd hb (df b hc j h1)
      · rw [if_neg h1] at hb; rw [if_neg h2] at hc
        exact r.dis j l b hb hc
end
section
variable {xr : XR} {W : WX} {X : Cx} {e : Expr} {f : Ev Rv}
theorem pe_imp {t t' : TE} (h : PE X e t) (i : ∀ σ H Q, t' σ H Q → t σ H Q) : PE X e t' := ⟨fun pins s σ H Q I q => h.run pins s σ H Q I (i σ H Q q)⟩
/-- a value is frozen -/
theorem sd_frz (h : PE X e (tE xr X.K W f)) : PE X e (tD xr X.K W (frzE f)) := by
  refine ⟨fun pins s σ H Q I q => ?_⟩
  have q1 : tE xr X.K W f σ H (fun v H1 => ∃ m fp r m1 fp1, RelS X.K H m σ fp ∧ RelS X.K H1 m1 σ fp1 ∧ Step fp fp1 H H1 ∧ RelR X.K H H1 σ fp1 r v ∧ Post xr X.K W (RelD X.K) σ H fp Q (frz r m1)) :=
    tG_bind q fun m fp a m1 v H1 fp1 r r1 s1 ra p => ⟨m, fp, a, m1, fp1, r, r1, s1, ra, p⟩
  refine thn (h.run pins s σ H _ I q1) fun u s' ⟨v, H1, I1, rv, m, fp, r, m1, fp1, r0, r1, s1, rr, p⟩ => ?_
  cases r with
  | d x => exact ⟨v, H1, I1, rv, p v H1 fp1 r1 s1 rr⟩
  | nd kvs => exact p.elim
  | nr k c a b => exact p.elim
  | nl xs =>
    obtain ⟨a, ys, rfl, ha, g, n, nf⟩ := rr
    obtain ⟨o, I2⟩ := freeze I1 ha
    have k : Keep H1 (upd H1 a (.frz o (.lst ys))) := keep_upd (by rw [ha]; exact trivial)
    refine ⟨.ref a, _, I2, rv, p _ _ fp1 ?_ ?_ (.lst (.inl ⟨o, upd_same⟩) (g.keep k))⟩
    · refine ⟨fun i mv e => ?_, r1.emp, r1.dis, r1.len⟩
      obtain ⟨w, e1, q⟩ := r1.at_ i mv e
      exact ⟨w, e1, q.keep k fun b hb => upd_ne fun z => nf i (by rw [← z]; exact hb)⟩
    · refine ⟨s1.own, fun b u hb hn => ?_, fun b hb => s1.trk b (upd_trk hb)⟩
      rw [upd_ne (ne_of_none hb n)]; exact s1.keep b u hb hn
  | s i =>
    have rr : σ[i]? = some (some v) := rr
    unfold frz at p
    cases e1 : m1[i]? with
    | none => simp only [e1] at p; exact p.elim
    | some o =>
      cases o with
      | none => simp only [e1] at p; exact p.elim
      | some mv =>
        simp only [e1] at p
        obtain ⟨w, e2, rm⟩ := r1.at_ i mv e1
        rw [rr] at e2; cases e2
        generalize ef : fp1 i = f0 at rm
        cases rm with
        | fz hz => exact ⟨v, H1, I1, rv, p v H1 fp1 r1 s1 hz⟩
        | od hz => exact p.elim
        | rs hz => exact p.elim
        | @ol xs a ys ha g =>
          obtain ⟨o, I2⟩ := freeze I1 ha
          have k : Keep H1 (upd H1 a (.frz o (.lst ys))) := keep_upd (by rw [ha]; exact trivial)
          have z : Fz X.K (upd H1 a (.frz o (.lst ys))) (.ref a) (.list xs) := .lst (.inl ⟨o, upd_same⟩) (g.keep k)
          have ha1 : a ∈ fp1 i := by rw [ef]; simp
          refine ⟨.ref a, _, I2, rv, p _ _ _ (r1.put (nth_lt e1) k (fun j hj b hb => upd_ne fun q => hj (r1.dis j i a (by rw [← q]; exact hb) ha1)) rr (.fz z) fun b hb => by cases hb) ?_ z⟩
          refine s1.trans ⟨fun j b hb => ?_, fun b u hb hn => ?_, fun b hb => upd_trk hb⟩
          · by_cases hj : j = i
            · simp only [if_pos hj] at hb; cases hb
            · simp only [if_neg hj] at hb; exact .inl ⟨j, hb⟩
          · rw [upd_ne (fun q => hn i (by rw [q]; exact ha1))]; exact hb
/-- frozen data, as a value -/
theorem sd_d {f : Ev PyData} (h : PE X e (tD xr X.K W f)) : PE X e (tE xr X.K W (dE f)) := by
  refine pe_imp h fun σ H Q q => tG_bind q fun m fp a m1 v H1 fp1 r r1 s1 ra p => ?_
  exact p v H1 fp1 r1 s1 ra
end

/-! ### operators -/
/-- what an operation gives: the heap ahead, behind -/
def NewR (K : PySem.W.Frag) (H H' : Hp) : Rv → V → Prop
  | .d x, v => Fz K H' v x
  | .s _, _ => False
  | .nl xs, v => ∃ a ys, v = .ref a ∧ H' a = some (.lst ys) ∧ FzAll K H' ys xs ∧ H a = none
  | .nd kvs, v => ∃ a, v = .ref a ∧ DictAt K H' a kvs ∧ H a = none
  | .nr _ _ _ _, _ => False
def Op2 (K : PySem.W.Frag) (r : R2) (g : PyData → PyData → Option Rv) : Prop :=
  ∀ (H : Hp) (x y : V) (a b : PyData) (z : Rv) (Q : VK), Rb K H x a → Rb K H y b → g a b = some z → (∀ v H', Same H H' → NewR K H H' z v → Q v H') → r x y H Q
def Op1 (K : PySem.W.Frag) (r : V → Hp → VK → Prop) (g : PyData → Option Rv) : Prop :=
  ∀ (H : Hp) (x : V) (a : PyData) (z : Rv) (Q : VK), Rb K H x a → g a = some z → (∀ v H', Same H H' → NewR K H H' z v → Q v H') → r x H Q
def OpN (K : PySem.W.Frag) (r : List V → Hp → VK → Prop) (g : List PyData → Option Rv) : Prop :=
  ∀ (H : Hp) (xs : List V) (as : List PyData) (z : Rv) (Q : VK), RbAll K H xs as → g as = some z → (∀ v H', Same H H' → NewR K H H' z v → Q v H') → r xs H Q
def fin1 (o : Option Rv) : Ev Rv := fun m => match o with
  | some r => .ok r m
  | none => .no
def op2E (g : PyData → PyData → Option Rv) (fa fb : Ev Rv) : Ev Rv := bnd fa fun x => bnd fb fun y m => match deref m x, deref m y with
  | some a, some b => fin1 (g a b) m
  | _, _ => .no
def op1E (g : PyData → Option Rv) (fa : Ev Rv) : Ev Rv := bnd fa fun x m => match deref m x with
  | some a => fin1 (g a) m
  | _ => .no
section
variable {xr : XR} {K : PySem.W.Frag} {W : WX} {σ : St} {H H1 : Hp} {fp fp1 : Fp} {m1 : Sm} {Q : VK}
/-- an operation's end -/
theorem fin_ok {o : Option Rv} (s1 : Step fp fp1 H H1) (r1 : RelS K H1 m1 σ fp1) (p : Post xr K W (RelR K) σ H fp Q (fin1 o m1)) : ∃ z, o = some z ∧ ∀ v H', Same H1 H' → NewR K H1 H' z v → Q v H' := by
  cases o with
  | none => exact p.elim
  | some z =>
    refine ⟨z, rfl, fun v H' sm n => p v H' fp1 (r1.same sm) (s1.trans (.same sm)) ?_⟩
    have out : ∀ a, H1 a = none → ∀ i, a ∉ fp1 i := fun a e i hi => r1.some_ hi e
    cases z with
    | d x => exact n
    | s i => exact n.elim
    | nl xs => obtain ⟨a, ys, e, h, g, hn⟩ := n; exact ⟨a, ys, e, h, g, s1.trk a hn, out a hn⟩
    | nd kvs => obtain ⟨a, e, h, hn⟩ := n; exact ⟨a, e, h, s1.trk a hn, out a hn⟩
    | nr k c a b => exact n.elim
theorem op2_ok {r : R2} {g : PyData → PyData → Option Rv} {fa fb : Ev Rv} (o : Op2 K r g) (h : tE xr K W (op2E g fa fb) σ H Q) : tOp r (tE xr K W fa) (tE xr K W fb) σ H Q := by
  refine tG_bind2 (Rc := RelR K) h fun fp fp1 m1 a b m2 v u H1 H2 fp2 s1 r1 ra r2 s2 rb p => ?_
  have ra2 := ra.step r1 s2
  cases e1 : deref m2 a with
  | none => simp only [e1] at p; exact p.elim
  | some x =>
    cases e2 : deref m2 b with
    | none => simp only [e1, e2] at p; exact p.elim
    | some y =>
      simp only [e1, e2] at p
      obtain ⟨z, hz, q⟩ := fin_ok (s1.trans s2) r2 p
      exact o H2 v u x y z Q (ra2.rb r2 e1) (rb.rb r2 e2) hz q
theorem op1_ok {r : V → Hp → VK → Prop} {g : PyData → Option Rv} {fa : Ev Rv} (o : Op1 K r g) (h : tE xr K W (op1E g fa) σ H Q) : tUn r (tE xr K W fa) σ H Q := by
  refine tG_bind (Rc := RelR K) h fun m fp a m1 v H1 fp1 r r1 s1 ra p => ?_
  cases e1 : deref m1 a with
  | none => simp only [e1] at p; exact p.elim
  | some x =>
    simp only [e1] at p
    obtain ⟨z, hz, q⟩ := fin_ok s1 r1 p
    exact o H1 v x z Q (ra.rb r1 e1) hz q
end
section
variable {xr : XR} {W : WX} {X : Cx} {a b : Expr} {fa fb : Ev Rv} {pos : Pos}
theorem sd_bin {op : Operator} {r : R2} {g : PyData → PyData → Option Rv} (o : OpR X (binaryOp op) r) (og : Op2 X.K r g) (ha : PE X a (tE xr X.K W fa)) (hb : PE X b (tE xr X.K W fb)) : PE X (.BinOp a op b pos) (tE xr X.K W (op2E g fa fb)) :=
  pe_imp (pe_op o ha hb) fun σ H Q h => op2_ok og h
theorem sd_cmp {op : CmpOp} {r : R2} {g : PyData → PyData → Option Rv} (o : OpR X (compareOp op) r) (og : Op2 X.K r g) (ha : PE X a (tE xr X.K W fa)) (hb : PE X b (tE xr X.K W fb)) (hm : behindInMarks op b = false) :
    PE X (.Compare a [op] [b] pos) (tE xr X.K W (op2E g fa fb)) := pe_imp (pe_cmpR o ha hb hm) fun σ H Q h => op2_ok og h
theorem sd_un {op : UnaryOp} {r : V → Hp → VK → Prop} {g : PyData → Option Rv} (o : UnR X (unaryOp op) r) (og : Op1 X.K r g) (ha : PE X a (tE xr X.K W fa)) : PE X (.UnaryOp op a pos) (tE xr X.K W (op1E g fa)) :=
  pe_imp (pe_un o ha) fun σ H Q h => op1_ok og h
end
end PyE

/-! PyE: names, constants, tests, displays, calls of what is built in, subscripts -/
namespace PyE
open PySem PySem.Spec PyProof.Rows
open L2

def slotE (i : Nat) : Ev Rv := fun m => match m[i]? with
  | some (some (.fz d)) => .ok (.d d) m
  | some (some _) => .ok (.s i) m
  | _ => .no
def dataE (d : PyData) : Ev Rv := fun m => .ok (.d d) m
def truth : PyData → Option Bool
  | .none => some false
  | .bool b => some b
  | .int i => some (i != 0)
  | .str x => if x.length ≤ sizeLine then some ((x.length : Int) != 0) else none
  | .list xs => some !xs.isEmpty
  | .tuple xs => some !xs.isEmpty
  | .dict _ => none
def testE (f : Ev Rv) : Ev Bool := bnd f fun x m => match deref m x with
  | some d => match truth d with
    | some b => .ok b m
    | none => .no
  | none => .no
/-- a value that is a bool, as a test -/
def boolE (f : Ev Rv) : Ev Bool := bnd f fun x m => match x with
  | .d (.bool b) => .ok b m
  | _ => .no
def andT (f g : Ev Bool) : Ev Bool := bnd f fun b => if b = true then g else fun m => .ok false m
def orT (f g : Ev Bool) : Ev Bool := bnd f fun b => if b = true then fun m => .ok true m else g
def notT (f : Ev Bool) : Ev Bool := bnd f fun b m => .ok (!b) m
def andE (f g : Ev Rv) : Ev Rv := bnd f fun x => match x with
  | .d (.bool b) => if b = true then g else fun m => .ok (.d (.bool false)) m
  | _ => fun _ => .no
def orE (f g : Ev Rv) : Ev Rv := bnd f fun x => match x with
  | .d (.bool b) => if b = true then fun m => .ok (.d (.bool true)) m else g
  | _ => fun _ => .no
def notE (f : Ev Rv) : Ev Rv := bnd f fun x m => match x with
  | .d (.bool b) => .ok (.d (.bool !b)) m
  | _ => .no
def ifE (c : Ev Bool) (f g : Ev Rv) : Ev Rv := bnd c fun b => if b = true then f else g
def argsE : List (Ev Rv) → Ev (List Rv)
  | [] => fun m => .ok [] m
  | f :: fs => bnd f fun r => bnd (argsE fs) fun rs m => .ok (r :: rs) m
def argsD : List (Ev Rv) → Ev (List PyData)
  | [] => fun m => .ok [] m
  | f :: fs => bnd (frzE f) fun r => bnd (argsD fs) fun rs m => .ok (r :: rs) m
def tupE (fs : List (Ev Rv)) : Ev Rv := bnd (argsD fs) fun ds m => .ok (.d (.tuple ds)) m
def lstE (fs : List (Ev Rv)) : Ev Rv := bnd (argsD fs) fun ds m => .ok (.nl ds) m
def opNE (g : List PyData → Option Rv) (fs : List (Ev Rv)) : Ev Rv := bnd (argsE fs) fun rs m => match derefs m rs with
  | some ds => fin1 (g ds) m
  | none => .no

section
variable {xr : XR} {W : WX} {X : Cx} {a b c e : Expr} {es : List Expr} {f g fa fb : Ev Rv} {fc ft : Ev Bool} {fs : List (Ev Rv)} {pos p : Pos} {x : Str}
/-- the name that stands in slot i -/
theorem sd_name (i : Nat) {pos : Pos} (hN : X.N[i]? = some x) (hv : Vis X.env.scope x) (hd : (x == ("__debug__" : Str)) = false := by decide) (hcd : (x == ("__classdict__" : Str)) = false := by decide) : PE X (.Name x pos) (tE xr X.K W (slotE i)) := by
  refine pe_imp (pe_var hN hv hd hcd) fun σ H Q h => ?_
  obtain ⟨m, fp, r, p⟩ := h
  unfold slotE at p
  cases e1 : m[i]? with
  | none => simp only [e1] at p; exact p.elim
  | some o =>
    cases o with
    | none => simp only [e1] at p; exact p.elim
    | some mv =>
      obtain ⟨v, e2, rm⟩ := r.at_ i mv e1
      refine ⟨v, e2, ?_⟩
      simp only [e1] at p
      cases mv with
      | fz d =>
        generalize fp i = f0 at rm
        cases rm with
        | fz z => exact p v H fp r (.refl _ _) z
      | ol xs => exact p v H fp r (.refl _ _) e2
      | od kvs => exact p v H fp r (.refl _ _) e2
      | rs k c a b => exact p v H fp r (.refl _ _) e2
theorem of_const {v : V} {d : PyData} (hz : ∀ K H, Fz K H v d) (h : PE X e (tC v)) : PE X e (tE xr X.K W (dataE d)) :=
  pe_imp h fun σ H Q ⟨m, fp, r, p⟩ => p v H fp r (.refl _ _) (hz _ _)
theorem sd_int {i : Int} {j : Nat} : PE X (.Constant (.int i) j pos) (tE xr X.K W (dataE (.int i))) := of_const (fun _ _ => .int i) pe_int
theorem sd_bl {i : Bool} {j : Nat} : PE X (.Constant (.bool i) j pos) (tE xr X.K W (dataE (.bool i))) := of_const (fun _ _ => .bl i) pe_bl
theorem sd_non {j : Nat} : PE X (.Constant .none j pos) (tE xr X.K W (dataE .none)) := of_const (fun _ _ => .non) pe_non
theorem sd_str {z : Str} {j : Nat} : PE X (.Constant (.str z) j pos) (tE xr X.K W (dataE (.str z))) := of_const (fun _ _ => .str z) pe_str
/-- a module's int -/
theorem sd_gint {i : Int} (hg : Gl X x) (hm : ∃ t, X.mg x = some (.int i t)) (hd : (x == ("__debug__" : Str)) = false := by decide) : PE X (.Name x pos) (tE xr X.K W (dataE (.int i))) := by
  obtain ⟨t, hm⟩ := hm
  exact of_const (fun _ _ => .int i) (pe_glob hg hm ⟨t, rfl⟩ hd)
theorem sd_gstr {z : Str} (hg : Gl X x) (hm : ∃ t, X.mg x = some (.str z t)) (hd : (x == ("__debug__" : Str)) = false := by decide) : PE X (.Name x pos) (tE xr X.K W (dataE (.str z))) := by
  obtain ⟨t, hm⟩ := hm
  exact of_const (fun _ _ => .str z) (pe_glob hg hm ⟨t, rfl⟩ hd)

/-! ### tests -/
theorem truth_ok {K : PySem.W.Frag} {H : Hp} {v : V} {d : PyData} {k : Bool} (h : Rb K H v d) (e : truth d = some k) : TruV K v H k := by
  cases h with
  | fz h =>
    cases h with
    | non => cases e; rfl
    | bl b => cases e; rfl
    | int i => cases e; rfl
    | str y =>
      unfold truth at e
      simp only at e
      split at e
      · rename_i hy; cases e; exact ⟨hy, rfl⟩
      · cases e
    | lst h g =>
      cases e
      exact .inl ⟨_, h.seq, by cases g <;> rfl⟩
    | tup h g =>
      cases e
      exact .inr (.inl ⟨_, h, by cases g <;> rfl⟩)
  | lst h g => cases e; exact .inl ⟨_, .of h, by cases g <;> rfl⟩
  | dic h => cases e
theorem pt_imp {t t' : TT} (h : PT X e t) (i : ∀ σ H Q, t' σ H Q → t σ H Q) : PT X e t' := ⟨fun pins s σ H Q I q => h.run pins s σ H Q I (i σ H Q q)⟩
theorem sd_test (ha : PE X a (tE xr X.K W fa)) (he : ∀ whole, isTrue a X.env whole = (do let v ← whole; standAt a.pos; holding [v] (truthy v)) := by intro _; rfl) : PT X a (tT xr X.K W (testE fa)) := by
  refine pt_imp (pt_truth ha he) fun σ H Q h => tG_bind (Rc := RelB) h fun m fp a m1 v H1 fp1 r r1 s1 ra p => ?_
  cases e1 : deref m1 a with
  | none => simp only [e1] at p; exact p.elim
  | some d =>
    cases e2 : truth d with
    | none => simp only [e1, e2] at p; exact p.elim
    | some k =>
      simp only [e1, e2] at p
      exact ⟨k, truth_ok (ra.rb r1 e1) e2, p k H1 fp1 r1 s1 rfl⟩
theorem fz_bool {K : PySem.W.Frag} {H : Hp} {v : V} {b : Bool} (h : Fz K H v (.bool b)) : v = .bl b := by cases h; rfl
theorem boolE_ok {σ : St} {H : Hp} {Q : Bool → Hp → Prop} (h : tT xr X.K W (boolE fa) σ H Q) : tE xr X.K W fa σ H (fun x H' => ∃ k, x = .bl k ∧ Q k H') := by
  refine tG_bind (Rc := RelB) h fun m fp a m1 v H1 fp1 r r1 s1 ra p => ?_
  cases a with
  | d d =>
    cases d with
    | bool k => exact ⟨k, fz_bool ra, p k H1 fp1 r1 s1 rfl⟩
    | _ => exact p.elim
  | _ => exact p.elim
theorem sd_cmpT {op : CmpOp} {r : R2} {g : PyData → PyData → Option Rv} (o : OpR X (compareOp op) r) (og : Op2 X.K r g) (ha : PE X a (tE xr X.K W fa)) (hb : PE X b (tE xr X.K W fb)) (hm : behindInMarks op b = false) :
    PT X (.Compare a [op] [b] pos) (tT xr X.K W (boolE (op2E g fa fb))) := pt_imp (pt_cmpR o ha hb hm) fun σ H Q h => op2_ok og (boolE_ok h)
theorem andT_ok {t : TT} {σ : St} {H : Hp} {Q : Bool → Hp → Prop} {fd : Ev Bool} (ht : ∀ σ H Q, tT xr X.K W fd σ H Q → t σ H Q) (h : tT xr X.K W (andT fc fd) σ H Q) : tAnd (tT xr X.K W fc) t σ H Q := by
  refine tG_tail (Rc := RelB) h (fun _ _ _ _ _ _ _ q => q) fun fp a m1 v H1 fp1 r1 s1 ra p => ?_
  cases (show a = v from ra)
  cases a with
  | true => exact iteT (ht _ _ _ ⟨m1, fp1, r1, by simpa using p⟩)
  | false => exact iteF (p false H1 fp1 r1 (.refl _ _) rfl)
theorem orT_ok {t : TT} {σ : St} {H : Hp} {Q : Bool → Hp → Prop} {fd : Ev Bool} (ht : ∀ σ H Q, tT xr X.K W fd σ H Q → t σ H Q) (h : tT xr X.K W (orT fc fd) σ H Q) : tOr (tT xr X.K W fc) t σ H Q := by
  refine tG_tail (Rc := RelB) h (fun _ _ _ _ _ _ _ q => q) fun fp a m1 v H1 fp1 r1 s1 ra p => ?_
  cases (show a = v from ra)
  cases a with
  | true => exact iteT (p true H1 fp1 r1 (.refl _ _) rfl)
  | false => exact iteF (ht _ _ _ ⟨m1, fp1, r1, by simpa using p⟩)
theorem pw_imp {t t' : TT} (h : PW X e t) (i : ∀ σ H Q, t' σ H Q → t σ H Q) : PW X e t' := ⟨fun wh pins s σ H Q I q => h.run wh pins s σ H Q I (i σ H Q q)⟩
variable {rest : List Expr}
theorem sw_and1 (ha : PT X a (tT xr X.K W fc)) : PW X (.BoolOp .And [a] pos) (tT xr X.K W fc) := pw_and1 ha
theorem sw_or1 (ha : PT X a (tT xr X.K W fc)) : PW X (.BoolOp .Or [a] pos) (tT xr X.K W fc) := pw_or1 ha
theorem sw_and (ha : PT X a (tT xr X.K W fc)) (hb : PW X (.BoolOp .And (b :: rest) pos) (tT xr X.K W ft)) : PW X (.BoolOp .And (a :: b :: rest) pos) (tT xr X.K W (andT fc ft)) :=
  pw_imp (pw_and ha hb) fun _ _ _ h => andT_ok (fun _ _ _ q => q) h
theorem sw_or (ha : PT X a (tT xr X.K W fc)) (hb : PW X (.BoolOp .Or (b :: rest) pos) (tT xr X.K W ft)) : PW X (.BoolOp .Or (a :: b :: rest) pos) (tT xr X.K W (orT fc ft)) :=
  pw_imp (pw_or ha hb) fun _ _ _ h => orT_ok (fun _ _ _ q => q) h
theorem sd_notT (ha : PT X a (tT xr X.K W fc)) : PT X (.UnaryOp .Not a pos) (tT xr X.K W (notT fc)) := by
  refine pt_imp (pt_not ha) fun σ H Q h => tG_bind (Rc := RelB) h fun m fp a m1 v H1 fp1 r r1 s1 ra p => ?_
  cases (show a = v from ra)
  exact p _ H1 fp1 r1 s1 rfl
/-! ### and, or, not as values of bools -/
theorem sd_one {op : BoolOp} (ha : PE X a (tE xr X.K W fa)) : PE X (.BoolOp op [a] pos) (tE xr X.K W fa) := pe_one ha
theorem sd_and (ha : PE X a (tE xr X.K W fa)) (hb : PE X (.BoolOp .And (b :: rest) pos) (tE xr X.K W fb)) : PE X (.BoolOp .And (a :: b :: rest) pos) (tE xr X.K W (andE fa fb)) := by
  refine pe_imp (pe_and ha hb) fun σ H Q h => tG_tail (Rc := RelR X.K) h (fun _ _ _ _ _ _ t q => q.from t) fun fp a m1 v H1 fp1 r1 s1 ra p => ?_
  cases a with
  | d d =>
    cases d with
    | bool k =>
      refine ⟨k, fz_bool ra, ?_⟩
      cases k with
      | true => exact iteT ⟨m1, fp1, r1, by simpa using p⟩
      | false => exact iteF (p _ H1 fp1 r1 (.refl _ _) (.bl false))
    | _ => exact p.elim
  | _ => exact p.elim
theorem sd_or (ha : PE X a (tE xr X.K W fa)) (hb : PE X (.BoolOp .Or (b :: rest) pos) (tE xr X.K W fb)) : PE X (.BoolOp .Or (a :: b :: rest) pos) (tE xr X.K W (orE fa fb)) := by
  refine pe_imp (pe_or ha hb) fun σ H Q h => tG_tail (Rc := RelR X.K) h (fun _ _ _ _ _ _ t q => q.from t) fun fp a m1 v H1 fp1 r1 s1 ra p => ?_
  cases a with
  | d d =>
    cases d with
    | bool k =>
      refine ⟨k, fz_bool ra, ?_⟩
      cases k with
      | true => exact iteT (p _ H1 fp1 r1 (.refl _ _) (.bl true))
      | false => exact iteF ⟨m1, fp1, r1, by simpa using p⟩
    | _ => exact p.elim
  | _ => exact p.elim
theorem sd_not (ha : PE X a (tE xr X.K W fa)) : PE X (.UnaryOp .Not a pos) (tE xr X.K W (notE fa)) := by
  refine pe_imp (pe_not ha) fun σ H Q h => tG_bind (Rc := RelR X.K) h fun m fp a m1 v H1 fp1 r r1 s1 ra p => ?_
  cases a with
  | d d =>
    cases d with
    | bool k => exact ⟨k, fz_bool ra, p _ H1 fp1 r1 s1 (.bl _)⟩
    | _ => exact p.elim
  | _ => exact p.elim
theorem sd_if (hc : PT X c (tT xr X.K W fc)) (ha : PE X a (tE xr X.K W fa)) (hb : PE X b (tE xr X.K W fb)) : PE X (.IfExp c a b pos) (tE xr X.K W (ifE fc fa fb)) := by
  refine pe_imp (pe_ifExp hc ha hb) fun σ H Q h => tG_tail (Rc := RelR X.K) h (fun _ _ _ _ _ _ t q => q.from t) fun fp a m1 v H1 fp1 r1 s1 ra p => ?_
  cases (show a = v from ra)
  cases a with
  | true => exact iteT ⟨m1, fp1, r1, by simpa using p⟩
  | false => exact iteF ⟨m1, fp1, r1, by simpa using p⟩

/-! ### several values -/
theorem pa_imp {t t' : TA} (h : PA X es t) (i : ∀ σ H Q, t' σ H Q → t σ H Q) : PA X es t' := ⟨fun pos pins s σ H Q I q => h.run pos pins s σ H Q I (i σ H Q q)⟩
theorem sa_nil : PA X [] (tA xr X.K W (argsE [])) := pa_imp pa_nil fun σ H Q ⟨m, fp, r, p⟩ => p [] H fp r (.refl _ _) trivial
theorem sa_cons (ha : PE X e (tE xr X.K W f)) (hr : PA X es (tA xr X.K W (argsE fs))) (hs : starEach (e :: es) X.env = (false, eval e X.env) :: starEach es X.env := by rfl) : PA X (e :: es) (tA xr X.K W (argsE (f :: fs))) := by
  refine pa_imp (pa_cons ha hr hs) fun σ H Q h => tG_bind2 (Rb := RelRs X.K) (Rc := RelRs X.K) h fun fp fp1 m1 a bs m2 v us H1 H2 fp2 s1 r1 ra r2 s2 rb p => ?_
  exact p _ H2 fp2 r2 (s1.trans s2) ⟨ra.step r1 s2, rb.from s1.trk⟩
abbrev RelDs (K : PySem.W.Frag) : RelT (List PyData) (List V) := fun _ H _ _ ds vs => FzAll K H vs ds
abbrev tAD (xr : XR) (K : PySem.W.Frag) (W : WX) (f : Ev (List PyData)) : TA := fun σ H Q => tG xr K W (RelDs K) f σ H Q
theorem sad_nil : PA X [] (tAD xr X.K W (argsD [])) := pa_imp pa_nil fun σ H Q ⟨m, fp, r, p⟩ => p [] H fp r (.refl _ _) .nil
theorem sad_cons (ha : PE X e (tE xr X.K W f)) (hr : PA X es (tAD xr X.K W (argsD fs))) (hs : starEach (e :: es) X.env = (false, eval e X.env) :: starEach es X.env := by rfl) : PA X (e :: es) (tAD xr X.K W (argsD (f :: fs))) := by
  refine pa_imp (pa_cons (sd_frz ha) hr hs) fun σ H Q h => tG_bind2 (Rb := RelDs X.K) (Rc := RelDs X.K) h fun fp fp1 m1 a bs m2 v us H1 H2 fp2 s1 r1 ra r2 s2 rb p => ?_
  exact p _ H2 fp2 r2 (s1.trans s2) (.cons (Fz.keep (r1.keepOf s2) ra) rb)
theorem sd_tup {k : Nat} (h : PA X es (tAD xr X.K W (argsD fs))) (hl : es.length ≤ 100 := by decide) (hn : ∀ m ds m', argsD fs m = .ok ds m' → ds.length ≤ 100) : PE X (.Tuple es k pos) (tE xr X.K W (tupE fs)) := by
  refine pe_imp (pe_tup h) fun σ H Q ⟨m, fp, r, p⟩ => ?_
  refine ⟨m, fp, r, ?_⟩
  unfold tupE bnd at p
  cases q : argsD fs m with
  | no => rw [q] at p; exact p
  | ex x m' => rw [q] at p; exact p
  | ok ds m1 =>
    have hd := hn m ds m1 q
    rw [q] at p
    intro vs H1 fp1 r1 s1 rd
    have rd : FzAll X.K H1 vs ds := rd
    refine ⟨by rw [rd.length]; exact Nat.le_trans hd (by decide), fun a ha => ?_⟩
    have sm : Same H1 (upd H1 a (.tup vs)) := fun b o e => by rw [upd_ne (ne_of_none e ha)]; exact e
    exact p _ _ fp1 (r1.same sm) (s1.trans (.same sm)) (.tup (.inl (.inl upd_same)) (FzAll.keep (PyE.Same.toKeep sm) rd))
theorem sd_lst (h : PA X es (tAD xr X.K W (argsD fs))) (hn : ∀ m ds m', argsD fs m = .ok ds m' → ds.length ≤ 100) : PE X (.List es pos) (tE xr X.K W (lstE fs)) := by
  refine pe_imp (pe_lst h) fun σ H Q ⟨m, fp, r, p⟩ => ?_
  refine ⟨m, fp, r, ?_⟩
  unfold lstE bnd at p
  cases q : argsD fs m with
  | no => rw [q] at p; exact p
  | ex x m' => rw [q] at p; exact p
  | ok ds m1 =>
    have hd := hn m ds m1 q
    rw [q] at p
    intro vs H1 fp1 r1 s1 rd
    have rd : FzAll X.K H1 vs ds := rd
    refine ⟨by rw [rd.length]; exact Nat.le_trans hd (by decide), fun a ha => ?_⟩
    have sm : Same H1 (upd H1 a (.lst vs)) := fun b o e => by rw [upd_ne (ne_of_none e ha)]; exact e
    exact p _ _ fp1 (r1.same sm) (s1.trans (.same sm)) ⟨a, vs, rfl, upd_same, FzAll.keep (PyE.Same.toKeep sm) rd, s1.trk a ha, fun i hi => r1.some_ hi ha⟩
theorem argsD_len : ∀ {fs : List (Ev Rv)} {n : Nat}, fs.length ≤ n → ∀ m ds m', argsD fs m = .ok ds m' → ds.length ≤ n
  | [], n, h, m, ds, m', e => by cases e; exact h
  | f :: fs, n, h, m, ds, m', e => by
    unfold argsD bnd at e
    cases q : frzE f m with
    | no => rw [q] at e; cases e
    | ex x m' => rw [q] at e; cases e
    | ok a m1 =>
      rw [q] at e
      simp only [Res.bind] at e
      cases q2 : argsD fs m1 with
      | no => rw [q2] at e; cases e
      | ex x m' => rw [q2] at e; cases e
      | ok as m2 =>
        rw [q2] at e
        cases e
        cases n with
        | zero => cases h
        | succ n => exact Nat.succ_le_succ (argsD_len (Nat.le_of_succ_le_succ h) _ _ _ q2)

/-! ### calls of what is built in -/
theorem opN_ok {r : List V → Hp → VK → Prop} {g : List PyData → Option Rv} (o : OpN X.K r g) {σ : St} {H : Hp} {Q : VK} (h : tE xr X.K W (opNE g fs) σ H Q) : tCB r (tA xr X.K W (argsE fs)) σ H Q := by
  refine tG_bind (Rc := RelR X.K) h fun m fp as m1 vs H1 fp1 r r1 s1 ra p => ?_
  cases e1 : derefs m1 as with
  | none => simp only [e1] at p; exact p.elim
  | some ds =>
    simp only [e1] at p
    obtain ⟨z, hz, q⟩ := fin_ok s1 r1 p
    exact o H1 vs ds z Q (RelRs.rb r1 ra e1) hz q
theorem sd_callB {id : String} {r : List V → Hp → VK → Prop} {g : List PyData → Option Rv} (hc : CallR X (.builtin id) r) (o : OpN X.K r g) (hg : Gl X x) (hm : X.mg x = none) (hv : bootBuiltins x = some (.builtin id)) (ha : PA X (e :: es) (tA xr X.K W (argsE fs)))
    (hn : x ≠ "__name__" := by decide) (hdb : (x == ("__debug__" : Str)) = false := by decide) (he : starEach (e :: es) X.env = (false, eval e X.env) :: starEach es X.env := by rfl) (hpl : (backTo pos (starEach es X.env)).any (·.1) = false := by rfl) :
    PE X (.Call (.Name x p) (e :: es) [] pos) (tE xr X.K W (opNE g fs)) := pe_imp (pe_callB hc hg hm hv ha hn hdb he hpl) fun _ _ _ h => opN_ok o h
theorem sd_callTy {T : String} {r : List V → Hp → VK → Prop} {g : List PyData → Option Rv} (hc : CallR X (.type T) r) (o : OpN X.K r g) (hg : Gl X x) (hm : X.mg x = none) (hv : bootBuiltins x = some (.type T)) (ha : PA X (e :: es) (tA xr X.K W (argsE fs)))
    (hn : x ≠ "__name__" := by decide) (hdb : (x == ("__debug__" : Str)) = false := by decide) (he : starEach (e :: es) X.env = (false, eval e X.env) :: starEach es X.env := by rfl) (hpl : (backTo pos (starEach es X.env)).any (·.1) = false := by rfl) :
    PE X (.Call (.Name x p) (e :: es) [] pos) (tE xr X.K W (opNE g fs)) := pe_imp (pe_callTy hc hg hm hv ha hn hdb he hpl) fun _ _ _ h => opN_ok o h
/-! ### subscripts -/
theorem sd_ix {r : R2} {g : PyData → PyData → Option Rv} (hr : IxR X r) (og : Op2 X.K r g) (ha : PE X a (tE xr X.K W fa)) (hb : PE X b (tE xr X.K W fb)) (hs : PlainIx b) : PE X (.Subscript a b pos) (tE xr X.K W (op2E g fa fb)) :=
  pe_imp (pe_ix hr ha hb hs) fun σ H Q h => op2_ok og h
end
end PyE

/-! PyE: targets, what is walked, comprehensions -/
namespace PyE
open PySem PySem.Spec PyProof.Rows
open L2

/-! ### targets -/
abbrev Tg := PyData → Sm → Option Sm
def tgName (i : Nat) : Tg := fun d m => some (m.set i (some (.fz d)))
def tgAll : List Tg → List PyData → Sm → Option Sm
  | [], [], m => some m
  | t :: ts, d :: ds, m => (t d m).bind (tgAll ts ds)
  | _, _, _ => none
def tgTup (ts : List Tg) : Tg := fun d m => match d with
  | .tuple ds => if ds.length = ts.length then tgAll ts ds m else none
  | _ => none
/-- slots that are not touched hold what they held -/
def Out (touch : List Nat) (σ σ' : St) : Prop := σ'.length = σ.length ∧ ∀ i, i ∉ touch → σ'[i]? = σ[i]?
theorem Out.refl (touch : List Nat) (σ : St) : Out touch σ σ := ⟨rfl, fun _ _ => rfl⟩
theorem Out.trans {t : List Nat} {a b c : St} (x : Out t a b) (y : Out t b c) : Out t a c := ⟨y.1.trans x.1, fun i h => (y.2 i h).trans (x.2 i h)⟩
theorem Out.mono {t t' : List Nat} {a b : St} (x : Out t a b) (h : ∀ i ∈ t, i ∈ t') : Out t' a b := ⟨x.1, fun i hi => x.2 i fun z => hi (h i z)⟩
def Sub (fp' fp : Fp) : Prop := ∀ i b, b ∈ fp' i → b ∈ fp i
theorem Sub.step {fp fp' : Fp} {H : Hp} (s : Sub fp' fp) : Step fp fp' H H := ⟨fun i b h => .inl ⟨i, s i b h⟩, fun _ _ h _ => h, fun _ h => h⟩
/-- a target's reading -/
def gT (K : PySem.W.Frag) (touch : List Nat) (t : Tg) : TG := fun v σ H Q => ∃ m fp d m', RelS K H m σ fp ∧ Fz K H v d ∧ t d m = some m' ∧ ∀ σ' fp', RelS K H m' σ' fp' → Sub fp' fp → Out touch σ σ' → Q σ' H
def gTs (K : PySem.W.Frag) (touch : List Nat) (ts : List Tg) : TGs := fun vs σ H Q => ∃ m fp ds m', RelS K H m σ fp ∧ FzAll K H vs ds ∧ tgAll ts ds m = some m' ∧ ∀ σ' fp', RelS K H m' σ' fp' → Sub fp' fp → Out touch σ σ' → Q σ' H
section
variable {K : PySem.W.Frag} {H : Hp} {m : Sm} {σ : St} {fp : Fp}
theorem RelS.bind {i : Nat} {v : V} {d : PyData} (r : RelS K H m σ fp) (z : Fz K H v d) : ∃ fp', RelS K H (m.set i (some (.fz d))) (σ.set i (some v)) fp' ∧ Sub fp' fp ∧ Out [i] σ (σ.set i (some v)) := by
  refine ⟨fun j => if j = i then [] else fp j, ⟨fun j mv q => ?_, fun j hj => ?_, fun j l b hb hc => ?_, by simpa using r.len⟩, fun j b hb => ?_, ⟨by simp, fun j hj => ?_⟩⟩
  · by_cases hji : j = i
    · subst hji
      have hl : j < m.length := by
        have h := nth_lt q
        simpa using h
      rw [List.getElem?_set_self hl] at q; cases q
      exact ⟨v, by rw [List.getElem?_set_self (by rw [← r.len]; exact hl)], by rw [if_pos rfl]; exact .fz z⟩
    · rw [List.getElem?_set_ne (Ne.symm hji)] at q
      obtain ⟨w, e1, q1⟩ := r.at_ j mv q
      exact ⟨w, by rw [List.getElem?_set_ne (Ne.symm hji)]; exact e1, by rw [if_neg hji]; exact q1⟩
  · by_cases hji : j = i
    · exact if_pos hji
    · show (if j = i then [] else fp j) = []
      rw [if_neg hji]
      exact r.emp j fun mv q => hj mv (by rw [List.getElem?_set_ne (Ne.symm hji)]; exact q)
  · have hb : b ∈ (if j = i then [] else fp j) := hb
    have hc : b ∈ (if l = i then [] else fp l) := hc
    by_cases h1 : j = i
    · rw [if_pos h1] at hb; cases hb
    · by_cases h2 : l = i
      · rw [if_pos h2] at hc; cases hc
      · rw [if_neg h1] at hb; rw [if_neg h2] at hc; exact r.dis j l b hb hc
  · have hb : b ∈ (if j = i then [] else fp j) := hb
    by_cases h1 : j = i
    · rw [if_pos h1] at hb; cases hb
    · rw [if_neg h1] at hb; exact hb
  · rw [List.getElem?_set_ne (by intro e; subst e; exact hj (by simp))]
end
section
variable {X : Cx} {pos : Pos}
theorem pg_imp {e : Expr} {t t' : TG} (h : PG X e t) (i : ∀ v σ H Q, t' v σ H Q → t v σ H Q) : PG X e t' := ⟨fun pins s σ H v u Q I r q => h.run pins s σ H v u Q I r (i v σ H Q q)⟩
theorem sg_name {i : Nat} {x : Str} (hN : X.N.Nodup) (hi : X.N[i]? = some x) (hx : Loc X.env.scope x) (hf : X.fn x = true ∨ X.env.scope.names.lookup x = some .local) : PG X (.Name x pos) (gT X.K [i] (tgName i)) := by
  refine pg_imp (pg_name hN hi hx hf) fun v σ H Q ⟨m, fp, d, m', r, z, e, q⟩ => ?_
  cases e
  obtain ⟨fp', r', sb, o⟩ := r.bind (i := i) z
  exact q _ fp' r' sb o
theorem sgs_nil : PGs X [] (gTs X.K [] []) := by
  refine ⟨fun pins s σ H vs us Q I r h => ?_⟩
  obtain ⟨m, fp, ds, m', rs, z, e, q⟩ := h
  cases z with
  | nil =>
    cases e
    exact pgs_nil.run pins s σ H [] us Q I r ⟨rfl, q σ fp rs (fun _ _ h => h) (.refl _ _)⟩
  | cons _ _ => cases e
theorem sgs_cons {e : Expr} {es : List Expr} {t : Tg} {ts : List Tg} {t1 t2 : List Nat} (h1 : PG X e (gT X.K t1 t)) (h2 : PGs X es (gTs X.K t2 ts))
    (hs : (assignEach (e :: es) X.env).map (·.2) = assign e X.env :: (assignEach es X.env).map (·.2) := by rfl) : PGs X (e :: es) (gTs X.K (t1 ++ t2) (t :: ts)) := by
  refine ⟨fun pins s σ H vs us Q I r h => (pgs_cons h1 h2 hs).run pins s σ H vs us Q I r ?_⟩
  obtain ⟨m, fp, ds, m', rs, z, e, q⟩ := h
  cases z with
  | nil => cases e
  | @cons v vs d ds hz hr =>
    unfold tgAll at e
    cases e1 : t d m with
    | none => rw [e1] at e; cases e
    | some m1 =>
      rw [e1] at e
      refine ⟨v, vs, rfl, m, fp, d, m1, rs, hz, e1, fun σ1 fp1 r1 sb1 o1 => ?_⟩
      refine ⟨m1, fp1, ds, m', r1, hr, e, fun σ2 fp2 r2 sb2 o2 => ?_⟩
      exact q σ2 fp2 r2 (fun i b hb => sb1 i b (sb2 i b hb)) ((o1.mono fun i hi => List.mem_append_left _ hi).trans (o2.mono fun i hi => List.mem_append_right _ hi))
theorem sg_tup {es : List Expr} {k : Nat} {ts : List Tg} {touch : List Nat} (hc : X.calm = true) (h : PGs X es (gTs X.K touch ts))
    (hn : (assignEach es X.env).length = ts.length := by rfl) (hst : (assignEach es X.env).findIdx? (·.1) = none := by rfl) : PG X (.Tuple es k pos) (gT X.K touch (tgTup ts)) := by
  refine pg_imp (pg_tup hc h hn hst) fun v σ H Q ⟨m, fp, d, m', r, z, e, q⟩ => ?_
  cases d with
  | tuple ds =>
    unfold tgTup at e
    simp only at e
    split at e
    · rename_i hl
      cases z with
      | @tup a xs _ hq g => exact ⟨a, xs, rfl, hq, by rw [g.length]; exact hl, m, fp, ds, m', r, g, e, q⟩
    · cases e
  | _ => cases e
end

/-! ### what is walked -/
/-- J gives these data, one a turn, as long as what is frozen stays -/
structure WalkD (K : PySem.W.Frag) (J : It) (ds : List PyData) (H : Hp) : Prop where
  goes : ∀ i H', Keep H H' → i < ds.length → J.go i H'
  stops : ∀ H', Keep H H' → J.stop ds.length H'
  yields : ∀ i H' x H'', Keep H H' → i < ds.length → J.yld i H' x H'' → Same H' H'' ∧ ∃ d, ds[i]? = some d ∧ Fz K H'' x d
  few : ds.length ≤ sizeLine
abbrev RelI (K : PySem.W.Frag) : RelT (List PyData) It := fun _ H _ _ ds J => WalkD K J ds H
abbrev tI (xr : XR) (K : PySem.W.Frag) (W : WX) (f : Ev (List PyData)) : TI := fun σ H R => tG xr K W (RelI K) f σ H R
theorem pi_imp {X : Cx} {tg e : Expr} {t t' : TI} (h : PI X tg e t) (i : ∀ σ H Q, t' σ H Q → t σ H Q) : PI X tg e t' := ⟨fun pins s σ H Q I q => h.run pins s σ H Q I (i σ H Q q)⟩
/-- frozen data whose length the heap bounds -/
def fewD : PyData → Prop
  | .list xs => xs.length ≤ sizeLine
  | .tuple xs => xs.length ≤ sizeLine
  | _ => True
abbrev RelDF (K : PySem.W.Frag) : RelT PyData V := fun _ H _ _ x v => Fz K H v x ∧ fewD x
section
variable {xr : XR} {W : WX} {X : Cx} {tg e : Expr} {f : Ev Rv}
theorem fz_few {X : Cx} {pins : List (Addr × Obj)} {σ : St} {H : Hp} {s : Shared} {v : V} {d : PyData} (I : Inv X pins σ H s) (z : Fz X.K H v d) : fewD d := by
  cases z with
  | lst h g =>
    obtain ⟨_, _, _, hz⟩ := I.list h.seq
    show _ ≤ sizeLine
    rw [← g.length]; exact hz
  | tup h g =>
    obtain ⟨_, _, _, hz⟩ := I.tuple h
    show _ ≤ sizeLine
    rw [← g.length]; exact hz
  | _ => trivial
theorem sd_few {g : Ev PyData} (h : PE X e (tD xr X.K W g)) : PE X e (fun σ H Q => tG xr X.K W (RelDF X.K) g σ H Q) := by
  refine ⟨fun pins s σ H Q I q => ?_⟩
  obtain ⟨m, fp, r, p⟩ := q
  have q1 : tD xr X.K W g σ H (fun v H1 => ∃ d, Fz X.K H1 v d ∧ (fewD d → Q v H1)) := by
    refine ⟨m, fp, r, ?_⟩
    cases e1 : g m with
    | no => rw [e1] at p; exact p
    | ex x m' => rw [e1] at p; exact p
    | ok d m' => rw [e1] at p; exact fun v H' fp' rs st z => ⟨d, z, fun hf => p v H' fp' rs st ⟨z, hf⟩⟩
  exact thn (h.run pins s σ H _ I q1) fun u s' ⟨v, H1, I1, rv, d, z, hq⟩ => ⟨v, H1, I1, rv, hq (fz_few I1 z)⟩
def itSeq (f : Ev Rv) : Ev (List PyData) := bnd (frzE f) fun d m => match d with
  | .list xs => .ok xs m
  | .tuple xs => .ok xs m
  | _ => .no
theorem walk_fl {K : PySem.W.Frag} {H : Hp} {a : Addr} {xs : List V} {ds : List PyData} (h : FL K H a xs) (g : FzAll K H xs ds) (few : ds.length ≤ sizeLine) : WalkD K (Itl K a) ds H where
  goes := fun i H' k hi => ⟨xs, xs[i]'(by rw [g.length]; exact hi), (k.fl h).seq, by simp⟩
  stops := fun H' k => ⟨xs, (k.fl h).seq, by rw [g.length]; exact Nat.le_refl _⟩
  yields := fun i H' x H'' k hi y => by
    obtain ⟨rfl, y⟩ := y
    obtain ⟨d, e1, z⟩ := FzAll.getV g (y _ (k.fl h).seq)
    exact ⟨fun _ _ q => q, d, e1, Fz.keep k z⟩
  few := few
theorem walk_tp {K : PySem.W.Frag} {H : Hp} {a : Addr} {xs : List V} {ds : List PyData} (h : SqT K H a xs) (g : FzAll K H xs ds) (few : ds.length ≤ sizeLine) : WalkD K (Itt K a) ds H where
  goes := fun i H' k hi => ⟨xs, xs[i]'(by rw [g.length]; exact hi), k.sqT h, by simp⟩
  stops := fun H' k => ⟨xs, k.sqT h, by rw [g.length]; exact Nat.le_refl _⟩
  yields := fun i H' x H'' k hi y => by
    obtain ⟨rfl, y⟩ := y
    obtain ⟨d, e1, z⟩ := FzAll.getV g (y _ (k.sqT h))
    exact ⟨fun _ _ q => q, d, e1, Fz.keep k z⟩
  few := few
/-- a list or a tuple is walked -/
theorem si_seq (h : PE X e (tE xr X.K W f)) : PI X tg e (tI xr X.K W (itSeq f)) := by
  refine ⟨fun pins s σ H R I q => ?_⟩
  have hf := sd_few (sd_frz h)
  obtain ⟨m, fp, r, p⟩ := q
  cases e1 : frzE f m with
  | no => unfold itSeq bnd at p; rw [e1] at p; exact p.elim
  | ex x m' =>
    unfold itSeq bnd at p; rw [e1] at p
    refine (pi_list hf).run pins s σ H R I ⟨m, fp, r, ?_⟩
    rw [e1]; exact p
  | ok d m1 =>
    unfold itSeq bnd at p; rw [e1] at p
    cases d with
    | list xs =>
      refine (pi_list hf).run pins s σ H R I ⟨m, fp, r, ?_⟩
      rw [e1]
      rintro v H1 fp1 r1 s1 ⟨z, few⟩
      cases z with
      | lst h g => exact ⟨_, rfl, ⟨_, h.seq⟩, p _ H1 fp1 r1 s1 (walk_fl h g few)⟩
    | tuple xs =>
      refine (pi_tup hf).run pins s σ H R I ⟨m, fp, r, ?_⟩
      rw [e1]
      rintro v H1 fp1 r1 s1 ⟨z, few⟩
      cases z with
      | tup h g => exact ⟨_, rfl, ⟨_, h⟩, p _ H1 fp1 r1 s1 (walk_tp h g few)⟩
    | _ => exact p.elim
/-- range(n), range(a, b) -/
def rangeD (a b : Int) : List PyData := (List.range (b - a).toNat).map fun (i : Nat) => PyData.int (a + (i : Int))
def okRg (a b : Int) : Bool := decide (-1000000 ≤ a ∧ a ≤ 1000000 ∧ -1000000 ≤ b ∧ b ≤ 1000000)
def itRange1 (fs : List (Ev Rv)) : Ev (List PyData) := bnd (argsE fs) fun rs m => match rs with
  | [.d (.int n)] => if okRg 0 n = true then .ok (rangeD 0 n) m else .no
  | _ => .no
def itRange2 (fs : List (Ev Rv)) : Ev (List PyData) := bnd (argsE fs) fun rs m => match rs with
  | [.d (.int a), .d (.int b)] => if okRg a b = true then .ok (rangeD a b) m else .no
  | _ => .no
theorem okRg_at {a b : Int} (h : okRg a b = true) : -1000000 ≤ a ∧ a ≤ 1000000 ∧ -1000000 ≤ b ∧ b ≤ 1000000 := of_decide_eq_true h
theorem walk_rg {K : PySem.W.Frag} {H : Hp} {a b : Int} (h : okRg a b = true) : WalkD K (Itr a (b - a).toNat) (rangeD a b) H := by
  have hl : (rangeD a b).length = (b - a).toNat := by simp [rangeD]
  have h := okRg_at h
  refine ⟨fun i H' k hi => by rw [hl] at hi; exact hi, fun H' k => by rw [hl]; exact Nat.le_refl _, fun i H' x H'' k hi y => ?_, ?_⟩
  · obtain ⟨rfl, rfl⟩ := y
    rw [hl] at hi
    refine ⟨fun _ _ q => q, _, ?_, .int _⟩
    simp [rangeD, hi]
  · rw [hl, sizeLine_eq]; omega
theorem fz_int {K : PySem.W.Frag} {H : Hp} {v : V} {i : Int} (h : Fz K H v (.int i)) : v = .int i := by cases h; rfl
variable {p pos : Pos} {a b : Expr} {fs : List (Ev Rv)}
theorem si_range1 (hg : Gl X "range") (hm : X.mg "range" = none) (ha : PA X [a] (tA xr X.K W (argsE fs))) (hs : starEach [a] X.env = [(false, eval a X.env)] := by rfl) : PI X tg (.Call (.Name "range" p) [a] [] pos) (tI xr X.K W (itRange1 fs)) := by
  refine pi_imp (pi_range1 hg hm ha hs) fun σ H R q => tG_bind (Rc := RelI X.K) q fun m fp rs m1 vs H1 fp1 r r1 s1 ra p => ?_
  match rs, vs, ra, p with
  | [.d (.int n)], [v], ⟨z, _⟩, p =>
    cases fz_int z
    simp only at p
    split at p
    · rename_i hn
      have h := okRg_at hn
      refine ⟨n, rfl, by omega, by omega, ?_⟩
      have w := walk_rg (K := X.K) (H := H1) hn
      rw [Int.sub_zero] at w
      exact p _ H1 fp1 r1 s1 w
    · exact p.elim
theorem si_range2 (hg : Gl X "range") (hm : X.mg "range" = none) (ha : PA X [a, b] (tA xr X.K W (argsE fs))) (hs : starEach [a, b] X.env = [(false, eval a X.env), (false, eval b X.env)] := by rfl) (hs2 : starEach [b] X.env = [(false, eval b X.env)] := by rfl) :
    PI X tg (.Call (.Name "range" p) [a, b] [] pos) (tI xr X.K W (itRange2 fs)) := by
  refine pi_imp (pi_range2 hg hm ha hs hs2) fun σ H R q => tG_bind (Rc := RelI X.K) q fun m fp rs m1 vs H1 fp1 r r1 s1 ra p => ?_
  match rs, vs, ra, p with
  | [.d (.int i), .d (.int j)], [v, w], ⟨z, z2, _⟩, p =>
    cases fz_int z
    cases fz_int z2
    simp only at p
    split at p
    · rename_i hn
      have h := okRg_at hn
      exact ⟨i, j, rfl, ⟨by omega, by omega, by omega, by omega⟩, p _ H1 fp1 r1 s1 (walk_rg hn)⟩
    · exact p.elim
end
end PyE

/-! PyE: comprehensions -/
namespace PyE
open PySem PySem.Spec PyProof.Rows
open L2

def wipeM (m : Sm) : List Nat → Sm
  | [] => m
  | v :: vs => (wipeM m vs).set v none
def restM (m m' : Sm) : List Nat → Sm
  | [] => m'
  | v :: vs => (restM m m' vs).set v (m.getD v none)
def compL (own : List Nat) (bt : Tg) (tst : Ev Bool) (elt : Ev PyData) : List PyData → List PyData → Ev (List PyData)
  | [], acc => fun m => .ok acc m
  | d :: ds, acc => fun m => match bt d m with
    | none => .no
    | some m1 => (tst m1).bind fun b m2 => if b = true then (elt m2).bind fun y m3 => compL own bt tst elt ds (acc ++ [y]) (wipeM m3 own) else compL own bt tst elt ds acc (wipeM m2 own)
def compE (own : List Nat) (it : Ev (List PyData)) (bt : Tg) (tst : Ev Bool) (elt : Ev Rv) : Ev Rv := bnd it fun ds m1 =>
  match compL own bt tst (frzE elt) ds [] (wipeM m1 own) with
  | .ok acc m2 => .ok (.nl acc) (restM m1 m2 own)
  | _ => .no
def yesT : Ev Bool := fun m => .ok true m
abbrev wF : WX := fun _ _ _ _ => False

theorem wipeM_length (m : Sm) : ∀ vs, (wipeM m vs).length = m.length
  | [] => rfl
  | v :: vs => by unfold wipeM; rw [List.length_set, wipeM_length m vs]
theorem restM_length (m m' : Sm) : ∀ vs, (restM m m' vs).length = m'.length
  | [] => rfl
  | v :: vs => by unfold restM; rw [List.length_set, restM_length m m' vs]
theorem wipeM_at {m : Sm} {i : Nat} : ∀ {vs : List Nat}, i ∉ vs → (wipeM m vs)[i]? = m[i]?
  | [], _ => rfl
  | v :: vs, h => by
    unfold wipeM
    rw [List.getElem?_set_ne (fun e => h (by rw [e]; simp)), wipeM_at fun q => h (List.mem_cons_of_mem _ q)]
theorem wipe_at {σ : St} {i : Nat} : ∀ {vs : List Nat}, i ∉ vs → (wipe σ vs)[i]? = σ[i]?
  | [], _ => rfl
  | v :: vs, h => by
    unfold wipe
    rw [List.getElem?_set_ne (fun e => h (by rw [e]; simp)), wipe_at fun q => h (List.mem_cons_of_mem _ q)]
theorem wipeM_in {m : Sm} {i : Nat} {mv : Mv} : ∀ {vs : List Nat}, i ∈ vs → (wipeM m vs)[i]? ≠ some (some mv)
  | v :: vs, h, e => by
    unfold wipeM at e
    by_cases hi : v = i
    · subst hi
      by_cases hv : v < (wipeM m vs).length
      · rw [List.getElem?_set_self hv] at e; cases e
      · rw [List.getElem?_eq_none (by simpa using hv)] at e; cases e
    · rw [List.getElem?_set_ne hi] at e
      exact wipeM_in ((List.mem_cons.mp h).resolve_left fun z => hi z.symm) e
theorem restM_at {m m' : Sm} {i : Nat} : ∀ {vs : List Nat}, i ∉ vs → (restM m m' vs)[i]? = m'[i]?
  | [], _ => rfl
  | v :: vs, h => by
    unfold restM
    rw [List.getElem?_set_ne (fun e => h (by rw [e]; simp)), restM_at fun q => h (List.mem_cons_of_mem _ q)]
theorem restM_in {m m' : Sm} (hl : m.length = m'.length) {i : Nat} : ∀ {vs : List Nat}, i ∈ vs → (restM m m' vs)[i]? = m[i]?
  | v :: vs, h => by
    unfold restM
    by_cases hi : v = i
    · subst hi
      by_cases hv : v < m.length
      · rw [List.getElem?_set_self (by rw [restM_length]; omega), List.getD_eq_getElem?_getD, List.getElem?_eq_getElem hv]; rfl
      · rw [List.getElem?_eq_none (by rw [List.length_set, restM_length]; omega), List.getElem?_eq_none (by omega)]
    · rw [List.getElem?_set_ne hi]
      exact restM_in hl ((List.mem_cons.mp h).resolve_left fun z => hi z.symm)
theorem wipe_eq {σ σ' : St} : ∀ {vs : List Nat}, Out vs σ σ' → wipe σ' vs = wipe σ vs := by
  intro vs o
  apply List.ext_getElem?
  intro i
  by_cases h : i ∈ vs
  · have : ∀ (τ : St) {us : List Nat}, i ∈ us → (wipe τ us)[i]? = if i < τ.length then some none else none := by
      intro τ us
      induction us with
      | nil => intro h; cases h
      | cons v us ih =>
        intro h
        unfold wipe
        by_cases hi : v = i
        · subst hi
          by_cases hv : v < τ.length
          · rw [List.getElem?_set_self (by rw [wipe_length]; exact hv), if_pos hv]
          · rw [List.getElem?_eq_none (by rw [List.length_set, wipe_length]; omega), if_neg hv]
        · rw [List.getElem?_set_ne hi]
          exact ih ((List.mem_cons.mp h).resolve_left fun z => hi z.symm)
    rw [this σ' h, this σ h, o.1]
  · rw [wipe_at h, wipe_at h, o.2 i h]
theorem wipe_out (σ : St) (vs : List Nat) : Out vs σ (wipe σ vs) := ⟨wipe_length σ vs, fun i h => wipe_at h⟩
section
variable {K : PySem.W.Frag} {H : Hp} {m : Sm} {σ : St} {fp : Fp}
theorem RelS.wipe (r : RelS K H m σ fp) (vs : List Nat) : RelS K H (wipeM m vs) (L2.wipe σ vs) (fun i => if i ∈ vs then [] else fp i) := by
  refine ⟨fun i mv e => ?_, fun i h => ?_, fun i j b hb hc => ?_, by rw [wipeM_length, L2.wipe_length]; exact r.len⟩
  · by_cases hi : i ∈ vs
    · exact absurd e (wipeM_in hi)
    · rw [wipeM_at hi] at e
      obtain ⟨v, e1, q⟩ := r.at_ i mv e
      exact ⟨v, by rw [wipe_at hi]; exact e1, by rw [if_neg hi]; exact q⟩
  · by_cases hi : i ∈ vs
    · exact if_pos hi
    · show (if i ∈ vs then [] else fp i) = []
      rw [if_neg hi]
      exact r.emp i fun mv q => h mv (by rw [wipeM_at hi]; exact q)
  · have hb : b ∈ (if i ∈ vs then [] else fp i) := hb
    have hc : b ∈ (if j ∈ vs then [] else fp j) := hc
    by_cases h1 : i ∈ vs
    · rw [if_pos h1] at hb; cases hb
    · by_cases h2 : j ∈ vs
      · rw [if_pos h2] at hc; cases hc
      · rw [if_neg h1] at hb; rw [if_neg h2] at hc; exact r.dis i j b hb hc
/-- wiping again, in a heap where more may be owned -/
theorem RelS.wipe2 {σ0 : St} {vs : List Nat} (r : RelS K H m σ fp) (o : L2.wipe σ vs = L2.wipe σ0 vs) : RelS K H (wipeM m vs) (L2.wipe σ0 vs) (fun i => if i ∈ vs then [] else fp i) := by
  rw [← o]; exact r.wipe vs
theorem RelS.restore {m0 m' : Sm} {σ : St} {fp0 fp' : Fp} {H0 H' : Hp} {vs : List Nat} (r0 : RelS K H0 m0 σ fp0) (r : RelS K H' m' (L2.wipe σ vs) fp') (s : Step (fun i => if i ∈ vs then [] else fp0 i) fp' H0 H') (hn : ∀ i ∈ vs, fp' i = []) :
    RelS K H' (restM m0 m' vs) σ (fun i => if i ∈ vs then fp0 i else fp' i) ∧ Step fp0 (fun i => if i ∈ vs then fp0 i else fp' i) H0 H' := by
  have hl : m0.length = m'.length := by rw [r0.len, r.len, L2.wipe_length]
  have nin : ∀ i b, i ∈ vs → b ∈ fp0 i → ∀ j, b ∉ (if j ∈ vs then [] else fp0 j) := fun i b hi hb j hj => by
    by_cases h : j ∈ vs
    · rw [if_pos h] at hj; cases hj
    · rw [if_neg h] at hj; exact h (by rw [← r0.dis i j b hb hj]; exact hi)
  have k0 : Keep H0 H' := fun b u e n => s.keep b u e fun i hi => by
    by_cases h : i ∈ vs
    · simp only [if_pos h] at hi; cases hi
    · simp only [if_neg h] at hi; exact n (by have := r0.mut hi; rw [e] at this; exact this)
  have out : ∀ i b, i ∈ vs → b ∈ fp0 i → ∀ j, b ∉ fp' j := fun i b hi hb j hj => by
    rcases s.own j b hj with ⟨l, q⟩ | q
    · exact nin i b hi hb l q
    · exact r0.some_ hb q
  refine ⟨⟨fun i mv e => ?_, fun i h => ?_, fun i j b hb hc => ?_, by rw [restM_length, r.len, L2.wipe_length]⟩, ⟨fun i b hb => ?_, fun b o e n => ?_, s.trk⟩⟩
  · by_cases hi : i ∈ vs
    · rw [restM_in hl hi] at e
      obtain ⟨v, e1, q⟩ := r0.at_ i mv e
      refine ⟨v, e1, ?_⟩
      rw [if_pos hi]
      refine q.keep k0 fun b hb => ?_
      cases e2 : H0 b with
      | none => exact absurd e2 (r0.some_ hb)
      | some o => exact s.keep b o e2 (nin i b hi hb)
    · rw [restM_at hi] at e
      obtain ⟨v, e1, q⟩ := r.at_ i mv e
      exact ⟨v, by rw [wipe_at hi] at e1; exact e1, by rw [if_neg hi]; exact q⟩
  · by_cases hi : i ∈ vs
    · show (if i ∈ vs then fp0 i else fp' i) = []
      rw [if_pos hi]
      exact r0.emp i fun mv q => h mv (by rw [restM_in hl hi]; exact q)
    · show (if i ∈ vs then fp0 i else fp' i) = []
      rw [if_neg hi]
      exact r.emp i fun mv q => h mv (by rw [restM_at hi]; exact q)
  · have hb : b ∈ (if i ∈ vs then fp0 i else fp' i) := hb
    have hc : b ∈ (if j ∈ vs then fp0 j else fp' j) := hc
    by_cases h1 : i ∈ vs
    · rw [if_pos h1] at hb
      by_cases h2 : j ∈ vs
      · rw [if_pos h2] at hc; exact r0.dis i j b hb hc
      · rw [if_neg h2] at hc; exact absurd hc (out i b h1 hb j)
    · rw [if_neg h1] at hb
      by_cases h2 : j ∈ vs
      · rw [if_pos h2] at hc; exact absurd hb (out j b h2 hc i)
      · rw [if_neg h2] at hc; exact r.dis i j b hb hc
  · have hb : b ∈ (if i ∈ vs then fp0 i else fp' i) := hb
    by_cases h1 : i ∈ vs
    · rw [if_pos h1] at hb; exact .inl ⟨i, hb⟩
    · rw [if_neg h1] at hb
      rcases s.own i b hb with ⟨l, q⟩ | q
      · by_cases h2 : l ∈ vs
        · simp only [if_pos h2] at q; cases q
        · simp only [if_neg h2] at q; exact .inl ⟨l, q⟩
      · exact .inr q
  · exact s.keep b o e fun i hi => by
      by_cases h : i ∈ vs
      · simp only [if_pos h] at hi; cases hi
      · simp only [if_neg h] at hi; exact n i hi
end
section
variable {xr : XR} {W : WX} {X : Cx} {elt tg iter : Expr} {ifs : List Expr} {scope : Scope} {own : List (Str × Nat)} {pos : Pos} {it : Ev (List PyData)} {bt : Tg} {touch : List Nat} {tst : Ev Bool} {f : Ev Rv} {tt : TT}
/-- the loop of a comprehension, by its reading -/
theorem lc_ok {K : PySem.W.Frag} {vs : List Nat} {σ : St} {H : Hp} {Q : VK} (ht : ∀ i ∈ touch, i ∈ vs) (htt : ∀ σ H Q, tT xr K wF tst σ H Q → tt σ H Q) (h : tE xr K W (compE vs it bt tst f) σ H Q) :
    tLc (tI xr K W it) (gT K touch bt) tt (tD xr K wF (frzE f)) vs σ H Q := by
  refine tG_bind (Rc := RelR K) h fun m fp ds m1 J H1 fp1 r r1 s1 w p => ?_
  intro D hD
  have w : WalkD K J ds H1 := w
  cases eL : compL vs bt tst (frzE f) ds [] (wipeM m1 vs) with
  | no => rw [eL] at p; exact p.elim
  | ex x m' => rw [eL] at p; exact p.elim
  | ok acc mE =>
    rw [eL] at p
    -- what holds at turn i
    refine ⟨fun i n H2 => ∃ m2 fp2 a ys, i + n = ds.length ∧ RelS K H2 m2 (wipe σ vs) fp2 ∧ Step (fun i => if i ∈ vs then [] else fp1 i) fp2 H1 H2 ∧ (∀ i ∈ vs, fp2 i = []) ∧ H2 D = some (.lst ys) ∧ FzAll K H2 ys a ∧ ys.length ≤ i ∧ (∀ i, D ∉ fp2 i) ∧
      compL vs bt tst (frzE f) (ds.drop i) a m2 = .ok acc mE, ⟨ds.length, wipeM m1 vs, (fun i => if i ∈ vs then [] else fp1 i), [], [], by omega, ?_, ?_, fun i hi => if_pos hi, upd_same, .nil, Nat.le_refl _, ?_, by simpa using eL⟩, ?_⟩
    · have sm : Same H1 (upd H1 D (.lst [])) := fun b o e => by rw [upd_ne (ne_of_none e hD)]; exact e
      exact (r1.wipe vs).same sm
    · have sm : Same H1 (upd H1 D (.lst [])) := fun b o e => by rw [upd_ne (ne_of_none e hD)]; exact e
      exact .same sm
    · intro i hi
      by_cases hv : i ∈ vs
      · simp only [if_pos hv] at hi; cases hi
      · simp only [if_neg hv] at hi; exact r1.some_ hi hD
    · rintro i n H2 ⟨m2, fp2, a, ys, hn, r2, s2, n2, hD2, ga, hi, nD, eC⟩
      have k12 : Keep H1 H2 := (r1.wipe vs).keepOf s2
      by_cases hlt : i < ds.length
      · -- a turn
        refine .inr ⟨w.goes i H2 k12 hlt, fun H3 => ∃ m3 fp3 a ys, RelS K H3 m3 (wipe σ vs) fp3 ∧ Step (fun i => if i ∈ vs then [] else fp1 i) fp3 H1 H3 ∧ (∀ i ∈ vs, fp3 i = []) ∧ H3 D = some (.lst ys) ∧ FzAll K H3 ys a ∧ ys.length ≤ i + 1 ∧ (∀ i, D ∉ fp3 i) ∧
          compL vs bt tst (frzE f) (ds.drop (i + 1)) a m3 = .ok acc mE, ?_, ?_⟩
        · rintro H3 ⟨m3, fp3, a, ys, h1, h2, h3, h4, h5, h6, h7, h8⟩
          exact ⟨n - 1, by omega, m3, fp3, a, ys, by omega, h1, h2, h3, h4, h5, h6, h7, h8⟩
        · intro x H3 hy
          obtain ⟨sm, d, ed, z⟩ := w.yields i H2 x H3 k12 hlt hy
          have ed2 : ds.drop i = d :: ds.drop (i + 1) := by
            obtain ⟨h1, h2⟩ := List.getElem?_eq_some_iff.mp ed
            rw [← h2]; exact List.drop_eq_getElem_cons h1
          rw [ed2] at eC
          unfold compL at eC
          cases eb : bt d m2 with
          | none => rw [eb] at eC; cases eC
          | some m3 =>
            rw [eb] at eC
            have r3 := r2.same sm
            refine ⟨m2, fp2, d, m3, r3, z, eb, fun σ3 fp3 r3 sb3 o3 => ⟨wipe_eq ((wipe_out σ vs).trans (o3.mono ht)), htt _ _ _ ⟨m3, fp3, r3, ?_⟩⟩⟩
            have s3 : Step (fun i => if i ∈ vs then [] else fp1 i) fp3 H1 H3 := (s2.trans (.same sm)).trans sb3.step
            have hD3 : H3 D = some (.lst ys) := sm D _ hD2
            have nD3 : ∀ i, D ∉ fp3 i := fun i hi => nD i (sb3 i D hi)
            have ga3 := ga.keep (PyE.Same.toKeep sm)
            cases et : tst m3 with
            | no => simp only [et, Res.bind] at eC; cases eC
            | ex x m' => simp only [et, Res.bind] at eC; cases eC
            | ok b m4 =>
              simp only [et, Res.bind] at eC
              intro b' H4 fp4 r4 s4 hb
              cases (show b = b' from hb)
              have hD4 : H4 D = some (.lst ys) := s4.keep D _ hD3 nD3
              have nD4 : ∀ i, D ∉ fp4 i := s4.out (by rw [hD3]; exact fun z => nomatch z) nD3
              have ga4 := ga3.keep (r3.keepOf s4)
              have wp : ∀ {H' : Hp} {m' : Sm} {fp' : Fp}, RelS K H' m' σ3 fp' → RelS K H' (wipeM m' vs) (wipe σ vs) (fun i => if i ∈ vs then [] else fp' i) := fun rr => rr.wipe2 (by
                rw [wipe_eq (o3.mono ht), wipe_eq (wipe_out σ vs)])
              have sw : ∀ {H' : Hp} {fp' : Fp}, Step (fun i => if i ∈ vs then [] else fp1 i) fp' H1 H' → Step (fun i => if i ∈ vs then [] else fp1 i) (fun i => if i ∈ vs then [] else fp' i) H1 H' := fun st =>
                ⟨fun i b hb => by
                  by_cases hv : i ∈ vs
                  · simp only [if_pos hv] at hb; cases hb
                  · simp only [if_neg hv] at hb; exact st.own i b hb, st.keep, st.trk⟩
              cases b with
              | false =>
                simp only [Bool.false_eq_true, if_false] at eC ⊢
                refine ⟨wipeM m4 vs, _, a, ys, wp r4, sw (s3.trans s4), fun i hi => if_pos hi, hD4, ga4, by omega, fun i hi => ?_, eC⟩
                by_cases hv : i ∈ vs
                · simp only [if_pos hv] at hi; cases hi
                · simp only [if_neg hv] at hi; exact nD4 i hi
              | true =>
                simp only [if_true] at eC ⊢
                cases ee : frzE f m4 with
                | no => rw [ee] at eC; cases eC
                | ex x m' => rw [ee] at eC; cases eC
                | ok y m5 =>
                  rw [ee] at eC
                  refine ⟨m4, fp4, r4, ?_⟩
                  rw [ee]
                  intro v H5 fp5 r5 s5 zy
                  have hD5 : H5 D = some (.lst ys) := s5.keep D _ hD4 nD4
                  have nD5 : ∀ i, D ∉ fp5 i := s5.out (by rw [hD4]; exact fun z => nomatch z) nD4
                  have ga5 := ga4.keep (r4.keepOf s5)
                  have k6 : Keep H5 (upd H5 D (.lst (ys ++ [v]))) := keep_upd (by rw [hD5]; exact trivial)
                  have few := w.few
                  refine ⟨ys, hD5, by omega, wipeM m5 vs, fun i => if i ∈ vs then [] else fp5 i, a ++ [y], ys ++ [v], ?_, ?_, fun i hi => if_pos hi, upd_same, (ga5.append (.cons zy .nil)).keep k6, by simp; omega, fun i hi => ?_, eC⟩
                  · have q := wp r5
                    refine ⟨fun i mv e => ?_, q.emp, q.dis, q.len⟩
                    obtain ⟨u, e1, rm⟩ := q.at_ i mv e
                    refine ⟨u, e1, rm.keep k6 fun b hb => upd_ne fun z => ?_⟩
                    by_cases hv : i ∈ vs
                    · simp only [if_pos hv] at hb; cases hb
                    · simp only [if_neg hv] at hb; exact nD5 i (by rw [← z]; exact hb)
                  · have q := sw ((s3.trans s4).trans s5)
                    refine ⟨q.own, fun b o e nb => ?_, fun b hb => q.trk b (upd_trk hb)⟩
                    rw [upd_ne (ne_of_none e hD)]
                    exact q.keep b o e nb
                  · by_cases hv : i ∈ vs
                    · simp only [if_pos hv] at hi; cases hi
                    · simp only [if_neg hv] at hi; exact nD5 i hi
      · -- the end
        have ei : i = ds.length := by omega
        subst ei
        refine .inl ⟨w.stops H2 k12, ?_⟩
        rw [List.drop_length] at eC
        unfold compL at eC
        cases eC
        obtain ⟨rE, sE⟩ := r1.restore r2 s2 n2
        refine p (.ref D) H2 _ rE (s1.trans sE) ⟨D, ys, rfl, hD2, ga, s1.trk D hD, fun i hi => ?_⟩
        by_cases hv : i ∈ vs
        · simp only [if_pos hv] at hi; exact r1.some_ hi hD
        · simp only [if_neg hv] at hi; exact nD i hi
/-- a comprehension of one for, no test -/
theorem sd_lc0 (hc : X.calm = true) (hN : X.N.Nodup) (hi : PI X tg iter (tI xr X.K W it)) (ok : BlkOk X.N X.env.scope scope own) (ht : ∀ i ∈ touch, i ∈ own.map (·.2))
    (hg : ∀ (s : Shared) (H : Hp) (C : Addr) (cl : List (Str × Addr)) (fp : List Addr), PG (X.blk s H scope (compEnvC scope cl C X.env) fp) tg (gT X.K touch bt))
    (he : ∀ (s : Shared) (H : Hp) (C : Addr) (cl : List (Str × Addr)) (fp : List Addr), PE (X.blk s H scope (compEnvC scope cl C X.env) fp) elt (tE xr X.K wF f)) (hs : ∀ x, foldedSetIterable iter X.env x = pure x := by intro _; rfl) :
    PE X (.ListComp elt [⟨tg, iter, [], 0⟩] scope pos) (tE xr X.K W (compE (own.map (·.2)) it bt yesT f)) := by
  refine pe_imp (pe_lc (te := tD xr X.K wF (frzE f)) hc hN hi ok hg (fun _ _ _ _ _ => pts_nil) (fun s H C cl fp => sd_frz (X := X.blk s H scope (compEnvC scope cl C X.env) fp) (he s H C cl fp)) hs) fun σ H Q h => ?_
  exact lc_ok ht (fun σ H Q ⟨m, fp, r, p⟩ => p true H fp r (.refl _ _) rfl) h
/-- .. of one for with a test -/
theorem sd_lc1 {c : Expr} (hc : X.calm = true) (hN : X.N.Nodup) (hi : PI X tg iter (tI xr X.K W it)) (ok : BlkOk X.N X.env.scope scope own) (ht : ∀ i ∈ touch, i ∈ own.map (·.2))
    (hg : ∀ (s : Shared) (H : Hp) (C : Addr) (cl : List (Str × Addr)) (fp : List Addr), PG (X.blk s H scope (compEnvC scope cl C X.env) fp) tg (gT X.K touch bt))
    (hq : ∀ (s : Shared) (H : Hp) (C : Addr) (cl : List (Str × Addr)) (fp : List Addr), PT (X.blk s H scope (compEnvC scope cl C X.env) fp) c (tT xr X.K wF tst))
    (he : ∀ (s : Shared) (H : Hp) (C : Addr) (cl : List (Str × Addr)) (fp : List Addr), PE (X.blk s H scope (compEnvC scope cl C X.env) fp) elt (tE xr X.K wF f)) (hs : ∀ x, foldedSetIterable iter X.env x = pure x := by intro _; rfl) :
    PE X (.ListComp elt [⟨tg, iter, [c], 0⟩] scope pos) (tE xr X.K W (compE (own.map (·.2)) it bt tst f)) := by
  refine pe_imp (pe_lc (te := tD xr X.K wF (frzE f)) hc hN hi ok hg (fun s H C cl fp => pts_one (hq s H C cl fp)) (fun s H C cl fp => sd_frz (X := X.blk s H scope (compEnvC scope cl C X.env) fp) (he s H C cl fp)) hs) fun σ H Q h => ?_
  exact lc_ok ht (fun _ _ _ q => q) h
end
end PyE

/-! PyE: statements -/
namespace PyE
open PySem PySem.Spec PyProof.Rows
open L2

inductive Fo where
  | nx | bk | ct | rt (mv : Mv)
abbrev Sf := Ev Fo
/-- the slots at ro hold what they held at the entry -/
def Kept (ro : List Nat) (σ0 σ : St) : Prop := ∀ i ∈ ro, σ[i]? = σ0[i]?
theorem Kept.out {ro touch : List Nat} {σ0 σ σ' : St} (k : Kept ro σ0 σ) (o : Out touch σ σ') (h : ∀ i ∈ touch, i ∉ ro) : Kept ro σ0 σ' := fun i hi => (o.2 i fun z => h i z hi).trans (k i hi)
def PostS (xr : XR) (K : PySem.W.Frag) (W : WX) (ro : List Nat) (σ0 : St) (D : Ends) (H : Hp) (fp : Fp) : Res Fo → Prop
  | .ok .nx m' => ∀ σ' H' fp', RelS K H' m' σ' fp' → Step fp fp' H H' → Kept ro σ0 σ' → D.nx σ' H'
  | .ok .bk m' => ∀ σ' H' fp', RelS K H' m' σ' fp' → Step fp fp' H H' → Kept ro σ0 σ' → D.bk σ' H'
  | .ok .ct m' => ∀ σ' H' fp', RelS K H' m' σ' fp' → Step fp fp' H H' → Kept ro σ0 σ' → D.ct σ' H'
  | .ok (.rt mv) m' => ∀ v σ' H' fp' fr, RelS K H' m' σ' fp' → Step fp fp' H H' → Kept ro σ0 σ' → RelM K H' mv v fr → (∀ b ∈ fr, ∀ i, b ∉ fp' i) → (∀ b ∈ fr, H b = none) → D.rt v H'
  | .ex e m' => ∀ c d σ' H' fp', RelS K H' m' σ' fp' → Step fp fp' H H' → Kept ro σ0 σ' → xr K H' e c d → W c d σ' H'
  | .no => False
def tS (xr : XR) (K : PySem.W.Frag) (W : WX) (ro : List Nat) (σ0 : St) (g : Sf) : TS := fun D σ H => ∃ m fp, RelS K H m σ fp ∧ Kept ro σ0 σ ∧ PostS xr K W ro σ0 D H fp (g m)

section
variable {xr : XR} {K : PySem.W.Frag} {W : WX} {ro : List Nat} {σ0 σ : St} {H H1 : Hp} {fp fp1 : Fp} {D : Ends} {α β : Type}
theorem PostS.from {r : Res Fo} (p : PostS xr K W ro σ0 D H fp r) (s : Step fp fp1 H H1) : PostS xr K W ro σ0 D H1 fp1 r := by
  cases r with
  | no => exact p
  | ex e m' => exact fun c d σ' H' fp' rs st k x => p c d σ' H' fp' rs (s.trans st) k x
  | ok o m' =>
    cases o with
    | nx => exact fun σ' H' fp' rs st k => p σ' H' fp' rs (s.trans st) k
    | bk => exact fun σ' H' fp' rs st k => p σ' H' fp' rs (s.trans st) k
    | ct => exact fun σ' H' fp' rs st k => p σ' H' fp' rs (s.trans st) k
    | rt mv =>
      exact fun v σ' H' fp' fr rs st k rm n1 n2 => p v σ' H' fp' fr rs (s.trans st) k rm n1 fun b hb => s.trk b (n2 b hb)
/-- a statement that begins with an evaluation -/
theorem tS_bind {Ra : RelT α β} {f : Ev α} {g : α → Sf} {Q1 : β → Hp → Prop} (h : tS xr K W ro σ0 (bnd f g) D σ H)
    (h1 : ∀ fp a m1 v H1 fp1, RelS K H1 m1 σ fp1 → Step fp fp1 H H1 → Kept ro σ0 σ → Ra H H1 σ fp1 a v → PostS xr K W ro σ0 D H1 fp1 (g a m1) → Q1 v H1) : tG xr K W Ra f σ H Q1 := by
  obtain ⟨m, fp, r, k, p⟩ := h
  refine ⟨m, fp, r, ?_⟩
  unfold bnd at p
  generalize f m = q at p
  cases q with
  | no => exact p
  | ex x m' => exact fun c d H' fp' rs st x => p c d σ H' fp' rs st k x
  | ok a m1 => exact fun v H1 fp1 r1 s1 ra => h1 fp a m1 v H1 fp1 r1 s1 k ra (p.from s1)

/-- .. with the wish as it was at the beginning -/
theorem tS_bind0 {Ra : RelT α β} {f : Ev α} {g : α → Sf} {Q1 : β → Hp → Prop} (h : tS xr K W ro σ0 (bnd f g) D σ H)
    (h1 : ∀ fp a m1 v H1 fp1, RelS K H1 m1 σ fp1 → Step fp fp1 H H1 → Kept ro σ0 σ → Ra H H1 σ fp1 a v → PostS xr K W ro σ0 D H fp (g a m1) → Q1 v H1) : tG xr K W Ra f σ H Q1 := by
  obtain ⟨m, fp, r, k, p⟩ := h
  refine ⟨m, fp, r, ?_⟩
  unfold bnd at p
  generalize f m = q at p
  cases q with
  | no => exact p
  | ex x m' => exact fun c d H' fp' rs st x => p c d σ H' fp' rs st k x
  | ok a m1 => exact fun v H1 fp1 r1 s1 ra => h1 fp a m1 v H1 fp1 r1 s1 k ra p

def seqS (g h : Sf) : Sf := fun m => (g m).bind fun o m1 => match o with
  | .nx => h m1
  | o => .ok o m1
def skipS : Sf := fun m => .ok .nx m
def dropS (f : Ev Rv) : Sf := bnd f fun _ m => .ok .nx m
def ifS (c : Ev Bool) (g h : Sf) : Sf := bnd c fun b => if b = true then g else h
/-- what stands behind x = e, by the value that has come, frozen if it must be -/
def ownF (f : Ev Rv) : Ev Rv := bnd f fun r m => match r with
  | .s i => (frz (.s i) m).bind fun d m1 => .ok (.d d) m1
  | r => .ok r m
/-- x = e: a new list, a new dict is owned from now on -/
def putM (i : Nat) (r : Rv) : Sf := fun m => match r with
  | .nl xs => .ok .nx (m.set i (some (.ol xs)))
  | .nd kvs => .ok .nx (m.set i (some (.od kvs)))
  | .d x => .ok .nx (m.set i (some (.fz x)))
  | .nr k c a b => .ok .nx (m.set i (some (.rs k c a b)))
  | .s _ => .no
def setS (i : Nat) (f : Ev Rv) : Sf := bnd (ownF f) (putM i)
def setT (t : Tg) (f : Ev Rv) : Sf := bnd (frzE f) fun d m => match t d m with
  | some m' => .ok .nx m'
  | none => .no
/-- what is handed back: a new thing, or data -/
def giveM (r : Rv) : Sf := fun m => match r with
  | .nl xs => .ok (.rt (.ol xs)) m
  | .nd kvs => .ok (.rt (.od kvs)) m
  | .d x => .ok (.rt (.fz x)) m
  | .nr k c a b => .ok (.rt (.rs k c a b)) m
  | .s _ => .no
def retS (f : Ev Rv) : Sf := bnd (ownF f) giveM
def forL (bt : Tg) (body : Sf) : List PyData → Sf
  | [] => fun m => .ok .nx m
  | d :: ds => fun m => match bt d m with
    | none => .no
    | some m1 => (body m1).bind fun o m2 => match o with
      | .nx => forL bt body ds m2
      | .ct => forL bt body ds m2
      | .bk => .ok .nx m2
      | .rt v => .ok (.rt v) m2
def forS (it : Ev (List PyData)) (bt : Tg) (body : Sf) : Sf := bnd it (forL bt body)
def whileS (c : Ev Bool) (body : Sf) : Nat → Sf
  | 0 => fun _ => .no
  | n + 1 => bnd c fun b => if b = true then fun m => (body m).bind fun o m2 => match o with
      | .nx => whileS c body n m2
      | .ct => whileS c body n m2
      | .bk => .ok .nx m2
      | .rt v => .ok (.rt v) m2
    else fun m => .ok .nx m
end

section
variable {xr : XR} {W : WX} {ro : List Nat} {σ0 : St} {X : Cx} {st : Stmt} {rest a b : List Stmt} {g h : Sf} {f : Ev Rv} {fc : Ev Bool} {e c : Expr} {pos : Pos}
theorem ps_imp {t t' : TS} (h : PS X st t) (i : ∀ D σ H, t' D σ H → t D σ H) : PS X st t' := ⟨fun pins s σ H D I q => h.run pins s σ H D I (i D σ H q)⟩
theorem pss_imp {t t' : TS} (h : PSs X rest t) (i : ∀ D σ H, t' D σ H → t D σ H) : PSs X rest t' := ⟨fun pins s σ H D I q => h.run pins s σ H D I (i D σ H q)⟩
theorem seq_ok {K : PySem.W.Frag} {D : Ends} {σ : St} {H : Hp} (q : tS xr K W ro σ0 (seqS g h) D σ H) : tSeq (tS xr K W ro σ0 g) (tS xr K W ro σ0 h) D σ H := by
  obtain ⟨m, fp, r, k, p⟩ := q
  refine ⟨m, fp, r, k, ?_⟩
  unfold seqS at p
  generalize g m = z at p
  cases z with
  | no => exact p
  | ex x m' => exact p
  | ok o m1 =>
    cases o with
    | nx => exact fun σ' H' fp' rs st k => ⟨m1, fp', rs, k, PostS.from p st⟩
    | _ => exact p
theorem ss_nil : PSs X [] (tS xr X.K W ro σ0 skipS) := pss_imp pss_nil fun D σ H ⟨m, fp, r, k, p⟩ => p σ H fp r (.refl _ _) k
theorem ss_one (h1 : PS X st (tS xr X.K W ro σ0 g)) : PSs X [st] (tS xr X.K W ro σ0 g) := pss_one h1
theorem ss_cons (h1 : PS X st (tS xr X.K W ro σ0 g)) (h2 : PSs X rest (tS xr X.K W ro σ0 h)) : PSs X (st :: rest) (tS xr X.K W ro σ0 (seqS g h)) := pss_imp (pss_cons h1 h2) fun D σ H q => seq_ok q
theorem ss_pass : PS X (.Pass pos) (tS xr X.K W ro σ0 skipS) := ps_imp ps_pass fun D σ H ⟨m, fp, r, k, p⟩ => p σ H fp r (.refl _ _) k
theorem ss_break : PS X (.Break pos) (tS xr X.K W ro σ0 (fun m => .ok .bk m)) := ps_imp ps_break fun D σ H ⟨m, fp, r, k, p⟩ => p σ H fp r (.refl _ _) k
theorem ss_cont : PS X (.Continue pos) (tS xr X.K W ro σ0 (fun m => .ok .ct m)) := ps_imp ps_continue fun D σ H ⟨m, fp, r, k, p⟩ => p σ H fp r (.refl _ _) k
theorem ss_expr (he : PE X e (tE xr X.K W f)) (hs : swapsWith e none pos.line X.env = pure false := by rfl) : PS X (.Expr e pos) (tS xr X.K W ro σ0 (dropS f)) :=
  ps_imp (ps_expr he hs) fun D σ H q => tS_bind q fun fp a m1 v H1 fp1 r1 s1 k ra p => p σ H1 fp1 r1 (.refl _ _) k
theorem ss_if (hc : PT X c (tT xr X.K W fc)) (ha : PSs X a (tS xr X.K W ro σ0 g)) (hb : PSs X b (tS xr X.K W ro σ0 h)) : PS X (.If c a b pos) (tS xr X.K W ro σ0 (ifS fc g h)) := by
  refine ps_imp (ps_if hc ha hb) fun D σ H q => tS_bind q fun fp x m1 v H1 fp1 r1 s1 k ra p => ?_
  cases (show x = v from ra)
  cases x with
  | true => exact iteT ⟨m1, fp1, r1, k, by simpa using p⟩
  | false => exact iteF ⟨m1, fp1, r1, k, by simpa using p⟩
/-! ### x = e -/
theorem RelS.own {K : PySem.W.Frag} {H : Hp} {m : Sm} {σ : St} {fp : Fp} {i : Nat} {mv : Mv} {v : V} {f : List Addr} (r : RelS K H m σ fp) (rm : RelM K H mv v f) (nf : ∀ b ∈ f, ∀ j, b ∉ fp j) :
    RelS K H (m.set i (some mv)) (σ.set i (some v)) (fun j => if j = i then (if i < m.length then f else []) else fp j) := by
  refine ⟨fun j mv' q => ?_, fun j hj => ?_, fun j l b hb hc => ?_, by simpa using r.len⟩
  · by_cases hji : j = i
    · subst hji
      have hl : j < m.length := by simpa using nth_lt q
      rw [List.getElem?_set_self hl] at q; cases q
      exact ⟨v, by rw [List.getElem?_set_self (by rw [← r.len]; exact hl)], by rw [if_pos rfl, if_pos hl]; exact rm⟩
    · rw [List.getElem?_set_ne (Ne.symm hji)] at q
      obtain ⟨w, e1, q1⟩ := r.at_ j mv' q
      exact ⟨w, by rw [List.getElem?_set_ne (Ne.symm hji)]; exact e1, by rw [if_neg hji]; exact q1⟩
  · show (if j = i then (if i < m.length then f else []) else fp j) = []
    by_cases hji : j = i
    · subst hji
      rw [if_pos rfl]
      by_cases hl : j < m.length
      · exact absurd (List.getElem?_set_self hl) (hj mv)
      · exact if_neg hl
    · rw [if_neg hji]
      exact r.emp j fun mv' q => hj mv' (by rw [List.getElem?_set_ne (Ne.symm hji)]; exact q)
  · have hb : b ∈ (if j = i then (if i < m.length then f else []) else fp j) := hb
    have hc : b ∈ (if l = i then (if i < m.length then f else []) else fp l) := hc
    have sub : ∀ {b : Addr}, b ∈ (if i < m.length then f else []) → b ∈ f := fun {b} h => by
      split at h
      · exact h
      · cases h
    by_cases h1 : j = i
    · by_cases h2 : l = i
      · rw [h1, h2]
      · rw [if_pos h1] at hb; rw [if_neg h2] at hc
        exact absurd hc (nf b (sub hb) l)
    · by_cases h2 : l = i
      · rw [if_neg h1] at hb; rw [if_pos h2] at hc
        exact absurd hb (nf b (sub hc) j)
      · rw [if_neg h1] at hb; rw [if_neg h2] at hc
        exact r.dis j l b hb hc
theorem own_step {i : Nat} {f : List Addr} {fp fp1 : Fp} {H H1 : Hp} (s : Step fp fp1 H H1) (n : ∀ b ∈ f, H b = none) (l : Nat) : Step fp (fun j => if j = i then (if i < l then f else []) else fp1 j) H H1 := by
  refine ⟨fun j b hb => ?_, s.keep, s.trk⟩
  have hb : b ∈ (if j = i then (if i < l then f else []) else fp1 j) := hb
  by_cases h1 : j = i
  · rw [if_pos h1] at hb
    split at hb
    · exact .inr (n b hb)
    · cases hb
  · rw [if_neg h1] at hb; exact s.own j b hb
theorem sd_cond {p : Nat → Bool} (he : PE X e (tE xr X.K W f)) : PE X e (tE xr X.K W (bnd f fun r m => match r with
  | .s i => if p i = true then (frz (.s i) m).bind fun d m1 => .ok (.d d) m1 else .ok (.s i) m
  | r => .ok r m)) := by
  refine ⟨fun pins s σ H Q I q => ?_⟩
  obtain ⟨m, fp, r, q⟩ := q
  unfold bnd at q
  cases e1 : f m with
  | no => rw [e1] at q; exact q.elim
  | ex x m' => rw [e1] at q; exact he.run pins s σ H Q I ⟨m, fp, r, by rw [e1]; exact q⟩
  | ok a m1 =>
    rw [e1] at q
    cases a with
    | s i =>
      cases hp : p i with
      | false => exact he.run pins s σ H Q I ⟨m, fp, r, by rw [e1]; simp only [Res.bind, hp, Bool.false_eq_true, if_false] at q; exact q⟩
      | true =>
        simp only [Res.bind, hp, if_true] at q
        refine (sd_frz he).run pins s σ H Q I ⟨m, fp, r, ?_⟩
        unfold frzE bnd
        rw [e1]
        simp only [Res.bind]
        cases e2 : frz (.s i) m1 with
        | no => rw [e2] at q; exact q
        | ex x m' => rw [e2] at q; exact q
        | ok d m2 => rw [e2] at q; exact q
    | d x => exact he.run pins s σ H Q I ⟨m, fp, r, by rw [e1]; exact q⟩
    | nl x => exact he.run pins s σ H Q I ⟨m, fp, r, by rw [e1]; exact q⟩
    | nd x => exact he.run pins s σ H Q I ⟨m, fp, r, by rw [e1]; exact q⟩
    | nr k c a b => exact he.run pins s σ H Q I ⟨m, fp, r, by rw [e1]; exact q⟩
theorem sd_own (he : PE X e (tE xr X.K W f)) : PE X e (tE xr X.K W (ownF f)) := by
  have h := sd_cond (p := fun _ => true) he
  simp only [if_true] at h
  exact h
theorem put_ok {K : PySem.W.Frag} {i : Nat} {D : Ends} {σ : St} {H : Hp} (hi : i ∉ ro) (q : tS xr K W ro σ0 (setS i f) D σ H) : tAsg (tE xr K W (ownF f)) (gName i) D σ H := by
  refine tS_bind0 (Ra := RelR K) q fun fp a m1 v H1 fp1 r1 s1 k ra p => ?_
  have hk : Kept ro σ0 (σ.set i (some v)) := fun j hj => by rw [List.getElem?_set_ne (fun e => hi (by rw [e]; exact hj))]; exact k j hj
  cases a with
  | d x =>
    obtain ⟨fp', r', sb, o⟩ := r1.bind (i := i) (show Fz K H1 v x from ra)
    exact p _ H1 fp' r' (s1.trans sb.step) hk
  | s j => exact p.elim
  | nl xs =>
    obtain ⟨a, ys, rfl, ha, g, n, nf⟩ := ra
    exact p _ H1 _ (r1.own (i := i) (RelM.ol ha g) fun b hb j => by simp only [List.mem_singleton] at hb; subst hb; exact nf j) (own_step s1 (fun b hb => by simp only [List.mem_singleton] at hb; subst hb; exact n) _) hk
  | nd kvs =>
    obtain ⟨a, rfl, ha, n, nf⟩ := ra
    exact p _ H1 _ (r1.own (i := i) (RelM.od ha) fun b hb j => by simp only [List.mem_singleton] at hb; subst hb; exact nf j) (own_step s1 (fun b hb => by simp only [List.mem_singleton] at hb; subst hb; exact n) _) hk
  | nr k c a b =>
    obtain ⟨f, h, nf⟩ := ra
    exact p _ H1 _ (r1.own (i := i) (RelM.rs h) fun b hb => (nf b hb).2) (own_step s1 (fun b hb => (nf b hb).1) _) hk
theorem ss_set {i : Nat} {x : Str} {pos' : Pos} (hN : X.N.Nodup) (hi : X.N[i]? = some x) (hx : Loc X.env.scope x) (he : PE X e (tE xr X.K W f)) (hr : i ∉ ro) (hf : X.fn x = true ∨ X.env.scope.names.lookup x = some .local)
    (hs : swapsWith e (some (.Name x pos')) pos.line X.env = pure false := by rfl) : PS X (.Assign [.Name x pos'] e pos) (tS xr X.K W ro σ0 (setS i f)) :=
  ps_imp (ps_set hN hi hx (sd_own he) hs hf) fun D σ H q => put_ok hr q
theorem own_nl {own : List Nat} {it : Ev (List PyData)} {bt : Tg} {tst : Ev Bool} : ownF (compE own it bt tst f) = compE own it bt tst f := by
  funext m
  unfold ownF compE bnd
  cases it m with
  | no => rfl
  | ex x m' => rfl
  | ok ds m1 =>
    simp only [Res.bind]
    cases compL own bt tst (frzE f) ds [] (wipeM m1 own) <;> rfl
/-- y = [..], on one line, y a local -/
theorem ss_setLc0 {i : Nat} {y : Str} {py spos : Pos} {elt tg iter : Expr} {scope : Scope} {own : List (Str × Nat)} {it : Ev (List PyData)} {bt : Tg} {touch : List Nat} (hc : X.calm = true) (hN : X.N.Nodup) (hy : X.N[i]? = some y) (hyl : X.env.scope.names.lookup y = some .local) (hr : i ∉ ro)
    (hsw : swapsWith (.ListComp elt [⟨tg, iter, [], 0⟩] scope pos) (some (.Name y py)) spos.line X.env = pure true) (hi : PI X tg iter (tI xr X.K W it)) (ok : BlkOk X.N X.env.scope scope own) (ht : ∀ i ∈ touch, i ∈ own.map (·.2))
    (hg : ∀ (s : Shared) (H : Hp) (C : Addr) (cl : List (Str × Addr)) (fp : List Addr), PG (X.blk s H scope (compEnvC scope cl C X.env) fp) tg (gT X.K touch bt))
    (he : ∀ (s : Shared) (H : Hp) (C : Addr) (cl : List (Str × Addr)) (fp : List Addr), PE (X.blk s H scope (compEnvC scope cl C X.env) fp) elt (tE xr X.K wF f)) (hs : ∀ x, foldedSetIterable iter X.env x = pure x := by intro _; rfl) :
    PS X (.Assign [.Name y py] (.ListComp elt [⟨tg, iter, [], 0⟩] scope pos) spos) (tS xr X.K W ro σ0 (setS i (compE (own.map (·.2)) it bt yesT f))) := by
  refine ps_imp (ps_setLc (te := tD xr X.K wF (frzE f)) hc hN hy hyl hsw hi ok hg (fun _ _ _ _ _ => pts_nil) (fun s H C cl fp => sd_frz (X := X.blk s H scope (compEnvC scope cl C X.env) fp) (he s H C cl fp)) hs) fun D σ H q => ?_
  have z := put_ok hr q
  rw [own_nl] at z
  exact lc_ok ht (fun σ H Q ⟨m, fp, r, p⟩ => p true H fp r (.refl _ _) rfl) z
theorem ss_setLc1 {i : Nat} {y : Str} {py spos : Pos} {elt tg iter : Expr} {scope : Scope} {own : List (Str × Nat)} {it : Ev (List PyData)} {bt : Tg} {touch : List Nat} (hc : X.calm = true) (hN : X.N.Nodup) (hy : X.N[i]? = some y) (hyl : X.env.scope.names.lookup y = some .local) (hr : i ∉ ro)
    (hsw : swapsWith (.ListComp elt [⟨tg, iter, [c], 0⟩] scope pos) (some (.Name y py)) spos.line X.env = pure true) (hi : PI X tg iter (tI xr X.K W it)) (ok : BlkOk X.N X.env.scope scope own) (ht : ∀ i ∈ touch, i ∈ own.map (·.2))
    (hg : ∀ (s : Shared) (H : Hp) (C : Addr) (cl : List (Str × Addr)) (fp : List Addr), PG (X.blk s H scope (compEnvC scope cl C X.env) fp) tg (gT X.K touch bt))
    (hq : ∀ (s : Shared) (H : Hp) (C : Addr) (cl : List (Str × Addr)) (fp : List Addr), PT (X.blk s H scope (compEnvC scope cl C X.env) fp) c (tT xr X.K wF fc))
    (he : ∀ (s : Shared) (H : Hp) (C : Addr) (cl : List (Str × Addr)) (fp : List Addr), PE (X.blk s H scope (compEnvC scope cl C X.env) fp) elt (tE xr X.K wF f)) (hs : ∀ x, foldedSetIterable iter X.env x = pure x := by intro _; rfl) :
    PS X (.Assign [.Name y py] (.ListComp elt [⟨tg, iter, [c], 0⟩] scope pos) spos) (tS xr X.K W ro σ0 (setS i (compE (own.map (·.2)) it bt fc f))) := by
  refine ps_imp (ps_setLc (te := tD xr X.K wF (frzE f)) hc hN hy hyl hsw hi ok hg (fun s H C cl fp => pts_one (hq s H C cl fp)) (fun s H C cl fp => sd_frz (X := X.blk s H scope (compEnvC scope cl C X.env) fp) (he s H C cl fp)) hs) fun D σ H q => ?_
  have z := put_ok hr q
  rw [own_nl] at z
  exact lc_ok ht (fun _ _ _ q => q) z
/-- (a, b) = e, and the like -/
theorem ss_setT {tg : Expr} {t : Tg} {touch : List Nat} (he : PE X e (tE xr X.K W f)) (hg : PG X tg (gT X.K touch t)) (hr : ∀ i ∈ touch, i ∉ ro) (hs : swapsWithSole [tg] e pos.line X.env = pure false := by rfl) (hw : swappedStores [tg] e X.env = pure none := by rfl)
    (h1 : (assignEach [tg] X.env).map (·.2) = [assign tg X.env] := by rfl) : PS X (.Assign [tg] e pos) (tS xr X.K W ro σ0 (setT t f)) := by
  refine ps_imp (ps_asg (sd_frz he) hg hs hw h1) fun D σ H q => tS_bind q fun fp d m1 v H1 fp1 r1 s1 k z p => ?_
  cases e1 : t d m1 with
  | none => simp only [e1] at p; exact p.elim
  | some m' =>
    simp only [e1] at p
    exact ⟨m1, fp1, d, m', r1, z, e1, fun σ' fp' r' sb o => p σ' H1 fp' r' sb.step (k.out o hr)⟩
/-- return e -/
theorem ss_ret (he : PE X e (tE xr X.K W f)) : PS X (.Return (some e) pos) (tS xr X.K W ro σ0 (retS f)) := by
  refine ps_imp (ps_ret (sd_own he)) fun D σ H q => tS_bind0 (Ra := RelR X.K) q fun fp a m1 v H1 fp1 r1 s1 k ra p => ?_
  cases a with
  | d x => exact p v σ H1 fp1 [] r1 s1 k (.fz ra) (fun b hb => by cases hb) fun b hb => by cases hb
  | nl xs =>
    obtain ⟨a, ys, rfl, ha, g, n, nf⟩ := ra
    exact p _ σ H1 fp1 _ r1 s1 k (.ol ha g) (fun b hb j => by simp only [List.mem_singleton] at hb; subst hb; exact nf j) fun b hb => by simp only [List.mem_singleton] at hb; subst hb; exact n
  | nd kvs =>
    obtain ⟨a, rfl, ha, n, nf⟩ := ra
    exact p _ σ H1 fp1 _ r1 s1 k (.od ha) (fun b hb j => by simp only [List.mem_singleton] at hb; subst hb; exact nf j) fun b hb => by simp only [List.mem_singleton] at hb; subst hb; exact n
  | nr c cs a b =>
    obtain ⟨f, h, nf⟩ := ra
    exact p _ σ H1 fp1 _ r1 s1 k (.rs h) (fun b hb => (nf b hb).2) fun b hb => (nf b hb).1
  | s i => exact p.elim
theorem ss_retN : PS X (.Return none pos) (tS xr X.K W ro σ0 (fun m => .ok (.rt (.fz .none)) m)) :=
  ps_imp ps_retN fun D σ H ⟨m, fp, r, k, p⟩ => p .non σ H fp [] r (.refl _ _) k (.fz .non) (fun b hb => by cases hb) fun b hb => by cases hb
/-! ### loops -/
theorem ss_for {tg iter : Expr} {body : List Stmt} {it : Ev (List PyData)} {bt : Tg} {touch : List Nat} (hp : PassesOwn (model X.prog X.w) X.A X.env X.xe) (hc : X.calm = true) (hi : PI X tg iter (tI xr X.K W it)) (hg : PG X tg (gT X.K touch bt)) (hr : ∀ i ∈ touch, i ∉ ro) (hb : PSs X body (tS xr X.K W ro σ0 g))
    (hs : ∀ x, foldedSetIterable iter X.env x = pure x := by intro _; rfl) : PS X (.For tg iter body [] pos) (tS xr X.K W ro σ0 (forS it bt g)) := by
  refine ps_imp (ps_for hp hc hi hg hb hs) fun D σ H q => tS_bind (Ra := RelI X.K) q fun fp ds m1 J H1 fp1 r1 s1 k w p => ?_
  have w : WalkD X.K J ds H1 := w
  refine ⟨fun i n σ2 H2 => ∃ m2 fp2, i + n = ds.length ∧ RelS X.K H2 m2 σ2 fp2 ∧ Step fp1 fp2 H1 H2 ∧ Kept ro σ0 σ2 ∧ PostS xr X.K W ro σ0 D H1 fp1 (forL bt g (ds.drop i) m2), ⟨ds.length, m1, fp1, by omega, r1, .refl _ _, k, by simpa using p⟩, ?_⟩
  rintro i n σ2 H2 ⟨m2, fp2, hn, r2, s2, k2, p2⟩
  have k12 : Keep H1 H2 := r1.keepOf s2
  by_cases hlt : i < ds.length
  · refine .inr ⟨w.goes i H2 k12 hlt, fun σ3 H3 => ∃ m3 fp3, RelS X.K H3 m3 σ3 fp3 ∧ Step fp1 fp3 H1 H3 ∧ Kept ro σ0 σ3 ∧ PostS xr X.K W ro σ0 D H1 fp1 (forL bt g (ds.drop (i + 1)) m3), ?_, ?_⟩
    · rintro σ3 H3 ⟨m3, fp3, h1, h2, h3, h4⟩
      exact ⟨n - 1, by omega, m3, fp3, by omega, h1, h2, h3, h4⟩
    · intro x H3 hy
      obtain ⟨sm, d, ed, z⟩ := w.yields i H2 x H3 k12 hlt hy
      have ed2 : ds.drop i = d :: ds.drop (i + 1) := by
        obtain ⟨h1, h2⟩ := List.getElem?_eq_some_iff.mp ed
        rw [← h2]; exact List.drop_eq_getElem_cons h1
      rw [ed2] at p2
      unfold forL at p2
      cases eb : bt d m2 with
      | none => rw [eb] at p2; exact p2.elim
      | some m3 =>
        rw [eb] at p2
        refine ⟨m2, fp2, d, m3, r2.same sm, z, eb, fun σ3 fp3 r3 sb3 o3 => ⟨m3, fp3, r3, k2.out o3 hr, ?_⟩⟩
        have s3 : Step fp1 fp3 H1 H3 := (s2.trans (.same sm)).trans sb3.step
        have p3 : PostS xr X.K W ro σ0 D H3 fp3 ((g m3).bind fun o m2 => match o with
          | .nx => forL bt g (ds.drop (i + 1)) m2
          | .ct => forL bt g (ds.drop (i + 1)) m2
          | .bk => .ok .nx m2
          | .rt v => .ok (.rt v) m2) := PostS.from p2 s3
        cases eg : g m3 with
        | no => rw [eg] at p3; exact p3
        | ex x m' => rw [eg] at p3; exact p3
        | ok o m4 =>
          simp only [eg, Res.bind] at p3 p2
          cases o with
          | nx => exact fun σ' H' fp' rs st k => ⟨m4, fp', rs, s3.trans st, k, p2⟩
          | ct => exact fun σ' H' fp' rs st k => ⟨m4, fp', rs, s3.trans st, k, p2⟩
          | bk => exact p3
          | rt v => exact p3
  · have ei : i = ds.length := by omega
    subst ei
    refine .inl ⟨w.stops H2 k12, ?_⟩
    rw [List.drop_length] at p2
    exact p2 σ2 H2 fp2 r2 s2 k2
theorem ss_while {n : Nat} {body : List Stmt} (hp : PassesOwn (model X.prog X.w) X.A X.env X.xe) (hc : PT X c (tT xr X.K W fc)) (hb : PSs X body (tS xr X.K W ro σ0 g)) : PS X (.While c body [] pos) (tS xr X.K W ro σ0 (whileS fc g n)) := by
  refine ps_imp (ps_while hp hc hb) fun D σ H ⟨m, fp, r, k, p⟩ => ?_
  refine ⟨fun n σ2 H2 => ∃ m2 fp2, RelS X.K H2 m2 σ2 fp2 ∧ Kept ro σ0 σ2 ∧ PostS xr X.K W ro σ0 D H2 fp2 (whileS fc g n m2), ⟨n, m, fp, r, k, p⟩, ?_⟩
  rintro n σ2 H2 ⟨m2, fp2, r2, k2, p2⟩
  cases n with
  | zero => exact p2.elim
  | succ n =>
    refine tS_bind (Ra := RelB) (D := D) (ro := ro) (σ0 := σ0) ⟨m2, fp2, r2, k2, p2⟩ fun fp x m1 v H1 fp1 r1 s1 k ra p => ?_
    cases (show x = v from ra)
    cases x with
    | false => exact iteF (p σ2 H1 fp1 r1 (.refl _ _) k)
    | true =>
      refine iteT ⟨fun σ3 H3 => ∃ m3 fp3, RelS X.K H3 m3 σ3 fp3 ∧ Kept ro σ0 σ3 ∧ PostS xr X.K W ro σ0 D H3 fp3 (whileS fc g n m3), ?_, m1, fp1, r1, k, ?_⟩
      · rintro σ3 H3 ⟨m3, fp3, h1, h2, h3⟩
        exact ⟨n, Nat.lt_succ_self n, m3, fp3, h1, h2, h3⟩
      · simp only [if_true] at p
        cases eg : g m1 with
        | no => rw [eg] at p; exact p
        | ex x m' => rw [eg] at p; exact p
        | ok o m4 =>
          simp only [eg, Res.bind] at p
          cases o with
          | nx => exact fun σ' H' fp' rs st k => ⟨m4, fp', rs, k, PostS.from p st⟩
          | ct => exact fun σ' H' fp' rs st k => ⟨m4, fp', rs, k, PostS.from p st⟩
          | bk => exact p
          | rt v => exact p
end
end PyE

/-! PyE: defs and their calls -/
namespace PyE
open PySem PySem.Spec PyProof.Rows
open L2

/-- a def, over what its parameters hold: what it hands back, what they hold then -/
abbrev Fm := List Mv → Res Mv
/-- its promise -/
def spOf (xr : XR) (K : PySem.W.Frag) (np : Nat) (m : Fm) : Sp := fun vs H Q E => vs.length = np ∧ ∃ ms fp, RelS K H (ms.map some) (vs.map some) fp ∧ match m ms with
  | .ok r m' => ∀ v H' fp' fr, RelS K H' m' (vs.map some) fp' → RelM K H' r v fr → (∀ b ∈ fr, ∀ i, b ∉ fp' i) → (∀ b ∈ fr, H b = none) → Step fp fp' H H' → Q v H'
  | .ex e m' => ∀ c d H' fp', RelS K H' m' (vs.map some) fp' → Step fp fp' H H' → xr K H' e c d → E c d H'
  | .no => False
/-- a def keeps its promise, called where no repr is under way -/
structure FnG (P : Program) (w : World) (K : PySem.W.Frag) (mg : Str → Option Value) (base : Heap) (k : Nat) (f : Addr) (fd : FuncData) (ps : List Str) (sp : Sp) : Prop where
  len : ∀ {vs : List V} {H : Hp} {Q : VK} {E : XK}, sp vs H Q E → vs.length = ps.length
  run : ∀ {A : Around} {outer : List Env} {s : Shared} {H : Hp} {args : Args} {us : List Value} {vs : List V} {Q : VK} {E : XK}, Room k A → A.guards = some [] → Env0 P w K mg base A outer s H → BindsTo s fd args (ps.zip us) →
    Vals vs us → sp vs H Q E → codeAny (model P w) A (.call (.ref f) args) (CR (L2.CX P w) outer P w H s Q E) s
theorem FnG.mono {P : Program} {w : World} {K : PySem.W.Frag} {mg : Str → Option Value} {base : Heap} {j k : Nat} {f : Addr} {fd : FuncData} {ps : List Str} {sp : Sp} (F : FnG P w K mg base j f fd ps sp) (h : j ≤ k) : FnG P w K mg base k f fd ps sp :=
  ⟨F.len, fun hr => F.run (hr.mono h)⟩
theorem FnG.imp {P : Program} {w : World} {K : PySem.W.Frag} {mg : Str → Option Value} {base : Heap} {k : Nat} {f : Addr} {fd : FuncData} {ps : List Str} {sp sp' : Sp} (F : FnG P w K mg base k f fd ps sp) (h : ∀ vs H Q E, sp' vs H Q E → sp vs H Q E) : FnG P w K mg base k f fd ps sp' :=
  ⟨fun q => F.len (h _ _ _ _ q), fun hr hg he hb hv hs => F.run hr hg he hb hv (h _ _ _ _ hs)⟩

/-! ### handing over, taking back -/
def passM (m : Sm) : List Rv → Option (List Mv)
  | [] => some []
  | r :: rs => match r with
    | .d x => (passM m rs).map (.fz x :: ·)
    | .s i => match m[i]? with
      | some (some mv) => (passM m rs).map (mv :: ·)
      | _ => none
    | _ => none
def slotsOf : List Rv → List Nat
  | [] => []
  | .s i :: rs => i :: slotsOf rs
  | _ :: rs => slotsOf rs
def distinct : List Nat → Bool
  | [] => true
  | i :: is => !(is.contains i) && distinct is
def backM : List Rv → Sm → Sm → Sm
  | .s i :: rs, o :: os, m => backM rs os (m.set i o)
  | _ :: rs, _ :: os, m => backM rs os m
  | _, _, m => m
def mvR : Mv → Rv
  | .fz d => .d d
  | .ol xs => .nl xs
  | .od kvs => .nd kvs
  | .rs k c a b => .nr k c a b
def callM (f : Fm) (rs : List Rv) : Ev Rv := fun m => if distinct (slotsOf rs) = true then match passM m rs with
    | some ms => match f ms with
      | .ok r m' => .ok (mvR r) (backM rs m' m)
      | .ex e m' => .ex e (backM rs m' m)
      | .no => .no
    | none => .no
  else .no
/-- a new list that is handed over is frozen -/
def passF (f : Ev Rv) : Ev Rv := bnd f fun r m => match r with
  | .nl xs => .ok (.d (.list xs)) m
  | r => .ok r m
def argsP : List (Ev Rv) → Ev (List Rv)
  | [] => fun m => .ok [] m
  | f :: fs => bnd (passF f) fun r => bnd (argsP fs) fun rs m => .ok (r :: rs) m
def callE (f : Fm) (fs : List (Ev Rv)) : Ev Rv := bnd (argsP fs) (callM f)

section
variable {xr : XR} {K : PySem.W.Frag} {W : WX} {H H0 : Hp} {m : Sm} {σ : St} {fp : Fp}
theorem passM_len : ∀ {rs : List Rv} {ms : List Mv}, passM m rs = some ms → ms.length = rs.length
  | [], _, e => by cases e; rfl
  | r :: rs, ms, e => by
    unfold passM at e
    cases r with
    | d x =>
      cases q : passM m rs with
      | none => simp only [q] at e; cases e
      | some ns => simp only [q] at e; cases e; exact congrArg (· + 1) (passM_len q)
    | s i =>
      cases q1 : m[i]? with
      | none => simp only [q1] at e; cases e
      | some o =>
        cases o with
        | none => simp only [q1] at e; cases e
        | some mv =>
          cases q : passM m rs with
          | none => simp only [q1, q] at e; cases e
          | some ns => simp only [q1, q] at e; cases e; exact congrArg (· + 1) (passM_len q)
    | _ => cases e
/-- the footprint of what is handed over, by the argument's place -/
def fpOf (fp : Fp) (rs : List Rv) : Fp := fun j => match rs[j]? with
  | some (.s i) => fp i
  | _ => []
theorem passM_at (r : RelS K H m σ fp) : ∀ {rs : List Rv} {vs : List V} {ms : List Mv}, RelRs K H0 H σ fp rs vs → passM m rs = some ms → ∀ j mv, ms[j]? = some mv → ∃ v, vs[j]? = some v ∧ RelM K H mv v (fpOf fp rs j)
  | [], [], _, _, e, j, mv, h => by cases e; simp at h
  | x :: rs, v :: vs, ms, ⟨rx, rr⟩, e, j, mv, h => by
    unfold passM at e
    cases x with
    | d x =>
      cases q : passM m rs with
      | none => simp only [q] at e; cases e
      | some ns =>
        simp only [q] at e; cases e
        cases j with
        | zero => simp at h; subst h; exact ⟨v, rfl, .fz rx⟩
        | succ j =>
          obtain ⟨w, e1, q1⟩ := passM_at r rr q j mv (by simpa using h)
          exact ⟨w, by simpa using e1, by simpa [fpOf] using q1⟩
    | s i =>
      cases q1 : m[i]? with
      | none => simp only [q1] at e; cases e
      | some o =>
        cases o with
        | none => simp only [q1] at e; cases e
        | some mv' =>
          cases q : passM m rs with
          | none => simp only [q1, q] at e; cases e
          | some ns =>
            simp only [q1, q] at e; cases e
            cases j with
            | zero =>
              simp at h; subst h
              obtain ⟨w, e1, rm⟩ := r.at_ i mv' q1
              have rx : σ[i]? = some (some v) := rx
              rw [rx] at e1; cases e1
              exact ⟨v, rfl, rm⟩
            | succ j =>
              obtain ⟨w, e1, q1⟩ := passM_at r rr q j mv (by simpa using h)
              exact ⟨w, by simpa using e1, by simpa [fpOf] using q1⟩
    | _ => cases e
theorem slots_mem {i : Nat} : ∀ {rs : List Rv} {j : Nat}, rs[j]? = some (.s i) → i ∈ slotsOf rs
  | [], j, h => by simp at h
  | r :: rs, 0, h => by
    simp at h; subst h
    exact List.mem_cons_self
  | r :: rs, j + 1, h => by
    have q := slots_mem (i := i) (rs := rs) (j := j) (by simpa using h)
    cases r <;> first | exact q | exact List.mem_cons_of_mem _ q
theorem of_slots {i : Nat} : ∀ {rs : List Rv}, i ∈ slotsOf rs → ∃ j : Nat, rs[j]? = some (Rv.s i)
  | [], h => by cases h
  | r :: rs, h => by
    cases r with
    | s k =>
      rcases List.mem_cons.mp h with e | h
      · exact ⟨0, by rw [e]; rfl⟩
      · obtain ⟨j, q⟩ := of_slots h; exact ⟨j + 1, by simpa using q⟩
    | _ => (obtain ⟨j, q⟩ := of_slots (rs := rs) h; exact ⟨j + 1, by simpa using q⟩)
theorem distinct_inj {i : Nat} : ∀ {rs : List Rv} {j l : Nat}, distinct (slotsOf rs) = true → rs[j]? = some (.s i) → rs[l]? = some (.s i) → j = l
  | [], j, l, _, h, _ => by simp at h
  | r :: rs, j, l, d, h1, h2 => by
    have dt : distinct (slotsOf rs) = true := by
      cases r with
      | s k => exact (Bool.and_eq_true_iff.mp d).2
      | _ => exact d
    cases j with
    | zero =>
      simp at h1; subst h1
      cases l with
      | zero => rfl
      | succ l =>
        have q := slots_mem (i := i) (rs := rs) (j := l) (by simpa using h2)
        have z := (Bool.and_eq_true_iff.mp d).1
        simp only [Bool.not_eq_true', List.contains_eq_mem, decide_eq_false_iff_not] at z
        exact absurd q z
    | succ j =>
      cases l with
      | zero =>
        simp at h2; subst h2
        have q := slots_mem (i := i) (rs := rs) (j := j) (by simpa using h1)
        have z := (Bool.and_eq_true_iff.mp d).1
        simp only [Bool.not_eq_true', List.contains_eq_mem, decide_eq_false_iff_not] at z
        exact absurd q z
      | succ l => exact congrArg (· + 1) (distinct_inj dt (by simpa using h1) (by simpa using h2))
theorem pass_ok {rs : List Rv} {vs : List V} {ms : List Mv} (r : RelS K H m σ fp) (rr : RelRs K H0 H σ fp rs vs) (e : passM m rs = some ms) (d : distinct (slotsOf rs) = true) : RelS K H (ms.map some) (vs.map some) (fpOf fp rs) := by
  have hl := passM_len e
  have hr := rr.length
  refine ⟨fun j mv h => ?_, fun j h => ?_, fun i j b hb hc => ?_, by simp; omega⟩
  · rw [List.getElem?_map] at h
    cases q : ms[j]? with
    | none => rw [q] at h; cases h
    | some mv' =>
      rw [q] at h; cases h
      obtain ⟨v, e1, q1⟩ := passM_at r rr e j mv q
      exact ⟨v, by rw [List.getElem?_map, e1]; rfl, q1⟩
  · unfold fpOf
    by_cases hj : j < rs.length
    · exfalso
      obtain ⟨mv, q⟩ : ∃ mv, ms[j]? = some mv := ⟨ms[j]'(by omega), by simp⟩
      exact h mv (by rw [List.getElem?_map, q]; rfl)
    · rw [List.getElem?_eq_none (by omega)]
  · unfold fpOf at hb hc
    cases q1 : rs[i]? with
    | none => rw [q1] at hb; cases hb
    | some x =>
      cases q2 : rs[j]? with
      | none => rw [q2] at hc; cases hc
      | some y =>
        rw [q1] at hb; rw [q2] at hc
        cases x with
        | s a =>
          cases y with
          | s b' =>
            have z := r.dis a b' b hb hc
            subst z
            exact distinct_inj d q1 q2
          | _ => cases hc
        | _ => cases hb
/-- the slots behind a call: what was handed over holds what the call made of it -/
theorem backM_length : ∀ (rs : List Rv) (os m : Sm), (backM rs os m).length = m.length
  | [], _, _ => by unfold backM; rfl
  | .s i :: rs, [], m => by unfold backM; rfl
  | .s i :: rs, o :: os, m => by unfold backM; rw [backM_length rs os, List.length_set]
  | .d _ :: rs, [], m => by unfold backM; rfl
  | .nl _ :: rs, [], m => by unfold backM; rfl
  | .nd _ :: rs, [], m => by unfold backM; rfl
  | .nr _ _ _ _ :: rs, [], m => by unfold backM; rfl
  | .d _ :: rs, o :: os, m => by unfold backM; exact backM_length rs os m
  | .nl _ :: rs, o :: os, m => by unfold backM; exact backM_length rs os m
  | .nd _ :: rs, o :: os, m => by unfold backM; exact backM_length rs os m
  | .nr _ _ _ _ :: rs, o :: os, m => by unfold backM; exact backM_length rs os m
theorem backM_other {i : Nat} : ∀ {rs : List Rv} {os m : Sm}, i ∉ slotsOf rs → (backM rs os m)[i]? = m[i]?
  | [], _, _, _ => by unfold backM; rfl
  | r :: rs, [], m, h => by cases r <;> (unfold backM; rfl)
  | .s k :: rs, o :: os, m, h => by
    unfold backM
    have h1 : i ≠ k := fun e => h (by rw [e]; exact List.mem_cons_self)
    have h2 : i ∉ slotsOf rs := fun e => h (List.mem_cons_of_mem _ e)
    rw [backM_other h2, List.getElem?_set_ne (Ne.symm h1)]
  | .d _ :: rs, o :: os, m, h => by unfold backM; exact backM_other (rs := rs) h
  | .nl _ :: rs, o :: os, m, h => by unfold backM; exact backM_other (rs := rs) h
  | .nd _ :: rs, o :: os, m, h => by unfold backM; exact backM_other (rs := rs) h
  | .nr _ _ _ _ :: rs, o :: os, m, h => by unfold backM; exact backM_other (rs := rs) h
theorem backM_at {i : Nat} : ∀ {rs : List Rv} {os m : Sm} {j : Nat} {o : Option Mv}, distinct (slotsOf rs) = true → i < m.length → rs[j]? = some (.s i) → os[j]? = some o → (backM rs os m)[i]? = some o
  | [], _, _, j, _, _, _, h, _ => by simp at h
  | r :: rs, [], m, j, _, _, _, _, h => by simp at h
  | r :: rs, o' :: os, m, 0, o, d, hi, h, e => by
    simp at h e; subst h; subst e
    unfold backM
    have z := (Bool.and_eq_true_iff.mp d).1
    simp only [Bool.not_eq_true', List.contains_eq_mem, decide_eq_false_iff_not] at z
    rw [backM_other z, List.getElem?_set_self hi]
  | .s k :: rs, o' :: os, m, j + 1, o, d, hi, h, e => by
    unfold backM
    exact backM_at (Bool.and_eq_true_iff.mp d).2 (by rw [List.length_set]; exact hi) (by simpa using h) (by simpa using e)
  | .d _ :: rs, o' :: os, m, j + 1, o, d, hi, h, e => by unfold backM; exact backM_at (rs := rs) d hi (by simpa using h) (by simpa using e)
  | .nl _ :: rs, o' :: os, m, j + 1, o, d, hi, h, e => by unfold backM; exact backM_at (rs := rs) d hi (by simpa using h) (by simpa using e)
  | .nd _ :: rs, o' :: os, m, j + 1, o, d, hi, h, e => by unfold backM; exact backM_at (rs := rs) d hi (by simpa using h) (by simpa using e)
  | .nr _ _ _ _ :: rs, o' :: os, m, j + 1, o, d, hi, h, e => by unfold backM; exact backM_at (rs := rs) d hi (by simpa using h) (by simpa using e)
theorem relRs_at : ∀ {rs : List Rv} {vs : List V} {j : Nat} {i : Nat}, RelRs K H0 H σ fp rs vs → rs[j]? = some (.s i) → ∃ v, vs[j]? = some v ∧ σ[i]? = some (some v)
  | [], [], j, _, _, h => by simp at h
  | r :: rs, v :: vs, 0, i, ⟨h1, _⟩, h => by simp at h; subst h; exact ⟨v, rfl, h1⟩
  | r :: rs, v :: vs, j + 1, i, ⟨_, h2⟩, h => by
    obtain ⟨w, e, q⟩ := relRs_at (j := j) h2 (by simpa using h)
    exact ⟨w, by simpa using e, q⟩
/-- which of the values is slot i -/
def placeOf (i : Nat) : List Rv → Option Nat
  | [] => none
  | .s k :: rs => if k = i then some 0 else (placeOf i rs).map (· + 1)
  | _ :: rs => (placeOf i rs).map (· + 1)
theorem placeOf_some {i : Nat} : ∀ {rs : List Rv} {j : Nat}, placeOf i rs = some j → rs[j]? = some (.s i)
  | [], _, e => by cases e
  | r :: rs, j, e => by
    have tl : (placeOf i rs).map (· + 1) = some j → (r :: rs)[j]? = some (.s i) := fun e => by
      cases q : placeOf i rs with
      | none => rw [q] at e; cases e
      | some l => rw [q] at e; cases e; simpa using placeOf_some q
    cases r with
    | s k =>
      unfold placeOf at e
      by_cases h : k = i
      · rw [if_pos h] at e; cases e; rw [h]; rfl
      · rw [if_neg h] at e; exact tl e
    | _ => exact tl e
theorem placeOf_none {i : Nat} : ∀ {rs : List Rv}, placeOf i rs = none → i ∉ slotsOf rs
  | [], _, h => by cases h
  | r :: rs, e, h => by
    have tl : (placeOf i rs).map (· + 1) = none → i ∉ slotsOf rs := fun e => placeOf_none (by simpa using e)
    cases r with
    | s k =>
      unfold placeOf at e
      by_cases hk : k = i
      · rw [if_pos hk] at e; cases e
      · rw [if_neg hk] at e
        rcases List.mem_cons.mp h with z | z
        · exact hk z.symm
        · exact tl e z
    | _ => exact tl e h
theorem back_ok {H1 : Hp} {rs : List Rv} {vs : List V} {m' : Sm} {fp' : Fp} (r : RelS K H m σ fp) (rr : RelRs K H0 H σ fp rs vs) (d : distinct (slotsOf rs) = true) (r' : RelS K H1 m' (vs.map some) fp') (s : Step (fpOf fp rs) fp' H H1) :
    ∃ fp2, RelS K H1 (backM rs m' m) σ fp2 ∧ Step fp fp2 H H1 ∧ ∀ b, (∀ i, b ∉ fp' i) → H b = none → ∀ i, b ∉ fp2 i := by
  have nin : ∀ {i : Nat} {b : Addr}, i ∉ slotsOf rs → b ∈ fp i → ∀ j, b ∉ fpOf fp rs j := fun {i b} hi hb j hj => by
    unfold fpOf at hj
    cases q : rs[j]? with
    | none => rw [q] at hj; cases hj
    | some x =>
      rw [q] at hj
      cases x with
      | s k => exact hi (by rw [r.dis i k b hb hj]; exact slots_mem q)
      | _ => cases hj
  have sub : ∀ {j : Nat} {b : Addr}, b ∈ fpOf fp rs j → ∃ i, b ∈ fp i := fun {j b} hj => by
    unfold fpOf at hj
    cases q : rs[j]? with
    | none => rw [q] at hj; cases hj
    | some x =>
      rw [q] at hj
      cases x with
      | s k => exact ⟨k, hj⟩
      | _ => cases hj
  have k01 : Keep H H1 := fun b u e n => s.keep b u e fun j hj => by
    obtain ⟨i, hi⟩ := sub hj
    have := r.mut hi; rw [e] at this; exact n this
  have hl : ∀ {i j : Nat}, rs[j]? = some (.s i) → i < m.length := fun {i j} h => by
    obtain ⟨v, _, q⟩ := relRs_at rr h
    rw [r.len]; exact nth_lt q
  have lm : m'.length = rs.length := by
    have h1 := r'.len
    rw [List.length_map] at h1
    rw [h1, rr.length]
  refine ⟨fun i => match placeOf i rs with | some j => fp' j | none => fp i, ⟨fun i mv e => ?_, fun i h => ?_, fun i j b hb hc => ?_, by rw [backM_length]; exact r.len⟩, ⟨fun i b hb => ?_, fun b o e n => s.keep b o e fun j hj => ?_, s.trk⟩, fun b h1 h2 i hi => ?_⟩
  · cases q : placeOf i rs with
    | none =>
      rw [backM_other (placeOf_none q)] at e
      obtain ⟨v, e1, rm⟩ := r.at_ i mv e
      refine ⟨v, e1, rm.keep k01 fun b hb => ?_⟩
      cases e2 : H b with
      | none => exact absurd e2 (r.some_ hb)
      | some o => exact s.keep b o e2 (nin (placeOf_none q) hb)
    | some j =>
      have hj := placeOf_some q
      obtain ⟨o, ho⟩ : ∃ o, m'[j]? = some o := ⟨m'[j]'(by rw [lm]; exact nth_lt hj), by simp⟩
      rw [backM_at d (hl hj) hj ho] at e
      cases e
      obtain ⟨v, e1, rm⟩ := r'.at_ j mv ho
      obtain ⟨u, e2, e3⟩ := relRs_at rr hj
      rw [List.getElem?_map, e2] at e1
      have e4 : u = v := Option.some.inj (Option.some.inj e1)
      exact ⟨v, by rw [← e4]; exact e3, rm⟩
  · cases q : placeOf i rs with
    | none => exact r.emp i fun mv e => h mv (by rw [backM_other (placeOf_none q)]; exact e)
    | some j =>
      have hj := placeOf_some q
      exact r'.emp j fun mv e => h mv (backM_at d (hl hj) hj e)
  · have own2 : ∀ {i j l : Nat} {b : Addr}, placeOf i rs = none → placeOf l rs = some j → b ∈ fp i → b ∈ fp' j → False := fun {i j l b} h1 h2 hb hc => by
      rcases s.own j b hc with ⟨k, hk⟩ | hk
      · exact nin (placeOf_none h1) hb k hk
      · exact r.some_ hb hk
    cases q1 : placeOf i rs with
    | none =>
      cases q2 : placeOf j rs with
      | none => simp only [q1] at hb; simp only [q2] at hc; exact r.dis i j b hb hc
      | some l => simp only [q1] at hb; simp only [q2] at hc; exact (own2 q1 q2 hb hc).elim
    | some l =>
      cases q2 : placeOf j rs with
      | none => simp only [q1] at hb; simp only [q2] at hc; exact (own2 q2 q1 hc hb).elim
      | some l2 =>
        simp only [q1] at hb; simp only [q2] at hc
        have z := r'.dis l l2 b hb hc
        subst z
        have e1 := placeOf_some q1
        have e2 := placeOf_some q2
        rw [e1] at e2; cases e2; rfl
  · cases q : placeOf i rs with
    | none => simp only [q] at hb; exact .inl ⟨i, hb⟩
    | some j =>
      simp only [q] at hb
      rcases s.own j b hb with ⟨l, z⟩ | z
      · exact .inl (sub z)
      · exact .inr z
  · obtain ⟨i, hi⟩ := sub hj
    exact n i hi
  · cases q : placeOf i rs with
    | none => simp only [q] at hi; exact r.some_ hi h2
    | some j => simp only [q] at hi; exact h1 j hi
theorem mvR_ok {mv : Mv} {v : V} {fr : List Addr} {fp2 : Fp} {H1 : Hp} (rm : RelM K H1 mv v fr) (h1 : ∀ b ∈ fr, H b = none) (h2 : ∀ b ∈ fr, ∀ i, b ∉ fp2 i) : RelR K H H1 σ fp2 (mvR mv) v := by
  cases rm with
  | fz h => exact h
  | ol h g => exact ⟨_, _, rfl, h, g, h1 _ (by simp), h2 _ (by simp)⟩
  | od h => exact ⟨_, rfl, h, h1 _ (by simp), h2 _ (by simp)⟩
  | rs h => exact ⟨_, h, fun b hb => ⟨h1 b hb, h2 b hb⟩⟩
/-- what a call asks, by the values that are handed over -/
theorem call_ok {f : Fm} {np : Nat} {rs : List Rv} {vs : List V} {Q : VK} (hn : ∀ ms, ms.length ≠ np → f ms = .no) (r : RelS K H m σ fp) (rr : RelRs K H0 H σ fp rs vs) (p : Post xr K W (RelR K) σ H fp Q (callM f rs m)) : spOf xr K np f vs H Q (fun c d H' => W c d σ H') := by
  unfold callM at p
  split at p
  · rename_i d
    cases e : passM m rs with
    | none => rw [e] at p; exact p.elim
    | some ms =>
      rw [e] at p
      have hl : vs.length = np := by
        rw [← rr.length, ← passM_len e]
        by_cases h : ms.length = np
        · exact h
        · simp only [hn ms h] at p; exact p.elim
      refine ⟨hl, ms, fpOf fp rs, pass_ok r rr e d, ?_⟩
      cases ef : f ms with
      | no => simp only [ef] at p; exact p.elim
      | ex x m' =>
        simp only [ef] at p ⊢
        intro c dd H1 fp' r' s' x'
        obtain ⟨fp2, r2, s2, _⟩ := back_ok r rr d r' s'
        exact p c dd H1 fp2 r2 s2 x'
      | ok mv m' =>
        simp only [ef] at p ⊢
        intro v H1 fp' fr r' rm nf fn s'
        obtain ⟨fp2, r2, s2, n2⟩ := back_ok r rr d r' s'
        exact p v H1 fp2 r2 s2 (mvR_ok rm fn fun b hb => n2 b (nf b hb) (fn b hb))
  · exact p.elim
end
end PyE

/-! PyE: call expressions, bodies, the law's end -/
namespace PyE
open PySem PySem.Spec PyProof.Rows
open L2

section
variable {xr : XR} {W : WX} {X : Cx} {e : Expr} {es : List Expr} {f : Ev Rv} {fs gs : List (Ev Rv)} {pos p : Pos} {x : Str} {k np : Nat} {a : Addr} {fd : FuncData} {ps : List Str} {fm : Fm}
theorem sd_pass (he : PE X e (tE xr X.K W f)) : PE X e (tE xr X.K W (passF f)) := by
  refine ⟨fun pins s σ H Q I q => ?_⟩
  obtain ⟨m, fp, r, p⟩ := q
  unfold passF bnd at p
  cases e1 : f m with
  | no => rw [e1] at p; exact p.elim
  | ex x m' => rw [e1] at p; exact he.run pins s σ H Q I ⟨m, fp, r, by rw [e1]; exact p⟩
  | ok b m1 =>
    rw [e1] at p
    cases b with
    | nl xs =>
      refine (sd_frz he).run pins s σ H Q I ⟨m, fp, r, ?_⟩
      unfold frzE bnd
      rw [e1]
      exact p
    | d y => exact he.run pins s σ H Q I ⟨m, fp, r, by rw [e1]; exact p⟩
    | s y => exact he.run pins s σ H Q I ⟨m, fp, r, by rw [e1]; exact p⟩
    | nd y => exact he.run pins s σ H Q I ⟨m, fp, r, by rw [e1]; exact p⟩
    | nr c y z w => exact he.run pins s σ H Q I ⟨m, fp, r, by rw [e1]; exact p⟩
theorem sap_nil : PA X [] (tA xr X.K W (argsP [])) := pa_imp pa_nil fun σ H Q ⟨m, fp, r, p⟩ => p [] H fp r (.refl _ _) trivial
theorem sap_cons (ha : PE X e (tE xr X.K W f)) (hr : PA X es (tA xr X.K W (argsP fs))) (hs : starEach (e :: es) X.env = (false, eval e X.env) :: starEach es X.env := by rfl) : PA X (e :: es) (tA xr X.K W (argsP (f :: fs))) := by
  refine pa_imp (pa_cons (sd_pass ha) hr hs) fun σ H Q h => tG_bind2 (Rb := RelRs X.K) (Rc := RelRs X.K) h fun fp fp1 m1 b bs m2 v us H1 H2 fp2 s1 r1 ra r2 s2 rb q => ?_
  exact q _ H2 fp2 r2 (s1.trans s2) ⟨ra.step r1 s2, rb.from s1.trk⟩
/-- the values of keywords -/
theorem pk_imp {kws : List Keyword} {t t' : TA} (h : PK X kws t) (i : ∀ σ H Q, t' σ H Q → t σ H Q) : PK X kws t' := ⟨fun pos pins s σ H Q I q => h.run pos pins s σ H Q I (i σ H Q q)⟩
theorem skp_nil : PK X [] (tA xr X.K W (argsP [])) := pk_imp pk_nil fun σ H Q ⟨m, fp, r, p⟩ => p [] H fp r (.refl _ _) trivial
theorem skp_cons {kws : List Keyword} {kpos : Pos} {nm : Option Str} (ha : PE X e (tE xr X.K W f)) (hr : PK X kws (tA xr X.K W (argsP fs))) : PK X (⟨nm, e, kpos⟩ :: kws) (tA xr X.K W (argsP (f :: fs))) := by
  refine pk_imp (pk_cons (sd_pass ha) hr) fun σ H Q h => tG_bind2 (Rb := RelRs X.K) (Rc := RelRs X.K) h fun fp fp1 m1 b bs m2 v us H1 H2 fp2 s1 r1 ra r2 s2 rb q => ?_
  exact q _ H2 fp2 r2 (s1.trans s2) ⟨ra.step r1 s2, rb.from s1.trk⟩

/-- the callee runs -/
theorem run_G {pins : List (Addr × Obj)} {σ : St} {H : Hp} {s : Shared} {Q : VK} {us : List Value} {kw : List (Str × Value)} {zs : List Value} {vs : List V} (F : FnG X.prog X.w X.K X.mg X.base k a fd ps (spOf xr X.K np fm)) (hr : Room k X.A) (hG : X.A.guards = some []) (tk : Takes X W)
    (I : Inv X pins σ H s) (hb : zs.length = ps.length → BindsTo s fd ⟨us, kw⟩ (ps.zip zs)) (r : Vals vs zs) (h : spOf xr X.K np fm vs H Q (fun c d H' => W c d σ H')) : wpAny (model X.prog X.w) X.A (call (.ref a) us kw) (EP X pins σ Q) X.xe s := by
  have hl : zs.length = ps.length := by rw [← r.length]; exact F.len h
  refine wpAny_call (codeAny_mono (F.run hr hG I.env0 (hb hl) r h) fun z s' hq => ?_)
  cases z with
  | error u => exact tk u s' (XE.of_call I (fun _ _ _ q => q) hq)
  | ok fl =>
    cases fl with
    | ret u => exact I.after hq
    | next => exact False.elim hq
    | brk => exact False.elim hq
    | cont => exact False.elim hq
theorem callE_ok {σ : St} {H : Hp} {Q : VK} (hn : ∀ ms, ms.length ≠ np → fm ms = .no) (h : tE xr X.K W (callE fm fs) σ H Q) : tA xr X.K W (argsP fs) σ H (fun vs H1 => spOf xr X.K np fm vs H1 Q (fun c d H' => W c d σ H')) :=
  tG_tail (Rc := RelR X.K) h (fun _ _ _ _ _ _ t q => q.from t) fun fp as m1 vs H1 fp1 r1 s1 ra q => call_ok hn r1 ra q
/-- f(e, ..) -/
theorem sd_call (F : FnG X.prog X.w X.K X.mg X.base k a fd ps (spOf xr X.K np fm)) (hn : ∀ ms, ms.length ≠ np → fm ms = .no) (hr : Room k X.A) (hG : X.A.guards = some []) (hg : Gl X x) (hm : X.mg x = some (.ref a)) (hk : PySem.W.keepIn X.K (.ref a) = true)
    (hb : Binds X.K fd ps []) (tk : Takes X W) (ha : PA X (e :: es) (tA xr X.K W (argsP fs))) (hdb : (x == ("__debug__" : Str)) = false := by decide) (he : starEach (e :: es) X.env = (false, eval e X.env) :: starEach es X.env := by rfl)
    (hpl : (backTo pos (starEach es X.env)).any (·.1) = false := by rfl) : PE X (.Call (.Name x p) (e :: es) [] pos) (tE xr X.K W (callE fm fs)) := by
  refine ⟨fun pins s σ H Q I h => ?_⟩
  refine wpAny_Call_Name_kw (ld_glob I hg hm ?_ hdb)
  refine PySem.W.callWith_K (h₀ := X.base) I.ok.mod.kin hk (thn (ha.run pos pins s σ H _ I (callE_ok hn h)) fun us s1 ⟨vs, H1, I1, r, q⟩ => ⟨I1.kIn, ?_⟩) he hpl
  exact run_G F hr hG tk I1 (fun hl => by
    have z := hb s1 us I1.kIn (by rw [List.append_nil]; exact hl)
    rw [List.append_nil] at z
    exact z) r q
/-- f() -/
theorem sd_call0 (F : FnG X.prog X.w X.K X.mg X.base k a fd ps (spOf xr X.K np fm)) (hn : ∀ ms, ms.length ≠ np → fm ms = .no) (hr : Room k X.A) (hG : X.A.guards = some []) (hg : Gl X x) (hm : X.mg x = some (.ref a)) (hk : PySem.W.keepIn X.K (.ref a) = true)
    (hb : Binds X.K fd ps []) (tk : Takes X W) (hdb : (x == ("__debug__" : Str)) = false := by decide) : PE X (.Call (.Name x p) [] [] pos) (tE xr X.K W (callE fm [])) := by
  refine ⟨fun pins s σ H Q I h => ?_⟩
  refine wpAny_Call_Name_kw (ld_glob I hg hm ?_ hdb)
  obtain ⟨m, fp, r, q⟩ := h
  exact PySem.W.callWith_K0 I.kIn hk (run_G (us := []) (kw := []) (zs := []) (vs := []) F hr hG tk I (fun hl => hb s [] I.kIn hl) .nil (call_ok (rs := []) (H0 := H) hn r trivial q))
/-- how written values, n by place and j by names, come to the parameters: perm -/
def permL {α : Type} (n j : Nat) (perm : List Nat) (z : α) (us ws : List α) : List α := if us.length = n ∧ ws.length = j then perm.map fun i => (us ++ ws).getD i z else []
theorem getD_vals {i : Nat} : ∀ {vs : List V} {us : List Value}, Vals vs us → RelV (vs.getD i .non) (us.getD i .none) := fun {vs us} r => by
  rw [List.getD_eq_getElem?_getD, List.getD_eq_getElem?_getD]
  cases q : vs[i]? with
  | none => rw [r.none_of q]; rfl
  | some v =>
    obtain ⟨u, e, rv⟩ := r.get q
    rw [e]; exact rv
theorem map_vals {vs : List V} {us : List Value} (r : Vals vs us) : ∀ perm : List Nat, Vals (perm.map fun i => vs.getD i .non) (perm.map fun i => us.getD i .none)
  | [] => .nil
  | i :: is => .cons (getD_vals r) (map_vals r is)
theorem perm_vals {n j : Nat} {perm : List Nat} {vs zs : List V} {us ws : List Value} (r : Vals vs us) (r2 : Vals zs ws) : Vals (permL n j perm .non vs zs) (permL n j perm .none us ws) := by
  unfold permL
  rw [r.length, r2.length]
  split
  · exact map_vals (r.append r2) perm
  · exact .nil
theorem getD_rel {K : PySem.W.Frag} {H0 H : Hp} {σ : St} {fp : Fp} : ∀ {rs : List Rv} {vs : List V} (i : Nat), RelRs K H0 H σ fp rs vs → RelR K H0 H σ fp (rs.getD i (.d .none)) (vs.getD i .non)
  | [], [], i, h => .non
  | _ :: _, _ :: _, 0, h => h.1
  | _ :: _, _ :: _, i + 1, h => getD_rel i h.2
theorem map_rel {K : PySem.W.Frag} {H0 H : Hp} {σ : St} {fp : Fp} {rs : List Rv} {vs : List V} (r : RelRs K H0 H σ fp rs vs) : ∀ perm : List Nat, RelRs K H0 H σ fp (perm.map fun i => rs.getD i (.d .none)) (perm.map fun i => vs.getD i .non)
  | [] => trivial
  | i :: is => ⟨getD_rel i r, map_rel r is⟩
theorem relRs_app {K : PySem.W.Frag} {H0 H : Hp} {σ : St} {fp : Fp} : ∀ {rs : List Rv} {vs : List V} {qs : List Rv} {ws : List V}, RelRs K H0 H σ fp rs vs → RelRs K H0 H σ fp qs ws → RelRs K H0 H σ fp (rs ++ qs) (vs ++ ws)
  | [], [], _, _, _, h => h
  | _ :: _, _ :: _, _, _, ⟨h1, h2⟩, h => ⟨h1, relRs_app h2 h⟩
theorem perm_rel {n j : Nat} {perm : List Nat} {K : PySem.W.Frag} {H0 H : Hp} {σ : St} {fp : Fp} {rs qs : List Rv} {vs zs : List V} (r : RelRs K H0 H σ fp rs vs) (r2 : RelRs K H0 H σ fp qs zs) : RelRs K H0 H σ fp (permL n j perm (.d .none) rs qs) (permL n j perm .non vs zs) := by
  unfold permL
  rw [← r.length, ← r2.length]
  split
  · exact map_rel (relRs_app r r2) perm
  · exact trivial
/-- how keywords bind -/
def KBp (K : PySem.W.Frag) (fd : FuncData) (ps ks : List Str) (n : Nat) (perm : List Nat) : Prop :=
  ∀ (s : Shared) (us ws : List Value), K.In s.heap → us.length = n → ws.length = ks.length → BindsTo s fd ⟨us, ks.zip ws⟩ (ps.zip (permL n ks.length perm .none us ws))
def callKE (fm : Fm) (n j : Nat) (perm : List Nat) (fs gs : List (Ev Rv)) : Ev Rv := bnd (argsP fs) fun rs => bnd (argsP gs) fun qs => callM fm (permL n j perm (.d .none) rs qs)
theorem kbp_use {K : PySem.W.Frag} {ks : List Str} {n : Nat} {perm : List Nat} {s : Shared} {us ws : List Value} (hb : KBp K fd ps ks n perm) (hp : ps ≠ []) (kin : K.In s.heap) (hl : (permL n ks.length perm Value.none us ws).length = ps.length) :
    BindsTo s fd ⟨us, ks.zip ws⟩ (ps.zip (permL n ks.length perm .none us ws)) := by
  by_cases h : us.length = n ∧ ws.length = ks.length
  · exact hb s us ws kin h.1 h.2
  · unfold permL at hl
    rw [if_neg h] at hl
    exact absurd (List.length_eq_zero_iff.mp hl.symm) hp
/-- f(k = e, ..): keywords alone -/
theorem sd_callK0 {ks : List Str} {kws : List Keyword} {perm : List Nat} (F : FnG X.prog X.w X.K X.mg X.base k a fd ps (spOf xr X.K np fm)) (hn : ∀ ms, ms.length ≠ np → fm ms = .no) (hr : Room k X.A) (hG : X.A.guards = some []) (hg : Gl X x) (hm : X.mg x = some (.ref a))
    (hk : PySem.W.keepIn X.K (.ref a) = true) (hb : KBp X.K fd ps ks 0 perm) (hp : ps ≠ []) (tk : Takes X W) (hkw : PK X kws (tA xr X.K W (argsP gs))) (hall : (backToKw pos (keywordEach kws X.env)).all (·.1.isSome) = true := by rfl)
    (hks : (backToKw pos (keywordEach kws X.env)).filterMap (·.1) = ks := by rfl) (hdb : (x == ("__debug__" : Str)) = false := by decide) (hpl : ((backTo pos (starEach [] X.env)).any (·.1) || (backToKw pos (keywordEach kws X.env)).any (·.1.isNone)) = false := by rfl) :
    PE X (.Call (.Name x p) [] kws pos) (tE xr X.K W (callKE fm 0 ks.length perm [] gs)) := by
  refine ⟨fun pins s σ H Q I h => ?_⟩
  have h2 : tA xr X.K W (argsP gs) σ H (fun zs H1 => spOf xr X.K np fm (permL 0 ks.length perm .non [] zs) H1 Q (fun c d H' => W c d σ H')) :=
    tG_tail (Rc := RelR X.K) (show tE xr X.K W (bnd (argsP gs) fun qs => callM fm (permL 0 ks.length perm (.d .none) [] qs)) σ H Q from h) (fun _ _ _ _ _ _ t q => q.from t) fun fp as m1 zs H1 fp1 r1 s1 ra q =>
      call_ok hn r1 (perm_rel (rs := []) (vs := []) trivial ra) q
  refine wpAny_Call_Name_kw (ld_glob I hg hm ?_ hdb)
  refine PySem.W.callWith_KW0 (h₀ := X.base) I.ok.mod.kin hk hall (thn (hkw.run pos pins s σ H _ I h2) fun ws s2 ⟨zs, H2, I2, rz, q2⟩ => ⟨I2.kIn, ?_⟩) hpl
  rw [hks]
  exact run_G F hr hG tk I2 (fun hl => kbp_use (us := []) hb hp I2.kIn hl) (perm_vals (vs := []) .nil rz) q2
/-- f(e, .., k = e', ..) -/
theorem sd_callK {ks : List Str} {kws : List Keyword} {perm : List Nat} {n : Nat} (F : FnG X.prog X.w X.K X.mg X.base k a fd ps (spOf xr X.K np fm)) (hn : ∀ ms, ms.length ≠ np → fm ms = .no) (hr : Room k X.A) (hG : X.A.guards = some []) (hg : Gl X x) (hm : X.mg x = some (.ref a))
    (hk : PySem.W.keepIn X.K (.ref a) = true) (hb : KBp X.K fd ps ks n perm) (hp : ps ≠ []) (tk : Takes X W) (ha : PA X (e :: es) (tA xr X.K W (argsP fs))) (hkw : PK X kws (tA xr X.K W (argsP gs))) (hall : (backToKw pos (keywordEach kws X.env)).all (·.1.isSome) = true := by rfl)
    (hks : (backToKw pos (keywordEach kws X.env)).filterMap (·.1) = ks := by rfl) (hdb : (x == ("__debug__" : Str)) = false := by decide) (he : starEach (e :: es) X.env = (false, eval e X.env) :: starEach es X.env := by rfl)
    (hpl : ((backTo pos (starEach (e :: es) X.env)).any (·.1) || (backToKw pos (keywordEach kws X.env)).any (·.1.isNone)) = false := by rfl) :
    PE X (.Call (.Name x p) (e :: es) kws pos) (tE xr X.K W (callKE fm n ks.length perm fs gs)) := by
  refine ⟨fun pins s σ H Q I h => ?_⟩
  have h2 : tA xr X.K W (argsP fs) σ H (fun vs H1 => tA xr X.K W (argsP gs) σ H1 fun zs H2 => spOf xr X.K np fm (permL n ks.length perm .non vs zs) H2 Q (fun c d H' => W c d σ H')) :=
    tG_bind2 (Ra := RelRs X.K) (Rb := RelRs X.K) (Rc := RelR X.K) h fun fp fp1 m1 as bs m2 vs zs H1 H2 fp2 s1 r1 ra r2 s2 rb q =>
      call_ok hn r2 (perm_rel (RelRs.step r1 s2 ra) (rb.from s1.trk)) (q.from (s1.trans s2) fun H' fp' x w z => RelR.from z (fun b hb => s1.trk b (s2.trk b hb)))
  refine wpAny_Call_Name_kw (ld_glob I hg hm ?_ hdb)
  refine PySem.W.callWith_KW (h₀ := X.base) I.ok.mod.kin hk hall (thn (ha.run pos pins s σ H _ I h2) fun us s1 ⟨vs, H1, I1, r, q⟩ => ?_) hpl he
  refine thn (hkw.run pos pins s1 σ H1 _ I1 q) fun ws s2 ⟨zs, H2, I2, rz, q2⟩ => ⟨I2.kIn, ?_⟩
  rw [hks]
  exact run_G F hr hG tk I2 (fun hl => kbp_use hb hp I2.kIn hl) (perm_vals r rz) q2
end

/-! ### bodies -/
/-- what the parameters hold behind a body: those at ro what they hold then, the others what they held -/
def backP (ro : List Nat) : Nat → List Mv → Sm → Sm
  | _, [], _ => []
  | i, mv :: r, m => (if i ∈ ro then (m.head?).join else some mv) :: backP ro (i + 1) r m.tail
def allFz (ro : List Nat) : Nat → List Mv → Bool
  | _, [] => true
  | i, .fz _ :: r => allFz ro (i + 1) r
  | i, _ :: r => decide (i ∈ ro) && allFz ro (i + 1) r
/-- a def by its body: np parameters, n names -/
def runF (np n : Nat) (ro : List Nat) (g : Sf) : Fm := fun ms => if ms.length = np then if allFz ro 0 ms = true then match g (ms.map some ++ List.replicate (n - np) none) with
    | .ok (.rt mv) m' => .ok mv (backP ro 0 ms m')
    | .ok .nx m' => .ok (.fz .none) (backP ro 0 ms m')
    | .ex e m' => .ex e (backP ro 0 ms m')
    | _ => .no
  else .no else .no
theorem runF_len (np n : Nat) (ro : List Nat) (g : Sf) : ∀ ms, ms.length ≠ np → runF np n ro g ms = .no := fun ms h => by unfold runF; rw [if_neg h]
theorem allFz_at {ro : List Nat} : ∀ {i : Nat} {ms : List Mv}, allFz ro i ms = true → ∀ j mv, ms[j]? = some mv → (i + j) ∉ ro → ∃ d, mv = .fz d
  | _, [], _, j, mv, h, _ => by simp at h
  | i, m :: r, a, 0, mv, h, hn => by
    simp at h; subst h
    cases m with
    | fz d => exact ⟨d, rfl⟩
    | _ => exact absurd (of_decide_eq_true (Bool.and_eq_true_iff.mp a).1) hn
  | i, m :: r, a, j + 1, mv, h, hn => by
    have a2 : allFz ro (i + 1) r = true := by
      cases m with
      | fz d => exact a
      | _ => exact (Bool.and_eq_true_iff.mp a).2
    exact allFz_at a2 j mv (by simpa using h) (by rw [Nat.add_assoc, Nat.add_comm 1 j]; exact hn)
theorem backP_length (ro : List Nat) : ∀ (i : Nat) (ms : List Mv) (m : Sm), (backP ro i ms m).length = ms.length
  | _, [], _ => rfl
  | i, _ :: r, m => congrArg (· + 1) (backP_length ro (i + 1) r m.tail)
theorem backP_at {ro : List Nat} : ∀ {i : Nat} {ms : List Mv} {m : Sm} {j : Nat} {mv : Mv}, (backP ro i ms m)[j]? = some (some mv) → ((i + j) ∈ ro ∧ m[j]? = some (some mv)) ∨ ((i + j) ∉ ro ∧ ms[j]? = some mv)
  | _, [], _, j, _, h => by simp [backP] at h
  | i, a :: r, m, 0, mv, h => by
    simp only [backP, List.getElem?_cons_zero, Option.some.injEq] at h
    by_cases hi : i ∈ ro
    · rw [if_pos hi] at h
      refine .inl ⟨hi, ?_⟩
      cases m with
      | nil => cases h
      | cons x m => simp at h; rw [h]; rfl
    · rw [if_neg hi] at h
      cases h
      exact .inr ⟨hi, rfl⟩
  | i, a :: r, m, j + 1, mv, h => by
    have z := backP_at (i := i + 1) (ms := r) (m := m.tail) (j := j) (mv := mv) (by simpa [backP] using h)
    have e : i + 1 + j = i + (j + 1) := by omega
    rw [e] at z
    rcases z with ⟨h1, h2⟩ | ⟨h1, h2⟩
    · refine .inl ⟨h1, ?_⟩
      cases m with
      | nil => simp at h2
      | cons x m => simpa using h2
    · exact .inr ⟨h1, by simpa using h2⟩
theorem start_at {N : List Str} {vs : List V} {i : Nat} {v : V} (h : vs[i]? = some v) : (L2.start N vs)[i]? = some (some v) := by
  unfold L2.start
  rw [List.getElem?_append_left (by rw [List.length_map]; exact nth_lt h), List.getElem?_map, h]; rfl
section
variable {xr : XR} {K : PySem.W.Frag} {H : Hp} {N : List Str} {ms : List Mv} {vs : List V} {fp : Fp} {ro : List Nat} {g : Sf} {Q : VK} {E : XK}
theorem entry_ok (hN : vs.length ≤ N.length) (r : RelS K H (ms.map some) (vs.map some) fp) : RelS K H (ms.map some ++ List.replicate (N.length - ms.length) none) (L2.start N vs) fp := by
  have hl : ms.length = vs.length := by simpa using r.len
  refine ⟨fun i mv e => ?_, fun i h => ?_, r.dis, by unfold L2.start; simp; omega⟩
  · by_cases hi : i < ms.length
    · rw [List.getElem?_append_left (by rw [List.length_map]; exact hi)] at e
      obtain ⟨v, e1, q⟩ := r.at_ i mv e
      rw [List.getElem?_map] at e1
      cases e2 : vs[i]? with
      | none => rw [e2] at e1; cases e1
      | some w =>
        rw [e2] at e1
        have e3 : w = v := Option.some.inj (Option.some.inj e1)
        exact ⟨v, by rw [← e3]; exact start_at e2, q⟩
    · rw [List.getElem?_append_right (by rw [List.length_map]; omega)] at e
      rw [List.getElem?_replicate] at e
      split at e
      · cases e
      · cases e
  · refine r.emp i fun mv e => h mv ?_
    rw [List.getElem?_append_left (by simpa using nth_lt e)]
    exact e
theorem exit_ok {m' : Sm} {σ' : St} {H' : Hp} {fp' : Fp} (hN : vs.length ≤ N.length) (r : RelS K H (ms.map some) (vs.map some) fp) (a : allFz ro 0 ms = true) (r' : RelS K H' m' σ' fp') (s : Step fp fp' H H') (k : Kept ro (L2.start N vs) σ') :
    RelS K H' (backP ro 0 ms m') (vs.map some) (fun i => if i ∈ ro ∧ i < ms.length then fp' i else []) ∧ Step fp (fun i => if i ∈ ro ∧ i < ms.length then fp' i else []) H H' := by
  have hl : ms.length = vs.length := by simpa using r.len
  refine ⟨⟨fun i mv e => ?_, fun i h => ?_, fun i j b hb hc => ?_, by rw [backP_length, List.length_map, hl]⟩, ⟨fun i b hb => ?_, s.keep, s.trk⟩⟩
  · have hi : i < ms.length := by have := nth_lt e; rw [backP_length] at this; exact this
    rcases backP_at e with ⟨h1, h2⟩ | ⟨h1, h2⟩
    · rw [Nat.zero_add] at h1
      obtain ⟨v, e1, q⟩ := r'.at_ i mv h2
      rw [k i h1] at e1
      obtain ⟨w, e2⟩ : ∃ w, vs[i]? = some w := ⟨vs[i]'(by omega), by simp⟩
      rw [start_at e2] at e1
      cases e1
      exact ⟨v, by rw [List.getElem?_map, e2]; rfl, by rw [if_pos ⟨h1, hi⟩]; exact q⟩
    · obtain ⟨d, e3⟩ := allFz_at a i mv h2 h1
      rw [Nat.zero_add] at h1
      subst e3
      obtain ⟨v, e1, q⟩ := r.at_ i (.fz d) (by rw [List.getElem?_map, h2]; rfl)
      refine ⟨v, e1, ?_⟩
      rw [if_neg fun z => h1 z.1]
      generalize fp i = f0 at q
      cases q with
      | fz z => exact .fz (z.keep (r.keepOf s))
  · by_cases hi : i ∈ ro ∧ i < ms.length
    · show (if i ∈ ro ∧ i < ms.length then fp' i else []) = []
      rw [if_pos hi]
      refine r'.emp i fun mv e => h mv ?_
      have hb : ∀ {o l : Nat} {ms : List Mv} {m : Sm}, (o + l) ∈ ro → l < ms.length → m[l]? = some (some mv) → (backP ro o ms m)[l]? = some (some mv) := by
        intro o l ms
        induction ms generalizing o l with
        | nil => intro m _ h2 _; simp at h2
        | cons x r ih =>
          intro m h1 h2 h3
          cases l with
          | zero =>
            have h1 : o ∈ ro := h1
            cases m with
            | nil => simp at h3
            | cons y m => simp at h3; subst h3; simp [backP, h1]
          | succ l =>
            cases m with
            | nil => simp at h3
            | cons y m =>
              have e : o + (l + 1) = o + 1 + l := by omega
              simpa [backP] using ih (o := o + 1) (l := l) (m := m) (by rw [← e]; exact h1) (by simpa using h2) (by simpa using h3)
      exact hb (by rw [Nat.zero_add]; exact hi.1) hi.2 e
    · exact if_neg hi
  · have hb : b ∈ (if i ∈ ro ∧ i < ms.length then fp' i else []) := hb
    have hc : b ∈ (if j ∈ ro ∧ j < ms.length then fp' j else []) := hc
    split at hb
    · split at hc
      · exact r'.dis i j b hb hc
      · cases hc
    · cases hb
  · have hb : b ∈ (if i ∈ ro ∧ i < ms.length then fp' i else []) := hb
    split at hb
    · exact s.own i b hb
    · cases hb
/-- the body's reading, from the def's promise -/
theorem body_ok (hN : vs.length ≤ N.length) (h : spOf xr K np (runF np N.length ro g) vs H Q E) : tS xr K (fun c d _ H => E c d H) ro (L2.start N vs) g { nx := fun _ H' => Q .non H', rt := Q } (L2.start N vs) H := by
  obtain ⟨hl, ms, fp, r, p⟩ := h
  have hm : ms.length = vs.length := by simpa using r.len
  have en := entry_ok hN r
  unfold runF at p
  rw [if_pos (hm.trans hl)] at p
  cases ha : allFz ro 0 ms with
  | false => simp [ha] at p
  | true =>
    rw [if_pos ha] at p
    refine ⟨_, fp, en, fun _ _ => rfl, ?_⟩
    have e1 : N.length - np = N.length - ms.length := by omega
    rw [e1] at p
    cases eg : g (ms.map some ++ List.replicate (N.length - ms.length) none) with
    | no => simp only [eg] at p
    | ex x m' =>
      simp only [eg] at p
      intro c d σ' H' fp' r' s k z
      obtain ⟨r2, s2⟩ := exit_ok hN r ha r' s k
      exact p c d H' _ r2 s2 z
    | ok o m' =>
      cases o with
      | nx =>
        simp only [eg] at p
        intro σ' H' fp' r' s k
        obtain ⟨r2, s2⟩ := exit_ok hN r ha r' s k
        exact p .non H' _ [] r2 (.fz .non) (fun b hb => by cases hb) (fun b hb => by cases hb) s2
      | rt mv =>
        simp only [eg] at p
        intro v σ' H' fp' fr r' s k rm n1 n2
        obtain ⟨r2, s2⟩ := exit_ok hN r ha r' s k
        refine p v H' _ fr r2 rm (fun b hb i hi => ?_) n2 s2
        have hi : b ∈ (if i ∈ ro ∧ i < ms.length then fp' i else []) := hi
        split at hi
        · exact n1 b hb i hi
        · cases hi
      | bk => simp only [eg] at p
      | ct => simp only [eg] at p
end
/-- the context of a def's body -/
abbrev bodyX (P : Program) (w : World) (K : PySem.W.Frag) (mg : Str → Option Value) (base : Heap) (N : List Str) (qual : Str) (sc : Scope) (f : Addr) (cdv : Value) (A : Around) (outer : List Env) (s : Shared) (H : Hp) (E : XK) : Cx :=
  cxOf (L2.CX P w) P w K mg base N qual sc f cdv A outer s H E
section
variable {xr : XR} {P : Program} {w : World} {K : PySem.W.Frag} {mg : Str → Option Value} {base : Heap} {k : Nat} {N ps : List Str} {qual x : Str} {sc : Scope} {f : Addr} {cdv : Value} {A : Around} {outer : List Env} {s : Shared} {H : Hp} {E : XK} {fd : FuncData} {st : Stmt} {ro : List Nat} {g : Sf}
theorem body_takes : Takes (bodyX P w K mg base N qual sc f cdv A outer s H E) (fun c d _ H => E c d H) := takes_of rfl rfl rfl rfl
theorem body_passes : PassesOwn (model P w) (bodyX P w K mg base N qual sc f cdv A outer s H E).A (bodyX P w K mg base N qual sc f cdv A outer s H E).env (bodyX P w K mg base N qual sc f cdv A outer s H E).xe := passes_of (X := bodyX P w K mg base N qual sc f cdv A outer s H E) rfl
/-- THE RULE: a def of the text, by the evaluation of its body -/
theorem fnG_of (F : Fun K x qual st f fd) (S : FnScope N ps (defScope st)) (hbody : ∀ (cdv : Value) (A : Around) (outer : List Env) (s : Shared) (H : Hp) (vs : List V) (E : XK), Room k (bodyX P w K mg base N qual (defScope st) f cdv A outer s H E).A →
      (bodyX P w K mg base N qual (defScope st) f cdv A outer s H E).A.guards = some [] →
      PSs (bodyX P w K mg base N qual (defScope st) f cdv A outer s H E) (defBody st) (tS xr K (fun c d _ H => E c d H) ro (L2.start N vs) g)) :
    FnG P w K mg base (k + 1) f fd ps (spOf xr K ps.length (runF ps.length N.length ro g)) := by
  refine ⟨fun q => q.1, ?_⟩
  intro A outer s H args us vs Q E room hG e0 hb rv q
  obtain ⟨oc, od, kV, doc, pm, an, cd, ct, osl, rfl, lk, hcd⟩ := F.ex
  have hps : vs.length = ps.length := q.1
  have hN : vs.length ≤ N.length := by
    have z := congrArg List.length S.pre
    rw [List.length_take] at z
    omega
  have kin : K.In s.heap := e0.mod.kin.keeps fun b o e => (e0.bs b o e).1
  have lim : s.heap.NoLimit := e0.mod.nolimit.keeps fun b o e => (e0.bs b o e).1
  have kinds : ∀ y ∈ ps.zip us, (defScope st).names.lookup y.1 = some .local ∨ ((defScope st).names.lookup y.1 = some .cell ∧ ((cellsFrom (s.heap.objs.size + 1) (defScope st).names []).lookup y.1).isSome = true) := by
    rintro ⟨n, v⟩ hy
    rcases S.par n (List.of_mem_zip hy).1 with z | z
    · exact .inl z
    · exact .inr ⟨z, PySem.W.cellsFrom_some _ _ _ (.inl z)⟩
  refine codeAny_call_function room.depth (kin _ _ lk) rfl S.co S.gen rfl (PySem.W.codeRec_of kin hcd) (hb _ _ _ _ ?_)
  refine wpAny_newFunctionEnv_cells S.kind kinds fun env he s1 hx => ?_
  subst he
  refine ⟨lim.keeps hx.toInCall.keep, codeAny_func ?_⟩
  have body := hbody cd A outer s H vs E (room.deeper _) hG
  have inv : Inv (bodyX P w K mg base N qual (defScope st) f cd A outer s H E) [] (L2.start N vs) H s1 := inv_start S room.hd e0 hps rv hx
  refine wpAny_mono (body.run [] s1 (L2.start N vs) H _ inv (body_ok hN q)) (fun fl s' hs => ?_) fun e s' hs => hs
  cases fl with
  | ret u => exact let ⟨v, σ', H', J, rv, z⟩ := hs; ⟨v, H', J.os, J.bare, J.base, J.hok, rv, z⟩
  | next => exact let ⟨σ', H', J, z⟩ := hs; ⟨.non, H', J.os, J.bare, J.base, J.hok, rfl, z⟩
  | brk => obtain ⟨_, _, _, z⟩ := hs; exact False.elim z
  | cont => obtain ⟨_, _, _, z⟩ := hs; exact False.elim z
end

/-! ### the law -/
/-- what is asked of the law's def as a function of the script -/
def LawIs (f : Fm) (n : Nat) : Prop := ∀ ns : List Int, ns.length ≤ n → ∃ m', f [.fz (.list (ns.map PyData.int))] = .ok (.fz (.bool true)) m'
theorem law_sp {xr : XR} {K : PySem.W.Frag} {H : Hp} {a : Addr} {ns : List Int} {f : Fm} {n : Nat} (L : LawIs f n) (hn : ns.length ≤ n) (h : FL K H a (ns.map V.int)) : spOf xr K 1 f [.ref a] H (fun v _ => v = .bl true) fun _ _ _ => False := by
  refine ⟨rfl, [.fz (.list (ns.map PyData.int))], fun _ => [], ⟨fun i mv e => ?_, fun _ _ => rfl, (fun _ _ _ hb => by cases hb), rfl⟩, ?_⟩
  · cases i with
    | zero => cases e; exact ⟨_, rfl, .fz (.lst h (.ints ns))⟩
    | succ i => simp at e
  · obtain ⟨m', e⟩ := L ns hn
    rw [e]
    intro v H' fp' fr r rm n1 n2 s
    cases rm with
    | fz z => exact fz_bool z
/-- the law's call over the heap behind the top -/
theorem law_run {xr : XR} {P : Program} {w : World} {K : PySem.W.Frag} {mg mb : Str → Option Value} {k n : Nat} {fa a : Addr} {fd : FuncData} {x : Str} {f : Fm} {s1 : Shared} {vs : List Value} {ns : List Int} (kin : K.In s1.heap) (hm : s1.heap.Ns mainGlobals mg) (hb : s1.heap.Ns builtinsNs mb)
    (hbb : ∀ x : Str, x ≠ "__name__" → mb x = bootBuiltins x) (lim : s1.heap.NoLimit) (hg : s1.gens = #[]) (ha : s1.heap.get? a = some { cls := .type "list", data := .seq vs.toArray }) (hi : IntsAre vs ns) (hl : ns.length ≤ n) (hn : n ≤ sizeLine) (room : Room k callerA)
    (F : ∀ base : Heap, K.In base → base.Ns mainGlobals mg → FnG P w K mg base k fa fd [x] (spOf xr K 1 f)) (bind : ∀ (s : Shared) (u : Value), BindsTo s fd ⟨[u], []⟩ [(x, u)]) (L : LawIs f n) :
    codeAny (model P w) callerA (.call (.ref fa) ⟨[.ref a], []⟩) (fun r s' => r = .ok (.ret (.bool true)) ∧ OldK s1.heap s'.heap ∧ s'.os = s1.os ∧ AllBare s'.gens) s1 := by
  have rv := vals_ints hi
  have lv := hi.length
  suffices core : ∀ H : Hp, Only H → FL K H a (ns.map V.int) → HOk P w H s1.heap → (∀ b, H b ≠ none → b = a ∧ K.lookup a = none) → codeAny (model P w) callerA (.call (.ref fa) ⟨[.ref a], []⟩) (fun r s' => r = .ok (.ret (.bool true)) ∧ OldK s1.heap s'.heap ∧ s'.os = s1.os ∧ AllBare s'.gens) s1 by
    cases hk : K.lookup a with
    | some o =>
      have e := kin a o hk
      rw [ha] at e
      cases e
      refine core (fun _ => none) (fun _ => .inl rfl) (.inr ⟨vs.toArray, _, hk, ?_, by simpa using rv⟩) (fun b u z => nomatch z) fun b z => absurd rfl z
      rw [List.size_toArray, lv]; omega
    | none =>
      have at_ : ∀ b, (if b = a then some (HO.frz { cls := .type "list", data := .seq vs.toArray } (.lst (ns.map V.int))) else none) ≠ none → b = a := fun b z => by
        by_cases hb : b = a
        · exact hb
        · exact absurd (if_neg hb) z
      refine core (fun b => if b = a then some (.frz { cls := .type "list", data := .seq vs.toArray } (.lst (ns.map V.int))) else none) (fun b => ?_) (.inl ⟨_, if_pos rfl⟩) (fun b u z => ?_) fun b z => ⟨at_ b z, hk⟩
      · by_cases hb : b = a
        · exact .inr ⟨_, _, if_pos hb⟩
        · exact .inl (if_neg hb)
      · have hb := at_ b (fun q => by have z2 := q.symm.trans z; cases z2)
        subst hb
        have z2 := (if_pos rfl).symm.trans z
        cases z2
        exact ⟨ha, by rw [List.length_map]; omega, vs, _, rv, ha⟩
  intro H hO hS hok hA
  have un : ∀ {b : Addr} {o : Obj}, s1.heap.get? b = some o → o.data ≠ .seq vs.toArray 0 → H b = none := fun {b o} e d => by
    cases q : H b with
    | none => rfl
    | some u =>
      have z := (hA b (by rw [q]; exact fun z => nomatch z)).1
      subst z
      rw [ha] at e; cases e
      exact absurd rfl d
  have ns' : ∀ {b : Addr} {m : Str → Option Value}, s1.heap.Ns b m → (hidT s1.heap H).Ns b m := by
    rintro b m ⟨o, es, ep, e, d, r⟩
    exact ⟨o, es, ep, hidT_get e (un e (by rw [d]; exact fun z => nomatch z)), d, r⟩
  have kb : K.In (hidT s1.heap H) := fun b o e => hidT_get (kin b o e) (by
    cases q : H b with
    | none => rfl
    | some u =>
      obtain ⟨z1, z2⟩ := hA b (by rw [q]; exact fun z => nomatch z)
      rw [z1, z2] at e; cases e)
  have md : Mod K mg (hidT s1.heap H) := ⟨kb, ns' hm, ⟨mb, ns' hb, hbb⟩, let ⟨mc, h1, h2⟩ := lim; ⟨mc, ns' h1, h2⟩⟩
  have e0 : Env0 P w K mg (hidT s1.heap H) callerA [] s1 H := ⟨rfl, md, fun b o e => of_hidT e, Nat.le_of_eq (hidT_size _ _), trivial, (fun b hb => by cases (show b ∈ ([] : List Addr) from hb)), hok, .of_eq hg⟩
  refine codeAny_mono ((F _ kb (ns' hm)).run room rfl e0 (us := [.ref a]) (vs := [.ref a]) (bind s1 (.ref a)) (.cons rfl .nil) (law_sp L hl hS)) fun r s' h => ?_
  cases r with
  | error e =>
    obtain ⟨_, _, _, _, _, _, _, _, _, _, _, _, z⟩ := h
    exact z.elim
  | ok fl =>
    cases fl with
    | ret u =>
      obtain ⟨v, H', os, bare, st, hok', r', q⟩ := h
      have q' : v = .bl true := q
      subst q'
      have r2 : u = Value.bool true := r'
      subst r2
      refine ⟨rfl, OldK.of_keep fun b o e => ?_, os, bare⟩
      cases q : H b with
      | none => exact st.keep b o e q (fun z => by cases (show b ∈ ([] : List Addr) from z)) (by simp)
      | some u =>
        rcases hO b with z | ⟨ob, xs, z⟩
        · rw [q] at z; cases z
        · obtain ⟨e1, _⟩ := hok b _ z
          obtain ⟨e2, _⟩ := hok' b _ (st.frzs b ob _ z)
          rw [e] at e1; cases e1
          exact e2
    | next => exact False.elim h
    | brk => exact False.elim h
    | cont => exact False.elim h
/-- the goal that k_head leaves, from the law's def by its evaluation -/
theorem walk_G {l : PySem.W.OpenLaw} {n k : Nat} {q : Program} {loose : List Str} {XP : (Str → Option Value) → Heap → Prop} {YP : World → Heap → Prop} {d : DefRec} {KK : Params → PySem.W.Frag} {xr : XR} {f : Fm} {x : Str} (hn : l.most = some n) (hn2 : n ≤ sizeLine) (hdf : d.params.defaults = [])
    (hr : Room k callerA) (hY : ∀ (w : World) (h : Heap), YP w h → (KK w.params).In h) (L : LawIs f n)
    (F : ∀ (w : World) (mg : Str → Option Value) (fa : Addr) (h : Heap), (KK w.params).In h → h.Ns mainGlobals mg → mg d.name = some (.ref fa) → ∃ fd : FuncData, (∀ (s : Shared) (u : Value), BindsTo s fd ⟨[u], []⟩ [(x, u)]) ∧
        ∀ base : Heap, (KK w.params).In base → base.Ns mainGlobals mg → FnG l.prog w (KK w.params) mg base k fa fd [x] (spOf xr (KK w.params) 1 f)) :
    PySem.W.WalkO q loose XP YP l.row.toRowW d [] (fun f vs => PySem.call f vs) := by
  refine Att.attach_call hn hdf fun w s0 s1 mg mb fa o pm cd doc a vs ns G Y ho hd hcd hmg hobj hints hlen hg => ?_
  have kin := hY w _ Y
  obtain ⟨fd, hb, hF⟩ := F w mg fa _ kin G.T.g hmg
  exact law_run kin G.T.g G.T.b G.T.builtins G.T.nolimit hg hobj hints hlen hn2 hr hF hb L
end PyE

/-! PyE: operations on data -/
namespace PyE
open PySem PySem.Spec PyProof.Rows
open L2

section
variable {K : PySem.W.Frag} {H : Hp} {v : V}
theorem rb_int {i : Int} (h : Rb K H v (.int i)) : v = .int i := by
  cases h with
  | fz h => exact fz_int h
theorem rb_bool {b : Bool} (h : Rb K H v (.bool b)) : v = .bl b := by
  cases h with
  | fz h => exact fz_bool h
theorem rb_str {x : Str} (h : Rb K H v (.str x)) : v = .str x := by
  cases h with
  | fz h => cases h; rfl
theorem rb_non (h : Rb K H v .none) : v = .non := by
  cases h with
  | fz h => cases h; rfl
theorem rb_tup {ds : List PyData} (h : Rb K H v (.tuple ds)) : ∃ a xs, v = .ref a ∧ SqT K H a xs ∧ FzAll K H xs ds := by
  cases h with
  | fz h => cases h with
    | tup h g => exact ⟨_, _, rfl, h, g⟩
/-- a list that may be read: it stands, or it is frozen -/
def RL (K : PySem.W.Frag) (H : Hp) (a : Addr) (xs : List V) : Prop := H a = some (.lst xs) ∨ FL K H a xs
theorem RL.seq {a : Addr} {xs : List V} (h : RL K H a xs) : SqL K H a xs := h.elim .of FL.seq
theorem rb_lst {ds : List PyData} (h : Rb K H v (.list ds)) : ∃ a xs, v = .ref a ∧ RL K H a xs ∧ FzAll K H xs ds := by
  cases h with
  | fz h => cases h with
    | lst h g => exact ⟨_, _, rfl, .inr h, g⟩
  | lst h g => exact ⟨_, _, rfl, .inl h, g⟩
theorem shaped_dict {kvs : Kvs} : SeqAt.shaped (.dict kvs) = false := by
  unfold SeqAt.shaped PyData.canLay0
  rfl
theorem Rb.dp {d : PyData} (h : Rb K H v d) (s : SeqAt.shaped d = true) : Dp K H v d := by
  cases h with
  | fz h => exact h.dp
  | lst h g => exact .lst (.of h) (FzAll.dp g)
  | dic h => rw [shaped_dict] at s; cases s
theorem sameUpd {a : Addr} {o : HO} (h : H a = none) : Same H (upd H a o) := fun b u e => by rw [upd_ne (ne_of_none e h)]; exact e
theorem new_tup {a : Addr} {xs : List V} {ds : List PyData} (h : H a = none) (g : FzAll K H xs ds) : NewR K H (upd H a (.tup xs)) (.d (.tuple ds)) (.ref a) := .tup (.inl (.inl upd_same)) (g.keep (PyE.Same.toKeep (sameUpd h)))
theorem new_lst {a : Addr} {xs : List V} {ds : List PyData} (h : H a = none) (g : FzAll K H xs ds) : NewR K H (upd H a (.lst xs)) (.nl ds) (.ref a) := ⟨a, xs, rfl, upd_same, g.keep (PyE.Same.toKeep (sameUpd h)), h⟩
theorem fz_vints : ∀ {xs : List V} {ns : List Int}, FzAll K H xs (ns.map PyData.int) → xs = ns.map V.int
  | [], [], _ => rfl
  | _ :: _, [], h => by cases h
  | _, n :: ns, h => by
    cases h with
    | cons z g => rw [fz_int z, fz_vints g]; rfl
end
/-- the ints of data -/
def intsOf : List PyData → Option (List Int)
  | [] => some []
  | .int i :: r => (intsOf r).map (i :: ·)
  | _ :: _ => none
theorem intsOf_map (ns : List Int) : intsOf (ns.map PyData.int) = some ns := by
  induction ns with
  | nil => rfl
  | cons n r ih => simp [intsOf, ih]
theorem intsOf_some : ∀ {ds : List PyData} {ns : List Int}, intsOf ds = some ns → ds = ns.map PyData.int
  | [], _, h => by cases h; rfl
  | .int i :: r, ns, h => by
    unfold intsOf at h
    cases q : intsOf r with
    | none => rw [q] at h; cases h
    | some l => rw [q] at h; cases h; rw [intsOf_some q]; rfl
  | .none :: _, _, h => by cases h
  | .bool _ :: _, _, h => by cases h
  | .str _ :: _, _, h => by cases h
  | .list _ :: _, _, h => by cases h
  | .tuple _ :: _, _, h => by cases h
  | .dict _ :: _, _, h => by cases h
def boolsOf : List PyData → Option (List Bool)
  | [] => some []
  | .bool i :: r => (boolsOf r).map (i :: ·)
  | _ :: _ => none
theorem boolsOf_some : ∀ {ds : List PyData} {ns : List Bool}, boolsOf ds = some ns → ds = ns.map PyData.bool
  | [], _, h => by cases h; rfl
  | .bool i :: r, ns, h => by
    unfold boolsOf at h
    cases q : boolsOf r with
    | none => rw [q] at h; cases h
    | some l => rw [q] at h; cases h; rw [boolsOf_some q]; rfl
  | .none :: _, _, h => by cases h
  | .int _ :: _, _, h => by cases h
  | .str _ :: _, _, h => by cases h
  | .list _ :: _, _, h => by cases h
  | .tuple _ :: _, _, h => by cases h
  | .dict _ :: _, _, h => by cases h
theorem fz_vbools {K : PySem.W.Frag} {H : Hp} : ∀ {xs : List V} {ns : List Bool}, FzAll K H xs (ns.map PyData.bool) → xs = ns.map V.bl
  | [], [], _ => rfl
  | _ :: _, [], h => by cases h
  | _, n :: ns, h => by
    cases h with
    | cons z g => rw [fz_bool z, fz_vbools g]; rfl

/-! ### arithmetic -/
def iD (i : Int) : Option Rv := some (.d (.int i))
def bD (b : Bool) : Option Rv := some (.d (.bool b))
def addD : PyData → PyData → Option Rv
  | .int i, .int j => iD (i + j)
  | .str x, .str y => if x.length + y.length ≤ sizeLine then some (.d (.str (x ++ y))) else none
  | .tuple xs, .tuple ys => if xs.length + ys.length ≤ sizeLine then some (.d (.tuple (xs ++ ys))) else none
  | .list xs, .list ys => if xs.length + ys.length ≤ sizeLine then some (.nl (xs ++ ys)) else none
  | _, _ => none
def subD : PyData → PyData → Option Rv
  | .int i, .int j => iD (i - j)
  | _, _ => none
def smallI (i : Int) : Bool := decide (-(2 ^ 64) < i ∧ i < 2 ^ 64)
def mulD : PyData → PyData → Option Rv
  | .int i, .int j => if smallI i = true ∨ smallI j = true then iD (i * j) else none
  | .list xs, .int k => if -1000000 ≤ k ∧ k ≤ 1000000 ∧ xs.length * k.toNat ≤ sizeLine then some (.nl (List.replicate k.toNat xs).flatten) else none
  | _, _ => none
def fdivD : PyData → PyData → Option Rv
  | .int i, .int j => if j ≠ 0 ∧ j.natAbs < 1073741824 then iD (i.fdiv j) else none
  | _, _ => none
def modD : PyData → PyData → Option Rv
  | .int i, .int j => if j ≠ 0 then iD (i.fmod j) else none
  | _, _ => none
def powD : PyData → PyData → Option Rv
  | .int i, .int j => if 0 ≤ j ∧ j ≤ 1000000 ∧ i.natAbs < 2 ^ 64 then iD (i ^ j.toNat) else none
  | _, _ => none
def shlD : PyData → PyData → Option Rv
  | .int i, .int j => if 0 ≤ j ∧ j ≤ 1000000 ∧ i.natAbs < 2 ^ 64 then iD (i * 2 ^ j.toNat) else none
  | _, _ => none
def shrD : PyData → PyData → Option Rv
  | .int i, .int j => if 0 ≤ j then iD (i / 2 ^ j.toNat) else none
  | _, _ => none
def bandD : PyData → PyData → Option Rv
  | .int i, .int j => iD (Builtin.bitAnd i j)
  | _, _ => none
def borD : PyData → PyData → Option Rv
  | .int i, .int j => iD (Builtin.bitOr i j)
  | _, _ => none
def negD : PyData → Option Rv
  | .int i => iD (-i)
  | _ => none
section
variable {X : Cx} {pins : List (Addr × Obj)} {σ : St} {H : Hp} {s : Shared}
theorem RL.exact {a : Addr} {xs : List V} (I : Inv X pins σ H s) (h : RL X.K H a xs) : ∃ (its : List Value) (n : Nat), Vals xs its ∧ xs.length ≤ sizeLine ∧ s.heap.get? a = some { cls := .type "list", dict := none, data := .seq its.toArray n, slots := #[] } := by
  rcases h with h | ⟨o, h⟩ | ⟨its, n, hk, hz, r⟩
  · obtain ⟨z, its, n, r, e⟩ := I.hok a _ h
    exact ⟨its, n, r, z, e⟩
  · obtain ⟨_, z, its, n, r, e⟩ := I.hok a _ h
    exact ⟨its, n, r, z, e⟩
  · refine ⟨its.toList, n, r, by rw [r.length]; simpa using hz, ?_⟩
    have e := I.kIn a _ hk
    simpa using e
def rCatR (K : PySem.W.Frag) : R2 := fun x y H Q => ∃ l b xs zs, x = .ref l ∧ y = .ref b ∧ RL K H l xs ∧ RL K H b zs ∧ xs.length + zs.length ≤ sizeLine ∧ ∀ p, H p = none → Q (.ref p) (upd H p (.lst (xs ++ zs)))
theorem opr_cat : OpR X (binaryOp .Add) (rCatR X.K) := by
  intro pins s σ H x y v u Q I rx ry h
  obtain ⟨l, b, xs, zs, rfl, rfl, h1, h2, hz, q⟩ := h
  cases rx
  cases ry
  obtain ⟨its, n, r, _, e⟩ := RL.exact I h1
  obtain ⟨its2, n2, r2, _, e2⟩ := RL.exact I h2
  have l1 := r.length
  have l2 := r2.length
  refine PySem.P.add_list e e2 ?_ (by rw [List.size_toArray, List.size_toArray]; omega)
  rw [show its.toArray ++ its2.toArray = (its ++ its2).toArray by simp]
  exact ⟨.ref _, _, I.lnew (t' := s.toks) (r.append r2) (by rw [List.length_append]; omega), rfl, q _ I.fresh⟩
theorem opr_add : OpR X (binaryOp .Add) (fun x y H Q => rI0 (fun i j => .int (i + j)) x y H Q ∨ (fun x y H Q => ∃ i j, x = V.str i ∧ y = .str j ∧ i.length + j.length ≤ sizeLine ∧ Q (.str (i ++ j)) H) x y H Q ∨ rCatA X.K x y H Q ∨ rCatR X.K x y H Q) :=
  op_add.or (op_add_str.or (op_catA.or opr_cat))
theorem opd_add {K : PySem.W.Frag} : Op2 K (fun x y H Q => rI0 (fun i j => .int (i + j)) x y H Q ∨ (fun x y H Q => ∃ i j, x = V.str i ∧ y = .str j ∧ i.length + j.length ≤ sizeLine ∧ Q (.str (i ++ j)) H) x y H Q ∨ rCatA K x y H Q ∨ rCatR K x y H Q) addD := by
  intro H x y a b z Q rx ry e q
  unfold addD at e
  split at e
  · cases e; cases rb_int rx; cases rb_int ry
    exact .inl ⟨_, _, rfl, rfl, q _ _ (fun _ _ h => h) (.int _)⟩
  · split at e
    · rename_i hz
      cases e; cases rb_str rx; cases rb_str ry
      exact .inr (.inl ⟨_, _, rfl, rfl, hz, q _ _ (fun _ _ h => h) (.str _)⟩)
    · cases e
  · split at e
    · rename_i hz
      cases e
      obtain ⟨p, xs, rfl, h1, g1⟩ := rb_tup rx
      obtain ⟨p2, ys, rfl, h2, g2⟩ := rb_tup ry
      refine .inr (.inr (.inl ⟨p, p2, xs, ys, rfl, rfl, h1, h2, by rw [g1.length, g2.length]; exact hz, fun e0 => ?_, fun e1 e0 => ?_, fun e1 e0 l hl => ?_⟩))
      · subst e0
        cases g1
        exact q _ _ (fun _ _ h => h) (.tup h2 g2)
      · subst e0
        cases g2
        rw [List.append_nil] at q
        exact q _ _ (fun _ _ h => h) (.tup h1 g1)
      · exact q _ _ (sameUpd hl) (new_tup hl (g1.append g2))
    · cases e
  · split at e
    · rename_i hz
      cases e
      obtain ⟨p, xs, rfl, h1, g1⟩ := rb_lst rx
      obtain ⟨p2, ys, rfl, h2, g2⟩ := rb_lst ry
      exact .inr (.inr (.inr ⟨p, p2, xs, ys, rfl, rfl, h1, h2, by rw [g1.length, g2.length]; exact hz, fun l hl => q _ _ (sameUpd hl) (new_lst hl (g1.append g2))⟩))
    · cases e
  · cases e
theorem opd_I0 {K : PySem.W.Frag} {f : Int → Int → Int} {g : PyData → PyData → Option Rv} (hg : ∀ a b z, g a b = some z → ∃ i j, a = .int i ∧ b = .int j ∧ z = .d (.int (f i j))) : Op2 K (rI0 fun i j => .int (f i j)) g := by
  intro H x y a b z Q rx ry e q
  obtain ⟨i, j, rfl, rfl, rfl⟩ := hg a b z e
  cases rb_int rx; cases rb_int ry
  exact ⟨_, _, rfl, rfl, q _ _ (fun _ _ h => h) (.int _)⟩
theorem opd_I {K : PySem.W.Frag} {C : Int → Int → Prop} {f : Int → Int → Int} {g : PyData → PyData → Option Rv} (hg : ∀ a b z, g a b = some z → ∃ i j, a = .int i ∧ b = .int j ∧ z = .d (.int (f i j)) ∧ C i j) : Op2 K (rI C fun i j => .int (f i j)) g := by
  intro H x y a b z Q rx ry e q
  obtain ⟨i, j, rfl, rfl, rfl, c⟩ := hg a b z e
  cases rb_int rx; cases rb_int ry
  exact ⟨_, _, rfl, rfl, c, q _ _ (fun _ _ h => h) (.int _)⟩
theorem opd_sub {K : PySem.W.Frag} : Op2 K (rI0 fun i j => .int (i - j)) subD := opd_I0 fun a b z e => by
  unfold subD at e
  split at e
  · cases e; exact ⟨_, _, rfl, rfl, rfl⟩
  · cases e
theorem opd_fdiv {K : PySem.W.Frag} : Op2 K (rI CDivN fun i j => .int (i.fdiv j)) fdivD := opd_I fun a b z e => by
  unfold fdivD at e
  split at e
  · split at e
    · rename_i h; cases e; exact ⟨_, _, rfl, rfl, rfl, h⟩
    · cases e
  · cases e
theorem opd_mod {K : PySem.W.Frag} : Op2 K (rI (fun _ j => j ≠ 0) fun i j => .int (i.fmod j)) modD := opd_I fun a b z e => by
  unfold modD at e
  split at e
  · split at e
    · rename_i h; cases e; exact ⟨_, _, rfl, rfl, rfl, h⟩
    · cases e
  · cases e
theorem opd_pow {K : PySem.W.Frag} : Op2 K (rI CPow fun i j => .int (i ^ j.toNat)) powD := opd_I fun a b z e => by
  unfold powD at e
  split at e
  · split at e
    · rename_i h; cases e; exact ⟨_, _, rfl, rfl, rfl, h⟩
    · cases e
  · cases e
theorem opd_shl {K : PySem.W.Frag} : Op2 K (rI CPow fun i j => .int (i * 2 ^ j.toNat)) shlD := opd_I fun a b z e => by
  unfold shlD at e
  split at e
  · split at e
    · rename_i h; cases e; exact ⟨_, _, rfl, rfl, rfl, h⟩
    · cases e
  · cases e
theorem opd_shr {K : PySem.W.Frag} : Op2 K (rI (fun _ j => 0 ≤ j) fun i j => .int (i / 2 ^ j.toNat)) shrD := opd_I fun a b z e => by
  unfold shrD at e
  split at e
  · split at e
    · rename_i h; cases e; exact ⟨_, _, rfl, rfl, rfl, h⟩
    · cases e
  · cases e
theorem opd_band {K : PySem.W.Frag} : Op2 K (rI0 fun i j => .int (Builtin.bitAnd i j)) bandD := opd_I0 fun a b z e => by
  unfold bandD at e
  split at e
  · cases e; exact ⟨_, _, rfl, rfl, rfl⟩
  · cases e
theorem opd_bor {K : PySem.W.Frag} : Op2 K (rI0 fun i j => .int (Builtin.bitOr i j)) borD := opd_I0 fun a b z e => by
  unfold borD at e
  split at e
  · cases e; exact ⟨_, _, rfl, rfl, rfl⟩
  · cases e
/-- a list that stands, or is frozen, times an int -/
def rRepR (K : PySem.W.Frag) : R2 := fun x y H Q => ∃ l k xs, x = .ref l ∧ y = .int k ∧ H l = some (.lst xs) ∧ -(2 ^ 63) ≤ k ∧ k < 2 ^ 63 ∧ xs.length * k.toNat ≤ sizeLine ∧ ∀ p, H p = none → Q (.ref p) (upd H p (.lst (List.replicate k.toNat xs).flatten))
theorem fz_rep {K : PySem.W.Frag} {H : Hp} {xs : List V} {ds : List PyData} (g : FzAll K H xs ds) : ∀ k : Nat, FzAll K H (List.replicate k xs).flatten (List.replicate k ds).flatten
  | 0 => .nil
  | k + 1 => by
    rw [List.replicate_succ, List.replicate_succ, List.flatten_cons, List.flatten_cons]
    exact g.append (fz_rep g k)
theorem cmul_of {i j : Int} (h : smallI i = true ∨ smallI j = true) : CMul i j := by
  rcases h with h | h
  · exact .inl (of_decide_eq_true h)
  · exact .inr (of_decide_eq_true h)
theorem opd_mul {K : PySem.W.Frag} : Op2 K (rI CMul fun i j => .int (i * j)) (fun a b => match a, b with
    | .int i, .int j => mulD (.int i) (.int j)
    | _, _ => none) := opd_I fun a b z e => by
  split at e
  · unfold mulD at e
    simp only at e
    split at e
    · rename_i h; cases e; exact ⟨_, _, rfl, rfl, rfl, cmul_of h⟩
    · cases e
  · cases e
theorem und_neg {K : PySem.W.Frag} : Op1 K (rU fun i => .int (-i)) negD := by
  intro H x a z Q rx e q
  unfold negD at e
  split at e
  · cases e; cases rb_int rx
    exact ⟨_, rfl, q _ _ (fun _ _ h => h) (.int _)⟩
  · cases e
end

/-! ### comparisons -/
def eqP : PyData → PyData → Option Bool
  | .int i, .int j => some (i == j)
  | .str x, .str y => some (x == y)
  | a, b => if (SeqAt.shaped a && SeqAt.shaped b) = true then some (PyData.eqv a b) else none
def eqD (a b : PyData) : Option Rv := match eqP a b with
  | some k => bD k
  | none => none
def neD (a b : PyData) : Option Rv := match eqP a b with
  | some k => bD (!k)
  | none => none
def cmpD (p : Int → Int → Bool) : PyData → PyData → Option Rv
  | .int i, .int j => bD (p i j)
  | _, _ => none
def inD (neg : Bool) (a b : PyData) : Option Rv := if (SeqAt.shaped a && SeqAt.shaped b) = true then match b with
    | .list ds => bD (neg != ds.any fun z => PyData.eqv z a)
    | .tuple ds => bD (neg != ds.any fun z => PyData.eqv z a)
    | .str y => match a with
      | .str x => bD (neg != !(Builtin.Str.occurrences y x 0 y.length 1).isEmpty)
      | _ => none
    | _ => none
  else none
def isND (neg : Bool) : PyData → Option Rv
  | .none => bD (neg != true)
  | _ => bD (neg != false)
section
variable {X : Cx}
abbrev rEqP (K : PySem.W.Frag) : R2 := fun x y H Q => rEq x y H Q ∨ rEqD K x y H Q
abbrev rNeP (K : PySem.W.Frag) : R2 := fun x y H Q => rNe x y H Q ∨ rNeD K x y H Q
theorem opr_eq (hu : X.A.units + 64 < cLine) : OpR X (compareOp .Eq) (rEqP X.K) := op_eq.or (op_eqD hu)
theorem opr_ne (hu : X.A.units + 64 < cLine) : OpR X (compareOp .NotEq) (rNeP X.K) := op_ne.or (op_neD hu)
theorem eqP_ok {K : PySem.W.Frag} {H : Hp} {x y : V} {a b : PyData} {k : Bool} (rx : Rb K H x a) (ry : Rb K H y b) (e : eqP a b = some k) : (scal x y = true ∧ decide (x = y) = k) ∨ (Dp K H x a ∧ Dp K H y b ∧ SeqAt.shaped a = true ∧ SeqAt.shaped b = true ∧ PyData.eqv a b = k) := by
  unfold eqP at e
  split at e
  · cases e; cases rb_int rx; cases rb_int ry
    exact .inl ⟨rfl, dec_int⟩
  · cases e; cases rb_str rx; cases rb_str ry
    exact .inl ⟨rfl, dec_str⟩
  · split at e
    · rename_i h
      obtain ⟨h1, h2⟩ := Bool.and_eq_true_iff.mp h
      cases e
      exact .inr ⟨rx.dp h1, ry.dp h2, h1, h2, rfl⟩
    · cases e
theorem opd_eq {K : PySem.W.Frag} : Op2 K (rEqP K) eqD := by
  intro H x y a b z Q rx ry e q
  unfold eqD at e
  split at e
  · rename_i k ek
    cases e
    rcases eqP_ok rx ry ek with ⟨h1, h2⟩ | ⟨h1, h2, h3, h4, h5⟩
    · exact .inl ⟨h1, q _ _ (fun _ _ h => h) (by rw [h2]; exact .bl _)⟩
    · exact .inr ⟨a, b, h1, h2, h3, h4, q _ _ (fun _ _ h => h) (by rw [h5]; exact .bl _)⟩
  · cases e
theorem opd_ne {K : PySem.W.Frag} : Op2 K (rNeP K) neD := by
  intro H x y a b z Q rx ry e q
  unfold neD at e
  split at e
  · rename_i k ek
    cases e
    rcases eqP_ok rx ry ek with ⟨h1, h2⟩ | ⟨h1, h2, h3, h4, h5⟩
    · exact .inl ⟨h1, q _ _ (fun _ _ h => h) (by rw [h2]; exact .bl _)⟩
    · exact .inr ⟨a, b, h1, h2, h3, h4, q _ _ (fun _ _ h => h) (by rw [h5]; exact .bl _)⟩
  · cases e
theorem opd_cmp {K : PySem.W.Frag} (p : Int → Int → Bool) : Op2 K (rI0 fun i j => .bl (p i j)) (cmpD p) := by
  intro H x y a b z Q rx ry e q
  unfold cmpD at e
  split at e
  · cases e; cases rb_int rx; cases rb_int ry
    exact ⟨_, _, rfl, rfl, q _ _ (fun _ _ h => h) (.bl _)⟩
  · cases e
/-- x in a list, a tuple, a text -/
def rInR (K : PySem.W.Frag) (neg : Bool) : R2 := fun x y H Q => ∃ d e, Dp K H x d ∧ Dp K H y e ∧ SeqAt.shaped d = true ∧ SeqAt.shaped e = true ∧ ∃ z, inD neg d e = some (.d (.bool z)) ∧ Q (.bl z) H
theorem dp_str {K : PySem.W.Frag} {H : Hp} {v : V} {x : Str} (h : Dp K H v (.str x)) : v = .str x := by cases h; rfl
theorem opr_in (hu : X.A.units + 65 < cLine) : OpR X (compareOp .In) (rInR X.K false) := by
  intro pins s σ H x y v u Q I rx ry h
  obtain ⟨d, e, hd, he, sd, se, z, ez, q⟩ := h
  unfold inD at ez
  rw [if_pos (by rw [sd, se]; rfl)] at ez
  obtain ⟨as, r1⟩ := Dp.reads I d x v hd rx
  obtain ⟨bs, r2⟩ := Dp.reads I e y u he ry
  cases e with
  | list ds =>
    cases ez
    exact SeqAt.in_list_reads r2 r1 (SeqAt.canLay_of_shaped se) (SeqAt.canLay_of_shaped sd) (PyProof.Rows.room_in_shaped sd hu) ⟨.bl _, H, I, by simp [L2.RelV], q⟩
  | tuple ds =>
    cases ez
    exact SeqAt.in_tuple_reads r2 r1 (SeqAt.canLay_of_shaped se) (SeqAt.canLay_of_shaped sd) (PyProof.Rows.room_in_shaped sd hu) ⟨.bl _, H, I, by simp [L2.RelV], q⟩
  | str yy =>
    cases d with
    | str xx =>
      cases ez
      cases dp_str hd
      cases dp_str he
      exact op_in_str pins s σ H _ _ v u Q I rx ry ⟨_, _, rfl, rfl, by simpa using q⟩
    | _ => cases ez
  | _ => cases ez
theorem opr_notIn (hu : X.A.units + 65 < cLine) : OpR X (compareOp .NotIn) (rInR X.K true) := by
  intro pins s σ H x y v u Q I rx ry h
  obtain ⟨d, e, hd, he, sd, se, z, ez, q⟩ := h
  unfold inD at ez
  rw [if_pos (by rw [sd, se]; rfl)] at ez
  obtain ⟨as, r1⟩ := Dp.reads I d x v hd rx
  obtain ⟨bs, r2⟩ := Dp.reads I e y u he ry
  cases e with
  | list ds =>
    cases ez
    exact SeqAt.notIn_list_reads r2 r1 (SeqAt.canLay_of_shaped se) (SeqAt.canLay_of_shaped sd) (PyProof.Rows.room_in_shaped sd hu) ⟨.bl _, H, I, by simp [L2.RelV], q⟩
  | tuple ds =>
    cases ez
    exact SeqAt.notIn_tuple_reads r2 r1 (SeqAt.canLay_of_shaped se) (SeqAt.canLay_of_shaped sd) (PyProof.Rows.room_in_shaped sd hu) ⟨.bl _, H, I, by simp [L2.RelV], q⟩
  | str yy =>
    cases d with
    | str xx =>
      cases ez
      cases dp_str hd
      cases dp_str he
      exact op_notin_str pins s σ H _ _ v u Q I rx ry ⟨_, _, rfl, rfl, by simpa using q⟩
    | _ => cases ez
  | _ => cases ez
theorem inD_bool {neg : Bool} {a b : PyData} {z : Rv} (e : inD neg a b = some z) : SeqAt.shaped a = true ∧ SeqAt.shaped b = true ∧ ∃ k, z = .d (.bool k) := by
  unfold inD at e
  split at e
  · rename_i h
    obtain ⟨h1, h2⟩ := Bool.and_eq_true_iff.mp h
    refine ⟨h1, h2, ?_⟩
    split at e
    · cases e; exact ⟨_, rfl⟩
    · cases e; exact ⟨_, rfl⟩
    · split at e
      · cases e; exact ⟨_, rfl⟩
      · cases e
    · cases e
  · cases e
theorem opd_in {K : PySem.W.Frag} (neg : Bool) : Op2 K (rInR K neg) (inD neg) := by
  intro H x y a b z Q rx ry e q
  obtain ⟨h1, h2, k, rfl⟩ := inD_bool e
  exact ⟨a, b, rx.dp h1, ry.dp h2, h1, h2, k, e, q _ _ (fun _ _ h => h) (.bl _)⟩
/-- x is None -/
theorem rb_isN {K : PySem.W.Frag} {H : Hp} {v : V} {d : PyData} (h : Rb K H v d) : decide (v = .non) = (match d with | .none => true | _ => false) := by
  cases h with
  | fz h => cases h <;> rfl
  | lst h g => rfl
  | dic h => rfl
theorem opd_isN {K : PySem.W.Frag} : Op2 K (fun x y H Q => y = .non ∧ Q (.bl (decide (x = .non))) H) (fun a b => match b with | .none => isND false a | _ => none) := by
  intro H x y a b z Q rx ry e q
  cases b with
  | none =>
    refine ⟨rb_non ry, ?_⟩
    rw [rb_isN rx]
    have e : isND false a = some z := e
    cases a <;> (cases e; exact q _ _ (fun _ _ h => h) (.bl _))
  | _ => cases e
theorem opd_notN {K : PySem.W.Frag} : Op2 K (fun x y H Q => y = .non ∧ Q (.bl (!decide (x = .non))) H) (fun a b => match b with | .none => isND true a | _ => none) := by
  intro H x y a b z Q rx ry e q
  cases b with
  | none =>
    refine ⟨rb_non ry, ?_⟩
    rw [rb_isN rx]
    have e : isND true a = some z := e
    cases a <;> (cases e; exact q _ _ (fun _ _ h => h) (.bl _))
  | _ => cases e
end

/-! ### items -/
def ixD : PyData → PyData → Option Rv
  | .list xs, .int i => (atI xs i).map Rv.d
  | .tuple xs, .int i => (atI xs i).map Rv.d
  | .str z, .int i => if z.length ≤ sizeLine then (atI z.cps.toList i).map fun c => Rv.d (.str ⟨#[c]⟩) else none
  | _, _ => none
theorem fz_atI {K : PySem.W.Frag} {H : Hp} {xs : List V} {ds : List PyData} {i : Int} {d : PyData} (g : FzAll K H xs ds) (e : atI ds i = some d) : ∃ v, atI xs i = some v ∧ Fz K H v d := by
  unfold atI at e ⊢
  rw [g.length]
  cases q : ixN ds.length i with
  | none => rw [q] at e; cases e
  | some j => rw [q] at e; exact g.get e
theorem opd_ix {K : PySem.W.Frag} : Op2 K (rIx K) ixD := by
  intro H x y a b z Q rx ry e q
  unfold ixD at e
  split at e
  · rename_i xs i
    cases e1 : atI xs i with
    | none => rw [e1] at e; cases e
    | some d =>
      rw [e1] at e; cases e
      cases rb_int ry
      obtain ⟨p, ys, rfl, h1, g1⟩ := rb_lst rx
      obtain ⟨v, e2, hz⟩ := fz_atI g1 e1
      exact .inl ⟨p, ys, _, v, rfl, rfl, h1.seq, e2, q _ _ (fun _ _ h => h) hz⟩
  · rename_i xs i
    cases e1 : atI xs i with
    | none => rw [e1] at e; cases e
    | some d =>
      rw [e1] at e; cases e
      cases rb_int ry
      obtain ⟨p, ys, rfl, h1, g1⟩ := rb_tup rx
      obtain ⟨v, e2, hz⟩ := fz_atI g1 e1
      exact .inr (.inl ⟨p, ys, _, v, rfl, rfl, h1, e2, q _ _ (fun _ _ h => h) hz⟩)
  · rename_i zz i
    split at e
    · rename_i hz
      cases e1 : atI zz.cps.toList i with
      | none => rw [e1] at e; cases e
      | some c =>
        rw [e1] at e; cases e
        cases rb_int ry
        cases rb_str rx
        exact .inr (.inr ⟨zz, _, c, rfl, rfl, hz, e1, q _ _ (fun _ _ h => h) (.str _)⟩)
    · cases e
  · cases e

/-! ### what is built in -/
def lenD : List PyData → Option Rv
  | [.list xs] => iD xs.length
  | [.tuple xs] => iD xs.length
  | [.str z] => if z.length ≤ sizeLine then iD z.length else none
  | _ => none
def absD : List PyData → Option Rv
  | [.int i] => iD (if i < 0 then -i else i)
  | _ => none
def max2D : List PyData → Option Rv
  | [.int i, .int j] => iD (if j > i then j else i)
  | _ => none
def min2D : List PyData → Option Rv
  | [.int i, .int j] => iD (if j < i then j else i)
  | _ => none
def int1D : List PyData → Option Rv
  | [.int i] => iD i
  | [.bool b] => iD (if b then 1 else 0)
  | _ => none
def sumD : List PyData → Option Rv
  | [.list xs] => (intsOf xs).bind fun ns => iD ns.sum
  | _ => none
def tupleD : List PyData → Option Rv
  | [.list xs] => some (.d (.tuple xs))
  | [.tuple xs] => some (.d (.tuple xs))
  | _ => none
def listD : List PyData → Option Rv
  | [.list xs] => some (.nl xs)
  | [.tuple xs] => some (.nl xs)
  | _ => none
def allD : List PyData → Option Rv
  | [.list xs] => (boolsOf xs).bind fun ns => bD (ns.all id)
  | _ => none
def anyD : List PyData → Option Rv
  | [.list xs] => (boolsOf xs).bind fun ns => bD (ns.any id)
  | _ => none
def reprD : List PyData → Option Rv
  | [.dict _] => none
  | [d] => if d.showable = true ∧ d.depth ≤ 60 ∧ d.shown.length ≤ sizeLine then some (.d (.str d.shown)) else none
  | _ => none
theorem rba1 {K : PySem.W.Frag} {H : Hp} {xs : List V} {d : PyData} (h : RbAll K H xs [d]) : ∃ v, xs = [v] ∧ Rb K H v d := by
  cases h with
  | cons h g => cases g; exact ⟨_, rfl, h⟩
theorem rba2 {K : PySem.W.Frag} {H : Hp} {xs : List V} {d e : PyData} (h : RbAll K H xs [d, e]) : ∃ v w, xs = [v, w] ∧ Rb K H v d ∧ Rb K H w e := by
  cases h with
  | cons h g => obtain ⟨w, rfl, h2⟩ := rba1 g; exact ⟨_, _, rfl, h, h2⟩
section
variable {X : Cx}
theorem opd_len {K : PySem.W.Frag} : OpN K (fun xs H Q => (∃ p ys, xs = [.ref p] ∧ (SqL K H p ys ∨ SqT K H p ys) ∧ Q (.int ys.length) H) ∨ ∃ z, xs = [.str z] ∧ z.length ≤ sizeLine ∧ Q (.int z.length) H) lenD := by
  intro H xs as z Q rx e q
  unfold lenD at e
  split at e
  · cases e
    obtain ⟨v, rfl, h⟩ := rba1 rx
    obtain ⟨p, ys, rfl, h1, g1⟩ := rb_lst h
    exact .inl ⟨p, ys, rfl, .inl h1.seq, by rw [g1.length]; exact q _ _ (fun _ _ h => h) (.int _)⟩
  · cases e
    obtain ⟨v, rfl, h⟩ := rba1 rx
    obtain ⟨p, ys, rfl, h1, g1⟩ := rb_tup h
    exact .inl ⟨p, ys, rfl, .inr h1, by rw [g1.length]; exact q _ _ (fun _ _ h => h) (.int _)⟩
  · split at e
    · rename_i hz
      cases e
      obtain ⟨v, rfl, h⟩ := rba1 rx
      cases rb_str h
      exact .inr ⟨_, rfl, hz, q _ _ (fun _ _ h => h) (.int _)⟩
    · cases e
  · cases e
theorem opr_len : CallR X (.builtin "len") (fun xs H Q => (∃ p ys, xs = [.ref p] ∧ (SqL X.K H p ys ∨ SqT X.K H p ys) ∧ Q (.int ys.length) H) ∨ ∃ z, xs = [.str z] ∧ z.length ≤ sizeLine ∧ Q (.int z.length) H) := call_len_seq.or call_len_str
theorem opd_abs {K : PySem.W.Frag} : OpN K (fun xs H Q => ∃ i, xs = [.int i] ∧ Q (.int (if i < 0 then -i else i)) H) absD := by
  intro H xs as z Q rx e q
  unfold absD at e
  split at e
  · cases e
    obtain ⟨v, rfl, h⟩ := rba1 rx
    cases rb_int h
    exact ⟨_, rfl, q _ _ (fun _ _ h => h) (.int _)⟩
  · cases e
theorem opd_max2 {K : PySem.W.Frag} : OpN K (fun xs H Q => ∃ i j, xs = [.int i, .int j] ∧ Q (.int (if j > i then j else i)) H) max2D := by
  intro H xs as z Q rx e q
  unfold max2D at e
  split at e
  · cases e
    obtain ⟨v, w, rfl, h, h2⟩ := rba2 rx
    cases rb_int h; cases rb_int h2
    exact ⟨_, _, rfl, q _ _ (fun _ _ h => h) (.int _)⟩
  · cases e
theorem opd_min2 {K : PySem.W.Frag} : OpN K (fun xs H Q => ∃ i j, xs = [.int i, .int j] ∧ Q (.int (if j < i then j else i)) H) min2D := by
  intro H xs as z Q rx e q
  unfold min2D at e
  split at e
  · cases e
    obtain ⟨v, w, rfl, h, h2⟩ := rba2 rx
    cases rb_int h; cases rb_int h2
    exact ⟨_, _, rfl, q _ _ (fun _ _ h => h) (.int _)⟩
  · cases e
theorem opd_int1 {K : PySem.W.Frag} : OpN K (fun xs H Q => (∃ i, xs = [.int i] ∧ Q (.int i) H) ∨ ∃ k, xs = [.bl k] ∧ Q (.int (if k then 1 else 0)) H) int1D := by
  intro H xs as z Q rx e q
  unfold int1D at e
  split at e
  · cases e
    obtain ⟨v, rfl, h⟩ := rba1 rx
    cases rb_int h
    exact .inl ⟨_, rfl, q _ _ (fun _ _ h => h) (.int _)⟩
  · cases e
    obtain ⟨v, rfl, h⟩ := rba1 rx
    cases rb_bool h
    exact .inr ⟨_, rfl, q _ _ (fun _ _ h => h) (.int _)⟩
  · cases e
theorem opd_sum {K : PySem.W.Frag} : OpN K (rSum K) sumD := by
  intro H xs as z Q rx e q
  unfold sumD at e
  split at e
  · rename_i ds
    cases e1 : intsOf ds with
    | none => rw [e1] at e; cases e
    | some ns =>
      rw [e1] at e; cases e
      have e2 := intsOf_some e1
      subst e2
      obtain ⟨v, rfl, h⟩ := rba1 rx
      obtain ⟨p, ys, rfl, h1, g1⟩ := rb_lst h
      have e3 := fz_vints g1
      subst e3
      exact ⟨p, ns, rfl, h1.seq, q _ _ (fun _ _ h => h) (.int _)⟩
  · cases e
theorem opd_all {K : PySem.W.Frag} : OpN K (rAll K) allD := by
  intro H xs as z Q rx e q
  unfold allD at e
  split at e
  · rename_i ds
    cases e1 : boolsOf ds with
    | none => rw [e1] at e; cases e
    | some ns =>
      rw [e1] at e; cases e
      have e2 := boolsOf_some e1
      subst e2
      obtain ⟨v, rfl, h⟩ := rba1 rx
      obtain ⟨p, ys, rfl, h1, g1⟩ := rb_lst h
      have e3 := fz_vbools g1
      subst e3
      exact ⟨p, ns, rfl, h1.seq, q _ _ (fun _ _ h => h) (.bl _)⟩
  · cases e
theorem opd_any {K : PySem.W.Frag} : OpN K (rAny K) anyD := by
  intro H xs as z Q rx e q
  unfold anyD at e
  split at e
  · rename_i ds
    cases e1 : boolsOf ds with
    | none => rw [e1] at e; cases e
    | some ns =>
      rw [e1] at e; cases e
      have e2 := boolsOf_some e1
      subst e2
      obtain ⟨v, rfl, h⟩ := rba1 rx
      obtain ⟨p, ys, rfl, h1, g1⟩ := rb_lst h
      have e3 := fz_vbools g1
      subst e3
      exact ⟨p, ns, rfl, h1.seq, q _ _ (fun _ _ h => h) (.bl _)⟩
  · cases e
theorem opd_tuple {K : PySem.W.Frag} : OpN K (fun xs H Q => ∃ p ys, xs = [.ref p] ∧ ((SqL K H p ys ∧ ∀ l, H l = none → Q (.ref l) (upd H l (.tup ys))) ∨ (SqT K H p ys ∧ Q (.ref p) H))) tupleD := by
  intro H xs as z Q rx e q
  unfold tupleD at e
  split at e
  · cases e
    obtain ⟨v, rfl, h⟩ := rba1 rx
    obtain ⟨p, ys, rfl, h1, g1⟩ := rb_lst h
    exact ⟨p, ys, rfl, .inl ⟨h1.seq, fun l hl => q _ _ (sameUpd hl) (new_tup hl g1)⟩⟩
  · cases e
    obtain ⟨v, rfl, h⟩ := rba1 rx
    obtain ⟨p, ys, rfl, h1, g1⟩ := rb_tup h
    exact ⟨p, ys, rfl, .inr ⟨h1, q _ _ (fun _ _ h => h) (.tup h1 g1)⟩⟩
  · cases e
theorem opd_list {K : PySem.W.Frag} : OpN K (fun xs H Q => ∃ p ys, xs = [.ref p] ∧ (SqL K H p ys ∨ SqT K H p ys) ∧ ∀ l, H l = none → Q (.ref l) (upd H l (.lst ys))) listD := by
  intro H xs as z Q rx e q
  unfold listD at e
  split at e
  · cases e
    obtain ⟨v, rfl, h⟩ := rba1 rx
    obtain ⟨p, ys, rfl, h1, g1⟩ := rb_lst h
    exact ⟨p, ys, rfl, .inl h1.seq, fun l hl => q _ _ (sameUpd hl) (new_lst hl g1)⟩
  · cases e
    obtain ⟨v, rfl, h⟩ := rba1 rx
    obtain ⟨p, ys, rfl, h1, g1⟩ := rb_tup h
    exact ⟨p, ys, rfl, .inr h1, fun l hl => q _ _ (sameUpd hl) (new_lst hl g1)⟩
  · cases e
/-- repr of data -/
def rRepr (K : PySem.W.Frag) : List V → Hp → VK → Prop := fun xs H Q => ∃ x d, xs = [x] ∧ Dp K H x d ∧ d.showable = true ∧ d.depth ≤ 60 ∧ d.shown.length ≤ sizeLine ∧ Q (.str d.shown) H
theorem reprD_some {as : List PyData} {z : Rv} (e : reprD as = some z) : ∃ d, as = [d] ∧ d.showable = true ∧ d.depth ≤ 60 ∧ d.shown.length ≤ sizeLine ∧ z = .d (.str d.shown) ∧ ∀ kvs, d ≠ .dict kvs := by
  unfold reprD at e
  split at e
  · cases e
  · rename_i hd
    split at e
    · rename_i h; cases e; exact ⟨_, rfl, h.1, h.2.1, h.2.2, rfl, fun kvs q => hd kvs (by rw [q])⟩
    · cases e
  · cases e
mutual
theorem dp_noDict {K : PySem.W.Frag} {H : Hp} : ∀ {v : V} {d : PyData}, Dp K H v d → d.hasDict = false
  | _, _, .non => by simp only [PyData.hasDict]
  | _, _, .bl b => by simp only [PyData.hasDict]
  | _, _, .int i => by simp only [PyData.hasDict]
  | _, _, .str x => by simp only [PyData.hasDict]
  | _, _, .lst h g => by simp only [PyData.hasDict]; exact dpAll_noDict g
  | _, _, .tup h g => by simp only [PyData.hasDict]; exact dpAll_noDict g
theorem dpAll_noDict {K : PySem.W.Frag} {H : Hp} : ∀ {v : List V} {d : List PyData}, DpAll K H v d → PyData.hasDictAll d = false
  | _, _, .nil => by simp only [PyData.hasDictAll]
  | _, _, .cons h g => by simp only [PyData.hasDictAll]; rw [dp_noDict h, dpAll_noDict g]; rfl
end
theorem opr_repr (hG : X.A.guards = some []) (hu : X.A.units + 64 < cLine) : CallR X (.builtin "repr") (rRepr X.K) := by
  intro pins s σ H xs us Q I r h
  obtain ⟨x, d, rfl, hd, h1, h2, h3, q⟩ := h
  obtain ⟨u, rfl, rv⟩ : ∃ u, us = [u] ∧ L2.RelV x u := by
    cases r with
    | cons h g => cases g; exact ⟨_, rfl, h⟩
  have nd := dp_noDict hd
  have sc : ∀ {t : Str}, d.shown = t → ∀ tk u, EP X pins σ Q (.str d.shown u) { s with toks := tk } := fun _ tk u => ⟨.str d.shown, H, I.tok _, ⟨u, rfl⟩, q⟩
  cases hd with
  | non => cases rv; exact PySem.P.repr_of_none (sc rfl _ _)
  | bl b => cases rv; exact PySem.P.repr_of_bool (sc rfl _ _)
  | int i =>
    obtain ⟨t, rfl⟩ := rv
    exact PySem.P.repr_of_int (of_decide_eq_true h1) (sc rfl _ _)
  | str z =>
    obtain ⟨t, rfl⟩ := rv
    exact PySem.P.repr_of_str (sc rfl _ _) h3
  | lst ha g =>
    obtain ⟨as, rd⟩ := Dp.reads I _ _ u (.lst ha g) rv
    cases rv
    exact repr_of_reads' rd h1 (fun z => by rw [nd] at z; cases z) hG (by omega) (fun _ _ e => e) (fun h' tk tk2 kk => ⟨.str _, H, I.kept kk, ⟨_, rfl⟩, q⟩) h3
  | tup ha g =>
    obtain ⟨as, rd⟩ := Dp.reads I _ _ u (.tup ha g) rv
    cases rv
    exact repr_of_reads' rd h1 (fun z => by rw [nd] at z; cases z) hG (by omega) (fun _ _ e => e) (fun h' tk tk2 kk => ⟨.str _, H, I.kept kk, ⟨_, rfl⟩, q⟩) h3
end
theorem Rb.dpN {K : PySem.W.Frag} {H : Hp} {v : V} {d : PyData} (h : Rb K H v d) (s : ∀ kvs, d ≠ .dict kvs) : Dp K H v d := by
  cases h with
  | fz h => exact h.dp
  | lst h g => exact .lst (.of h) (FzAll.dp g)
  | dic h => exact absurd rfl (s _)
theorem opd_repr {K : PySem.W.Frag} : OpN K (rRepr K) reprD := by
  intro H xs as z Q rx e q
  obtain ⟨d, rfl, h1, h2, h3, rfl, nd⟩ := reprD_some e
  obtain ⟨v, rfl, hv⟩ := rba1 rx
  exact ⟨v, d, rfl, hv.dpN nd, h1, h2, h3, q _ _ (fun _ _ h => h) (.str _)⟩
end PyE

/-! PyE: enumerate, zip over data -/
namespace PySem
section
open PyProof
set_option maxHeartbeats 1000000 in
theorem meets_enum_one {v : Value} {o : Obj} {G : Heap → Prop} (B : Begins v o G) :
    Meets (Builtin.«enumerate.__new__» ⟨[.type "enumerate", v], []⟩) (fun _ R s => G s.heap ∧ R (.ok (.ret (.ref (s.heap.push o).objs.size)))
      { s with heap := (s.heap.push o).push { cls := .type "enumerate", data := .fields #[.none, .bool false, .ref s.heap.objs.size, rawInt 0, .none, .none] } }) :=
  .of_wp fun prog w A R s h => by
    obtain ⟨hp, g, d, tk, os⟩ := s
    obtain ⟨h1, h⟩ := h
    have hsub := sub_enumerate
    have it : ∀ {A' : Around} {E : Value → Shared → Prop} {Q : Value → Shared → Prop}, Q (.ref hp.objs.size) ⟨hp.push o, g, d, tk, os⟩ → wpAny (model prog w) A' (pyIter v) Q E ⟨hp, g, d, tk, os⟩ := fun q => B.iter prog w _ _ ⟨hp, g, d, tk, os⟩ _ h1 q
    wp_walk using it
    refine wpAny_stack_any fun st => wpAny_pure ?_
    split
    · rename_i c _ _ _ _ _
      cases (c == Value.type "enumerate") <;> (wp_walk using it; exact ⟨_, rfl, h⟩)
    · wp_walk using it
      exact ⟨_, rfl, h⟩
theorem enum_one {prog : Program} {w : World} {A : Around} {E : Value → Shared → Prop} {s : Shared} {v : Value} {o : Obj} {G : Heap → Prop} {Q : Value → Shared → Prop} (B : Begins v o G) (h1 : G s.heap)
    (h : ∀ h', IsEnum h' (s.heap.objs.size + 1) s.heap.objs.size 0 .none → h'.get? s.heap.objs.size = some o → (∀ b o, s.heap.get? b = some o → h'.get? b = some o) → Q (.ref (s.heap.objs.size + 1)) { s with heap := h' }) :
    wpAny (model prog w) A (call (.type "enumerate") [v]) Q E s := by
  refine callType_new F.called_enumerate (by decide) (F.typeCall_enumerate_1 _) (F.newCall_enumerate_1 _) (fun obj => F.args_object_init_2 obj _) F.entry_enumerate_new (meets_enum_one B) ⟨h1, ?_⟩
  have hz : (s.heap.push o).objs.size = s.heap.objs.size + 1 := Heap.size_push ..
  show _ ∧ _
  rw [hz]
  have he : IsEnum ((s.heap.push o).push { cls := .type "enumerate", data := .fields #[.none, .bool false, .ref s.heap.objs.size, rawInt 0, .none, .none] }) (s.heap.objs.size + 1) s.heap.objs.size 0 .none := by
    have z := Heap.get?_push_size (s.heap.push o) (o := { cls := .type "enumerate", data := .fields #[.none, .bool false, .ref s.heap.objs.size, rawInt 0, .none, .none] }) rfl
    rw [hz] at z
    exact z
  exact ⟨⟨_, he, rfl⟩, h _ he (Heap.get?_push_of_some _ (Heap.get?_push_size _ B.free)) fun b o x => Heap.get?_push_of_some _ (Heap.get?_push_of_some _ x)⟩
end
end PySem
namespace PyE
open PySem PySem.Spec PyProof.Rows
open L2

/-- values that give ds, one at a draw -/
inductive SrcOf (K : PySem.W.Frag) (H : Hp) : V → List PyData → Prop
  | l {a : Addr} {xs : List V} {ds : List PyData} : FL K H a xs → FzAll K H xs ds → SrcOf K H (.ref a) ds
  | t {a : Addr} {xs : List V} {ds : List PyData} : SqT K H a xs → FzAll K H xs ds → SrcOf K H (.ref a) ds
theorem SrcOf.keep {K : PySem.W.Frag} {H H' : Hp} {v : V} {ds : List PyData} (k : Keep H H') (h : SrcOf K H v ds) : SrcOf K H' v ds := by
  cases h with
  | l h g => exact .l (k.fl h) (g.keep k)
  | t h g => exact .t (k.sqT h) (g.keep k)
/-- the iterator over it: where it is -/
def ownIt (l : Bool) (a it : Addr) (i : Nat) (h : Heap) : Prop := if l = true then h.IsListIter it a i else h.IsTupleIter it a i
theorem ownIt.obj {l : Bool} {a it : Addr} {i : Nat} {h : Heap} (x : ownIt l a it i h) : ∃ o, h.get? it = some o ∧ ∀ v, o.data ≠ .cell v := by
  cases l with
  | true => obtain ⟨o, e, c, d⟩ := x; exact ⟨o, e, fun v z => by rw [d] at z; cases z⟩
  | false => obtain ⟨o, e, c, d⟩ := x; exact ⟨o, e, fun v z => by rw [d] at z; cases z⟩
theorem ownIt.keep {l : Bool} {a it : Addr} {i : Nat} {h h' : Heap} (x : ownIt l a it i h) (k : ∀ o, h.get? it = some o → h'.get? it = some o) : ownIt l a it i h' := by
  cases l with
  | true => exact Heap.IsListIter.at x k
  | false => exact Heap.IsTupleIter.at x k
/-- what a source gives at each state -/
def SrcAt (K : PySem.W.Frag) (H0 : Hp) (l : Bool) (a : Addr) (ds : List PyData) : Prop := ∀ {X : Cx} {pins : List (Addr × Obj)} {σ : St} {H : Hp} {s : Shared}, X.K = K → Inv X pins σ H s → Keep H0 H →
    a < s.heap.objs.size ∧ ds.length ≤ sizeLine ∧ ∃ (P : Nat → Value → Prop) (G : Heap → Prop) (o : Obj), Begins (.ref a) o G ∧ G s.heap ∧ (∀ it (h : Heap), h.get? it = some o → ownIt l a it 0 h) ∧
      (∀ A it, A.handled = none → a ≠ it → Draws X.prog X.w A it [it, a] ds.length P (fun i h => ownIt l a it i h ∧ G h)) ∧ ∀ i x, P i x → ∃ w d, L2.RelV w x ∧ ds[i]? = some d ∧ Fz K H w d
theorem src_at {K : PySem.W.Frag} {H0 : Hp} {v : V} {ds : List PyData} (h : SrcOf K H0 v ds) : ∃ (l : Bool) (a : Addr), v = .ref a ∧ SrcAt K H0 l a ds := by
  cases h with
  | @l a xs ds hf g =>
    refine ⟨true, a, rfl, fun {X pins σ H s} hK I k => ?_⟩
    subst hK
    obtain ⟨its, r, p, hz⟩ := I.list (k.fl hf).seq
    have hl : its.toArray.size = ds.length := by rw [List.size_toArray, ← r.length, g.length]
    refine ⟨p.lt, by rw [← g.length]; exact hz, fun i v => its.toArray[i]? = some v, fun h => h.IsList a its.toArray, _, begins_list a its.toArray, p.isList, fun it h e => ⟨_, e, rfl, rfl⟩, fun A it hh hne => ?_, fun i x e => ?_⟩
    · have D := Draws.list (prog := X.prog) (w := X.w) hh it a hne its.toArray
      rw [hl] at D
      exact D
    · have e' : its[i]? = some x := by simpa using e
      cases q : xs[i]? with
      | none => rw [r.none_of q] at e'; cases e'
      | some w =>
        obtain ⟨u, e2, rv⟩ := r.get q
        rw [e2] at e'; cases e'
        obtain ⟨d, e3, z⟩ := (g.keep k).getV q
        exact ⟨w, d, rv, e3, z⟩
  | @t a xs ds hf g =>
    refine ⟨false, a, rfl, fun {X pins σ H s} hK I k => ?_⟩
    subst hK
    obtain ⟨its, r, p, hz⟩ := I.tuple (k.sqT hf)
    have hl : its.toArray.size = ds.length := by rw [List.size_toArray, ← r.length, g.length]
    have p' : s.heap.IsTuple a its.toArray := p
    refine ⟨p.lt, by rw [← g.length]; exact hz, fun i v => its.toArray[i]? = some v, fun h => h.IsTuple a its.toArray, _, begins_tuple a its.toArray, p', fun it h e => ⟨_, e, rfl, rfl⟩, fun A it hh hne => ?_, fun i x e => ?_⟩
    · have D := Draws.tuple (prog := X.prog) (w := X.w) hh it a hne its.toArray
      rw [hl] at D
      exact D
    · have e' : its[i]? = some x := by simpa using e
      cases q : xs[i]? with
      | none => rw [r.none_of q] at e'; cases e'
      | some w =>
        obtain ⟨u, e2, rv⟩ := r.get q
        rw [e2] at e'; cases e'
        obtain ⟨d, e3, z⟩ := (g.keep k).getV q
        exact ⟨w, d, rv, e3, z⟩
/-- what gives new tuples, n of them, as long as what is frozen at H0 stays -/
def ItN (K : PySem.W.Frag) (H0 : Hp) (n : Nat) (rows : Nat → List PyData) : It :=
  ⟨fun i H => Keep H0 H ∧ i < n, fun i H x H' => ∃ T vs, x = .ref T ∧ H T = none ∧ H' = upd H T (.tup vs) ∧ FzAll K H vs (rows i), fun i H => Keep H0 H ∧ i = n⟩
theorem walk_n {K : PySem.W.Frag} {H0 : Hp} {n : Nat} {rows : Nat → List PyData} (few : n ≤ sizeLine) : WalkD K (ItN K H0 n rows) ((List.range n).map fun i => .tuple (rows i)) H0 where
  goes := fun i H' k hi => ⟨k, by simpa using hi⟩
  stops := fun H' k => ⟨k, by simp⟩
  yields := fun i H' x H'' k hi y => by
    obtain ⟨T, vs, rfl, hT, rfl, g⟩ := y
    have hi' : i < n := by simpa using hi
    exact ⟨sameUpd hT, .tuple (rows i), by simp [hi'], new_tup hT g⟩
  few := by simpa using few
theorem turn_goes {P : Program} {w : World} {K : PySem.W.Frag} {tg : Expr} {I : Addr} {own : List Addr} {n : Nat} {rows : Nat → List PyData} {H0 : Hp} {tn : Nat → Heap → Prop} (mem : I ∈ own) (obj : ∀ i h, tn i h → ∀ b ∈ own, ∃ o, h.get? b = some o ∧ ∀ v, o.data ≠ .cell v)
    (keep : ∀ i h h', tn i h → (∀ b ∈ own, ∀ o, h.get? b = some o → h'.get? b = some o) → tn i h')
    (goes : ∀ {X : Cx} {pins : List (Addr × Obj)} {σ : St} {H : Hp} {s : Shared} {i : Nat}, X.prog = P → X.w = w → X.K = K → X.calm = true → Inv X pins σ H s → Keep H0 H → (∀ b ∈ own, FpOk X pins H b) → tn i s.heap →
      ∃ fp wr Y St, (∀ b ∈ wr, b ∈ own) ∧ GoesN P w X.A tg I fp wr n Y St ∧ St i s.heap ∧ (∀ h, St (i + 1) h → tn (i + 1) h) ∧ ∀ v h', i < n → Y i s.heap v h' → ∃ T us vs, v = .ref T ∧ s.heap.objs.size ≤ T ∧ h'.IsTuple T (us : List Value).toArray ∧ Vals vs us ∧ FzAll K H vs (rows i) ∧ vs.length ≤ 100)
    (self : ∀ A i (s : Shared) (Q E : Value → Shared → Prop), tn i s.heap → Q (.ref I) s → wpAny (model P w) A (pyIter (.ref I)) Q E s) : Turn P w K tg (ItN K H0 n rows) own I tn where
  mem := mem
  obj := obj
  keep := keep
  item := by
    intro X hP hw hK hc i pins s σ H E J hf st hg
    obtain ⟨k, hi⟩ := hg
    obtain ⟨fp, wr, Y, St, hwr, W, hst, hnx, hY⟩ := goes hP hw hK hc J k hf st
    refine W.goes i s _ E hi hst fun v h' tk y st' kk _ => ?_
    obtain ⟨T, us, vs, rfl, hT, ⟨o, ho, hcl, m, hd⟩, rv, g, hl⟩ := hY v h' hi y
    have new : ObjOk X.prog X.w (upd H T (.tup vs)) h' T (.tup vs) := ⟨Nat.le_trans hl (by decide), us, rv, ⟨o, ho, hcl, m, hd⟩⟩
    have J2 : Inv X pins σ (upd H T (.tup vs)) { s with heap := h', toks := tk } := J.turnedNew (ch := own) (fun b ob hb e => kk b ob (fun z => hb (hwr b z)) e) hf hT new
    refine ⟨.ref T, _, J2, rfl, ⟨T, vs, rfl, J.hok.fresh hT, rfl, g⟩, hnx _ st', fun b hb => ?_⟩
    obtain ⟨ob, eb, _⟩ := obj i s.heap st b hb
    rw [upd_ne (Nat.ne_of_lt (Nat.lt_of_lt_of_le (Heap.lt_size eb) hT))]
    exact (hf b hb).1
  done := by
    intro X hP hw hK hc i pins s σ H E J hf st hg
    obtain ⟨k, rfl⟩ := hg
    obtain ⟨fp, wr, Y, St, hwr, W, hst, _, _⟩ := goes hP hw hK hc J k hf st
    exact W.stops s _ E hst fun h' tk kk _ => J.turnedL (t' := tk) (ch := own) (fun b ob hb e => kk b ob (fun z => hb (hwr b z)) e) hf
  self := self
/-! ### enumerate -/
def enumD (ds : List PyData) : List PyData := (List.range ds.length).map fun (i : Nat) => .tuple [.int ((0 : Int) + (i : Int)), ds.getD i .none]
def itEnum (f : Ev Rv) : Ev (List PyData) := bnd (itSeq f) fun ds m => .ok (enumD ds) m
def seqOf : PyData → Option (List PyData)
  | .list xs => some xs
  | .tuple xs => some xs
  | _ => none
theorem src_of {K : PySem.W.Frag} {H : Hp} {v : V} {d : PyData} {ds : List PyData} (z : Fz K H v d) (e : seqOf d = some ds) : SrcOf K H v ds := by
  cases z with
  | lst h g => cases e; exact .l h g
  | tup h g => cases e; exact .t h g
  | _ => cases e
theorem itSeq_eq (f : Ev Rv) (m : Sm) : itSeq f m = (frzE f m).bind fun d m1 => match seqOf d with | some xs => .ok xs m1 | none => .no := by
  unfold itSeq bnd
  cases frzE f m with
  | ok d m1 => cases d <;> rfl
  | _ => rfl
section
variable {xr : XR} {W : WX} {X : Cx} {e e2 e3 : Expr} {f f2 f3 : Ev Rv} {p pos tpos : Pos} {elts : List Expr} {kk : Nat}
theorem turn_enum {P : Program} {w : World} {K : PySem.W.Frag} {H0 : Hp} {ds : List PyData} {l : Bool} {a : Addr} (at_ : SrcAt K H0 l a ds) {en it : Addr} (hlt : a < it) (hne : en ≠ it) (hae : a ≠ en) :
    Turn P w K (.Tuple elts kk tpos) (ItN K H0 ds.length fun i => [.int ((0 : Int) + (i : Int)), ds.getD i .none]) [en, it] en (fun i h => (∃ old, IsEnum h en it ((0 : Int) + (i : Int)) old) ∧ ownIt l a it i h) := by
  refine turn_goes (by simp) (fun i h st b hb => ?_) (fun i h h' st k => ?_) (fun {X pins σ H s i} hP hw hK hc J k hf st => ?_) fun A i s Q E st q => ?_
  · obtain ⟨⟨old, he⟩, ho⟩ := st
    rcases (show b = en ∨ b = it by simpa using hb) with rfl | rfl
    · exact ⟨_, he, fun v z => nomatch z⟩
    · exact ho.obj
  · obtain ⟨⟨old, he⟩, ho⟩ := st
    exact ⟨⟨old, k en (by simp) _ he⟩, ho.keep fun o e => k it (by simp) o e⟩
  · obtain ⟨⟨old, he⟩, ho⟩ := st
    obtain ⟨hal, _, PV, G, o, B, hG, _, D, hP2⟩ := at_ hK J k
    subst hP hw
    refine ⟨_, _, _, _, ?_, GoesN.enumFrom 0 (D X.A.in1 it (J.ok.hd hc) (Nat.ne_of_lt hlt)) en hne (by simp; exact ⟨hne, fun z => hae z.symm⟩) (by simp), ⟨⟨old, he⟩, ho, hG⟩, fun h st => ⟨st.1, st.2.1⟩, fun v h' hi y => ?_⟩
    · intro b hb; exact hb
    · obtain ⟨T, t, x, rfl, hT, hx, ht⟩ := y
      obtain ⟨w, d, rv, ed, z⟩ := hP2 i x hx
      refine ⟨T, [.int ((0 : Int) + (i : Int)) t, x], [.int ((0 : Int) + (i : Int)), w], rfl, hT, ht, .cons ⟨t, rfl⟩ (.cons rv .nil), .cons (.int _) (.cons ?_ .nil), by simp⟩
      rw [List.getD_eq_getElem?_getD, ed]
      exact z
  · obtain ⟨⟨old, he⟩, ho⟩ := st
    exact wpAny_pyIter_enum he q
theorem si_enum (hg : Gl X "enumerate") (hm : X.mg "enumerate" = none) (ha : PE X e (tE xr X.K W f)) (hs : starEach [e] X.env = [(false, eval e X.env)] := by rfl) : PI X (.Tuple elts kk tpos) (.Call (.Name "enumerate" p) [e] [] pos) (tI xr X.K W (itEnum f)) := by
  refine ⟨fun pins s σ H R I h => ?_⟩
  obtain ⟨m, fp, r, q⟩ := h
  have hd : tD xr X.K W (frzE f) σ H (fun v H1 => ∃ ds, SrcOf X.K H1 v ds ∧ (ds.length ≤ sizeLine → ∀ J, WalkD X.K J (enumD ds) H1 → R J H1)) := by
    refine ⟨m, fp, r, ?_⟩
    unfold itEnum bnd at q
    rw [itSeq_eq] at q
    cases e1 : frzE f m with
    | no => rw [e1] at q; exact q
    | ex x m' => rw [e1] at q; exact q
    | ok d m1 =>
      rw [e1] at q
      simp only [Res.bind] at q
      cases e2 : seqOf d with
      | none => simp only [e2] at q; exact q.elim
      | some ds =>
        simp only [e2] at q
        exact fun v H1 fp1 r1 s1 z => ⟨ds, src_of z e2, fun _ J w => q J H1 fp1 r1 s1 w⟩
  have hpa : PA X [e] (fun σ H Q => tD xr X.K W (frzE f) σ H fun v H1 => Q [v] H1) := ⟨fun pos pins s σ H Q I h => (pa_cons (sd_frz ha) pa_nil hs).run pos pins s σ H Q I h⟩
  refine Call_ (ld_blt I hg hm boot_enumerate (PyProof.Rows.callWith_type1 (thn (hpa.run pos pins s σ H (fun vs H1 => ∃ v, vs = [v] ∧ ∃ ds, SrcOf X.K H1 v ds ∧ (ds.length ≤ sizeLine → ∀ J, WalkD X.K J (enumD ds) H1 → R J H1)) I (by
      obtain ⟨m, fp, r, q⟩ := hd
      refine ⟨m, fp, r, ?_⟩
      cases e1 : frzE f m with
      | no => rw [e1] at q; exact q
      | ex x m' => rw [e1] at q; exact q
      | ok d m1 => rw [e1] at q; exact fun v H1 fp1 r1 s1 z => ⟨v, rfl, q v H1 fp1 r1 s1 z⟩)) fun us s1 ⟨vs, H1, I1, r1, q1⟩ => ?_) hs rfl))
  obtain ⟨v, rfl, ds, src, q1⟩ := q1
  obtain ⟨l, a, rfl, at_⟩ := src_at src
  cases r1 with
  | cons rr rest =>
    cases rest
    cases rr
    obtain ⟨hal, hfew, PV, G, o, B, hG, h0, D, hP2⟩ := at_ rfl I1 (.refl _)
    refine enum_one B hG fun h' he ho hk => wpAny_pyIter_enum he ?_
    have I2 : Inv X pins σ H1 { s1 with heap := h' } := I1.kept (t' := s1.toks) hk
    have fresh : ∀ b ∈ [s1.heap.objs.size + 1, s1.heap.objs.size], FpOk X pins H1 b := fun b hb => by
      have hle : s1.heap.objs.size ≤ b := by
        rcases (show b = s1.heap.objs.size + 1 ∨ b = s1.heap.objs.size by simpa using hb) with z | z
        · rw [z]; exact Nat.le_add_right _ _
        · rw [z]; exact Nat.le_refl _
      exact I1.fpOk hle (I1.hok.fresh hle)
    refine ⟨s1.heap.objs.size + 1, [s1.heap.objs.size + 1, s1.heap.objs.size], _, _, H1, rfl, I2, turn_enum at_ hal (Nat.succ_ne_self _) (Nat.ne_of_lt (Nat.lt_succ_of_lt hal)), ⟨⟨.none, by simpa using he⟩, h0 _ _ ho⟩, fresh, q1 hfew _ ?_⟩
    exact walk_n hfew
/-! ### zip -/
def zipD (xs ys : List PyData) : List PyData := (List.range (min xs.length ys.length)).map fun i => .tuple [xs.getD i .none, ys.getD i .none]
def itZip (fs : List (Ev Rv)) : Ev (List PyData) := bnd (argsD fs) fun ds m => match ds with
  | [x, y] => match seqOf x, seqOf y with
    | some xs, some ys => .ok (zipD xs ys) m
    | _, _ => .no
  | _ => .no
theorem turn_zip2 {P : Program} {w : World} {K : PySem.W.Frag} {H0 : Hp} {ds es : List PyData} {l1 l2 : Bool} {a b : Addr} (at1 : SrcAt K H0 l1 a ds) (at2 : SrcAt K H0 l2 b es) {N : Nat} (ha : a < N) (hb : b < N) :
    Turn P w K (.Tuple elts kk tpos) (ItN K H0 (min ds.length es.length) fun i => [ds.getD i .none, es.getD i .none]) [N + 4, N + 2, N + 3, N, N + 1] (N + 4)
      (fun i h => IsZip h (N + 4) (N + 2) (N + 3) .none ∧ IsTupOf2 h (N + 2) (.ref N) (.ref (N + 1)) ∧ (∃ x y, IsTupOf2 h (N + 3) x y) ∧ ownIt l1 a N i h ∧ ownIt l2 b (N + 1) i h) := by
  refine turn_goes (by simp) (fun i h st c hc => ?_) (fun i h h' st k => ?_) (fun {X pins σ H s i} hP hw hK hc J k hf st => ?_) fun A i s Q E st q => ?_
  · obtain ⟨hz, hTI, ⟨x, y, hTO⟩, h1, h2⟩ := st
    rcases (show c = N + 4 ∨ c = N + 2 ∨ c = N + 3 ∨ c = N ∨ c = N + 1 by simpa using hc) with rfl | rfl | rfl | rfl | rfl
    · exact ⟨_, hz, fun v z => nomatch z⟩
    · exact ⟨_, hTI, fun v z => nomatch z⟩
    · exact ⟨_, hTO, fun v z => nomatch z⟩
    · exact h1.obj
    · exact h2.obj
  · obtain ⟨hz, hTI, ⟨x, y, hTO⟩, h1, h2⟩ := st
    exact ⟨k _ (by simp) _ hz, k _ (by simp) _ hTI, ⟨x, y, k _ (by simp) _ hTO⟩, h1.keep fun o e => k _ (by simp) o e, h2.keep fun o e => k _ (by simp) o e⟩
  · obtain ⟨hz, hTI, hTO, h1, h2⟩ := st
    obtain ⟨_, _, PV, G, o, B, hG, _, D, hP2⟩ := at1 hK J k
    obtain ⟨_, _, PV2, G2, o2, B2, hG2, _, D2, hP22⟩ := at2 hK J k
    subst hP hw
    have S : ZipSep2 (N + 4) (N + 2) (N + 3) N (N + 1) (N :: [a]) ((N + 1) :: [b]) := zip_sep2 (by simpa using ha) (by simpa using hb)
    refine ⟨_, _, _, _, ?_, GoesN.zip2 S (D X.A.in1 N (J.ok.hd hc) (Nat.ne_of_lt ha)) (D2 X.A.in1 (N + 1) (J.ok.hd hc) (Nat.ne_of_lt (Nat.lt_succ_of_lt hb))), ⟨hz, hTI, hTO, ⟨h1, hG⟩, h2, hG2⟩, fun h st => ⟨st.1, st.2.1, st.2.2.1, st.2.2.2.1.1, st.2.2.2.2.1⟩, fun v h' hi y => ?_⟩
    · intro c hc
      rcases (show c = N + 4 ∨ c = N + 3 ∨ c = N ∨ c = N + 1 by simpa using hc) with rfl | rfl | rfl | rfl <;> simp
    · obtain ⟨T, x, y, rfl, hT, hx, hy, ht⟩ := y
      obtain ⟨u1, d1, rv1, ed1, z1⟩ := hP2 i x hx
      obtain ⟨u2, d2, rv2, ed2, z2⟩ := hP22 i y hy
      refine ⟨T, [x, y], [u1, u2], rfl, hT, ht, .cons rv1 (.cons rv2 .nil), .cons ?_ (.cons ?_ .nil), by simp⟩
      · rw [List.getD_eq_getElem?_getD, ed1]; exact z1
      · rw [List.getD_eq_getElem?_getD, ed2]; exact z2
  · exact wpAny_pyIter_zip st.1 q
theorem si_zip (hg : Gl X "zip") (hm : X.mg "zip" = none) (ha : PA X [e, e2] (tAD xr X.K W (argsD [f, f2]))) (hs : starEach [e, e2] X.env = (false, eval e X.env) :: starEach [e2] X.env := by rfl) (hpl : (backTo pos (starEach [e2] X.env)).any (·.1) = false := by rfl) :
    PI X (.Tuple elts kk tpos) (.Call (.Name "zip" p) [e, e2] [] pos) (tI xr X.K W (itZip [f, f2])) := by
  refine ⟨fun pins s σ H R I h => ?_⟩
  have hd : tAD xr X.K W (argsD [f, f2]) σ H (fun vs H1 => ∃ v1 v2 xs ys, vs = [v1, v2] ∧ SrcOf X.K H1 v1 xs ∧ SrcOf X.K H1 v2 ys ∧ ∀ J, WalkD X.K J (zipD xs ys) H1 → R J H1) := by
    refine tG_bind (Rc := RelI X.K) h fun m fp ds m1 vs H1 fp1 r r1 s1 g q => ?_
    match ds, vs, g, q with
    | [x, y], _, .cons z1 (.cons z2 .nil), q =>
      cases e1 : seqOf x with
      | none => simp only [e1] at q; exact q.elim
      | some xs =>
        cases e2 : seqOf y with
        | none => simp only [e1, e2] at q; exact q.elim
        | some ys =>
          simp only [e1, e2] at q
          exact ⟨_, _, xs, ys, rfl, src_of z1 e1, src_of z2 e2, fun J w => q J H1 fp1 r1 s1 w⟩
    | [], _, .nil, q => exact q.elim
    | [_], _, .cons _ .nil, q => exact q.elim
    | _ :: _ :: _ :: _, _, _, q => exact q.elim
  refine Call_ (ld_blt I hg hm PyProof.Rows.boot_zip (PyProof.Rows.callWith_type1 (thn (ha.run pos pins s σ H _ I hd) fun us s1 ⟨vs, H1, I1, r1, q1⟩ => ?_) hs hpl))
  obtain ⟨v1, v2, xs, ys, rfl, src1, src2, q1⟩ := q1
  obtain ⟨l1, a, rfl, at1⟩ := src_at src1
  obtain ⟨l2, b, rfl, at2⟩ := src_at src2
  cases r1 with
  | cons rr rest =>
    cases rest with
    | cons rr2 rest =>
      cases rest
      cases rr
      cases rr2
      obtain ⟨ha1, few1, PV, G, o, B, hG, h0, D, hP2⟩ := at1 rfl I1 (.refl _)
      obtain ⟨ha2, few2, PV2, G2, o2, B2, hG2, h02, D2, hP22⟩ := at2 rfl I1 (.refl _)
      refine zip_begins2 B B2 hG hG2 fun h' hz hTI hTO e1 e2 hsz hk => wpAny_pyIter_zip hz ?_
      have I2 : Inv X pins σ H1 { s1 with heap := h' } := I1.kept (t' := s1.toks) hk
      have fresh : ∀ c ∈ [s1.heap.objs.size + 4, s1.heap.objs.size + 2, s1.heap.objs.size + 3, s1.heap.objs.size, s1.heap.objs.size + 1], FpOk X pins H1 c := fun c hc => by
        have hle : s1.heap.objs.size ≤ c := by
          rcases (show c = s1.heap.objs.size + 4 ∨ c = s1.heap.objs.size + 2 ∨ c = s1.heap.objs.size + 3 ∨ c = s1.heap.objs.size ∨ c = s1.heap.objs.size + 1 by simpa using hc) with z | z | z | z | z
          · rw [z]; exact Nat.le_add_right _ _
          · rw [z]; exact Nat.le_add_right _ _
          · rw [z]; exact Nat.le_add_right _ _
          · rw [z]; exact Nat.le_refl _
          · rw [z]; exact Nat.le_add_right _ _
        exact I1.fpOk hle (I1.hok.fresh hle)
      refine ⟨s1.heap.objs.size + 4, _, _, _, H1, rfl, I2, turn_zip2 at1 at2 ha1 ha2, ⟨hz, hTI, ⟨_, _, hTO⟩, h0 _ _ e1, h02 _ _ e2⟩, fresh, q1 _ ?_⟩
      exact walk_n (Nat.le_trans (Nat.min_le_left _ _) few1)
/-! ### zip of three -/
def zip3D (xs ys zs : List PyData) : List PyData := (List.range (min (min xs.length ys.length) zs.length)).map fun i => .tuple [xs.getD i .none, ys.getD i .none, zs.getD i .none]
def itZip3 (fs : List (Ev Rv)) : Ev (List PyData) := bnd (argsD fs) fun ds m => match ds with
  | [x, y, z] => match seqOf x, seqOf y, seqOf z with
    | some xs, some ys, some zs => .ok (zip3D xs ys zs) m
    | _, _, _ => .no
  | _ => .no
end
end PyE

/-! PyE: a def by its reading; the source of draws of the first kind -/
namespace PyE
open PySem PySem.Spec PyProof.Rows
open L2

section
variable {xr : XR} {P : Program} {w : World} {K : PySem.W.Frag} {mg : Str → Option Value} {base : Heap} {k : Nat} {N ps : List Str} {qual x : Str} {f : Addr} {fd : FuncData} {st : Stmt} {sp : Sp}
/-- a def by a reading of its body -/
theorem fnG_raw (F : Fun K x qual st f fd) (S : FnScope N ps (defScope st)) (len : ∀ vs H Q E, sp vs H Q E → vs.length = ps.length) (hbody : ∀ (cdv : Value) (A : Around) (outer : List Env) (s : Shared) (H : Hp) (vs : List V) (Q : VK) (E : XK), Room k (bodyX P w K mg base N qual (defScope st) f cdv A outer s H E).A →
      (bodyX P w K mg base N qual (defScope st) f cdv A outer s H E).A.guards = some [] → sp vs H Q E →
      ∃ t, PSs (bodyX P w K mg base N qual (defScope st) f cdv A outer s H E) (defBody st) t ∧ t { nx := fun _ H' => Q .non H', rt := Q } (L2.start N vs) H) : FnG P w K mg base (k + 1) f fd ps sp := by
  refine ⟨fun q => len _ _ _ _ q, ?_⟩
  intro A outer s H args us vs Q E room hG e0 hb rv q
  obtain ⟨oc, od, kV, doc, pm, an, cd, ct, osl, rfl, lk, hcd⟩ := F.ex
  have hps : vs.length = ps.length := len _ _ _ _ q
  have kin : K.In s.heap := e0.mod.kin.keeps fun b o e => (e0.bs b o e).1
  have lim : s.heap.NoLimit := e0.mod.nolimit.keeps fun b o e => (e0.bs b o e).1
  have kinds : ∀ y ∈ ps.zip us, (defScope st).names.lookup y.1 = some .local ∨ ((defScope st).names.lookup y.1 = some .cell ∧ ((cellsFrom (s.heap.objs.size + 1) (defScope st).names []).lookup y.1).isSome = true) := by
    rintro ⟨n, v⟩ hy
    rcases S.par n (List.of_mem_zip hy).1 with z | z
    · exact .inl z
    · exact .inr ⟨z, PySem.W.cellsFrom_some _ _ _ (.inl z)⟩
  refine codeAny_call_function room.depth (kin _ _ lk) rfl S.co S.gen rfl (PySem.W.codeRec_of kin hcd) (hb _ _ _ _ ?_)
  refine wpAny_newFunctionEnv_cells S.kind kinds fun env he s1 hx => ?_
  subst he
  refine ⟨lim.keeps hx.toInCall.keep, codeAny_func ?_⟩
  obtain ⟨t, body, q2⟩ := hbody cd A outer s H vs Q E (room.deeper _) hG q
  have inv : Inv (bodyX P w K mg base N qual (defScope st) f cd A outer s H E) [] (L2.start N vs) H s1 := inv_start S room.hd e0 hps rv hx
  refine wpAny_mono (body.run [] s1 (L2.start N vs) H _ inv q2) (fun fl s' hs => ?_) fun e s' hs => hs
  cases fl with
  | ret u => exact let ⟨v, σ', H', J, rv, z⟩ := hs; ⟨v, H', J.os, J.bare, J.base, J.hok, rv, z⟩
  | next => exact let ⟨σ', H', J, z⟩ := hs; ⟨.non, H', J.os, J.bare, J.base, J.hok, rfl, z⟩
  | brk => obtain ⟨_, _, _, z⟩ := hs; exact False.elim z
  | cont => obtain ⟨_, _, _, z⟩ := hs; exact False.elim z
end

/-! ### the first kind of source -/
def drawA (cells : List Int) (a b many : Int) : Int × List Int × Int :=
  if many < 2 then (0, cells, b) else match cells.reverse with
    | cell :: rest => (cell % many, if cell ≥ many then rest.reverse ++ [cell / many] else rest.reverse, b)
    | [] =>
      let b1 := b + 1
      let n1 := (a + b1 * 2654435761) % 4294967279
      let n2 := (n1 * n1 + b1 * 40503 + 5) % 4294967231
      let n3 := (n2 * n2 + a) % 4294967291
      (n3 / 256 % many, [], b1)
def drawFA : Fm := fun ms => match ms with
  | [.rs 0 cells a b, .fz (.int many)] => if many < 1073741824 ∧ cells.length ≤ 1000 then .ok (.fz (.int (drawA cells a b many).1)) [some (.rs 0 (drawA cells a b many).2.1 a (drawA cells a b many).2.2), some (.fz (.int many))] else .no
  | _ => .no
theorem drawFA_len : ∀ ms, ms.length ≠ 2 → drawFA ms = .no := by
  intro ms h
  unfold drawFA
  split
  · exact absurd rfl h
  · rfl
theorem drawFA_inv (ms : List Mv) : drawFA ms = .no ∨ ∃ cells a b many, ms = [.rs 0 cells a b, .fz (.int many)] ∧ many < 1073741824 ∧ cells.length ≤ 1000 ∧
    drawFA ms = .ok (.fz (.int (drawA cells a b many).1)) [some (.rs 0 (drawA cells a b many).2.1 a (drawA cells a b many).2.2), some (.fz (.int many))] := by
  unfold drawFA
  split
  · rename_i cells a b many
    by_cases h : many < 1073741824 ∧ cells.length ≤ 1000
    · exact .inr ⟨cells, a, b, many, rfl, h.1, h.2, by rw [if_pos h]⟩
    · exact .inl (by rw [if_neg h])
  · exact .inl rfl
theorem shaped_ints (ns : List Int) : SeqAt.shaped (.list (ns.map PyData.int)) = true := by
  have h1 : ∀ ns : List Int, PyData.canLayAll0 (ns.map PyData.int) = true := by
    intro ns
    induction ns with
    | nil => rfl
    | cons n r ih => simp only [List.map_cons, PyData.canLayAll0, ih, Bool.and_true]; rfl
  have h2 : ∀ ns : List Int, PyData.depthAll (ns.map PyData.int) = 0 := by
    intro ns
    induction ns with
    | nil => rfl
    | cons n r ih => simp only [List.map_cons, PyData.depthAll, ih]; rfl
  unfold SeqAt.shaped
  simp only [PyData.canLay0, h1, PyData.depth, h2, Bool.true_and]
  decide
end PyE

/-! PyE: lists that change; a source of draws made; two names at once -/
namespace PyE
open PySem PySem.Spec PyProof.Rows
open L2

abbrev Gm := List PyData → List PyData → Option (PyData × List PyData)
def mutE (i : Nat) (g : Gm) (fs : List (Ev Rv)) : Ev Rv := fun m => match m[i]? with
  | some (some (.ol _)) => (argsD fs m).bind fun ds m1 => match m1[i]? with
    | some (some (.ol xs)) => match g xs ds with
      | some (r, ys) => .ok (.d r) (m1.set i (some (.ol ys)))
      | none => .no
    | _ => .no
  | _ => .no
def MutOk (K : PySem.W.Frag) (r : V → List V → Hp → VK → Prop) (g : Gm) : Prop := ∀ (H : Hp) (p : Addr) (ys : List V) (xs : List PyData) (vs : List V) (ds : List PyData) (z : PyData) (xs' : List PyData) (Q : VK), H p = some (.lst ys) → FzAll K H ys xs → FzAll K H vs ds →
  g xs ds = some (z, xs') → (∀ v ys', Fz K H v z → FzAll K H ys' xs' → Q v (upd H p (.lst ys'))) → r (.ref p) vs H Q
section
variable {xr : XR} {W : WX} {X : Cx} {e : Expr} {es : List Expr} {fs : List (Ev Rv)} {g : Gm} {r : V → List V → Hp → VK → Prop} {i : Nat} {x name : Str} {id : String} {pos apos cpos : Pos}
theorem mut_end {K : PySem.W.Frag} (o : MutOk K r g) {σ : St} {H H1 : Hp} {fp fp1 : Fp} {m1 : Sm} {vs : List V} {ds : List PyData} {v : V} {Q : VK} (hv : σ[i]? = some (some v)) (r1 : RelS K H1 m1 σ fp1) (s1 : Step fp fp1 H H1) (gv : FzAll K H1 vs ds)
    (p : Post xr K W (RelR K) σ H fp Q (match m1[i]? with
      | some (some (.ol xs)) => match g xs ds with
        | some (r, ys) => .ok (.d r) (m1.set i (some (.ol ys)))
        | none => .no
      | _ => .no)) : r v vs H1 Q := by
  cases e1 : m1[i]? with
  | none => simp only [e1] at p; exact p.elim
  | some oo =>
    cases oo with
    | none => simp only [e1] at p; exact p.elim
    | some mv =>
      obtain ⟨w, e2, rm⟩ := r1.at_ i mv e1
      rw [hv] at e2; cases e2
      generalize ef : fp1 i = f0 at rm
      cases rm with
      | @ol xs a ys ha ga =>
        simp only [e1] at p
        cases eg : g xs ds with
        | none => simp only [eg] at p; exact p.elim
        | some q =>
          obtain ⟨z, xs'⟩ := q
          simp only [eg] at p
          refine o H1 a ys xs vs ds z xs' Q ha ga gv eg fun u ys' hz gz => ?_
          have k : Keep H1 (upd H1 a (.lst ys')) := keep_upd (by rw [ha]; exact trivial)
          have ha1 : a ∈ fp1 i := by rw [ef]; simp
          refine p u _ (fun j => if j = i then [a] else fp1 j) (r1.put (nth_lt e1) k (fun j hj b hb => upd_ne fun q => hj (r1.dis j i a (by rw [← q]; exact hb) ha1)) hv (.ol upd_same (gz.keep k)) fun b hb j hj hb2 => ?_) ?_ (hz.keep k)
          · simp only [List.mem_singleton] at hb
            subst hb
            exact hj (r1.dis j i b hb2 ha1)
          · refine s1.trans ⟨fun j b hb => ?_, fun b u hb hn => ?_, fun b hb => upd_trk hb⟩
            · by_cases hj : j = i
              · simp only [if_pos hj, List.mem_singleton] at hb
                exact .inl ⟨i, by rw [hb]; exact ha1⟩
              · simp only [if_neg hj] at hb; exact .inl ⟨j, hb⟩
            · rw [upd_ne (fun q => hn i (by rw [q]; exact ha1))]; exact hb
      | _ => simp only [e1] at p; exact p.elim
theorem slot_list {K : PySem.W.Frag} {σ : St} {H : Hp} {m : Sm} {fp : Fp} {xs : List PyData} (r : RelS K H m σ fp) (e : m[i]? = some (some (.ol xs))) : ∃ a ys, σ[i]? = some (some (.ref a)) ∧ H a = some (.lst ys) ∧ FzAll K H ys xs := by
  obtain ⟨v, e1, rm⟩ := r.at_ i _ e
  generalize fp i = f0 at rm
  cases rm with
  | ol ha ga => exact ⟨_, _, e1, ha, ga⟩
/-- x.name(e, ..), x a list that changes -/
theorem sd_mut (slot : Slot "list" name id) (hty : typeOf (.builtin id) = pure (.type "method_descriptor")) (hm : MtR X id r) (o : MutOk X.K r g) (hN : X.N[i]? = some x) (hv : Vis X.env.scope x) (ha : PA X (e :: es) (tAD xr X.K W (argsD fs))) (hd : (x == ("__debug__" : Str)) = false := by decide) (hcd : (x == ("__classdict__" : Str)) = false := by decide)
    (hbase : attributeBase (.Name x pos) name X.env (eval (.Name x pos) X.env) = eval (.Name x pos) X.env := by rfl)
    (hfew : ((backTo cpos (starEach (e :: es) X.env)).all (fun x => !x.1) && (backToKw cpos (keywordEach [] X.env)).all (fun x => x.1.isSome) && decide ((e :: es).length + ([] : List Keyword).length + (if ([] : List Keyword).isEmpty then 0 else 1) < 30)) = true := by rfl)
    (hline : (apos.endLine == cpos.line) = true := by rfl) (hs : starEach (e :: es) X.env = (false, eval e X.env) :: starEach es X.env := by rfl) (hplain : (backTo cpos (starEach es X.env)).any (·.1) = false := by rfl) :
    PE X (.Call (.Attribute (.Name x pos) name apos) (e :: es) [] cpos) (tE xr X.K W (mutE i g fs)) := by
  refine pe_imp (pe_bm PySem.F.plainAttrs_list slot hty hm (pe_var (i := i) hN hv hd hcd) ha hbase hfew hline hs hplain) fun σ H Q h => ?_
  obtain ⟨m, fp, r0, p⟩ := h
  unfold mutE at p
  cases e1 : m[i]? with
  | none => simp only [e1] at p; exact p.elim
  | some oo =>
    cases oo with
    | none => simp only [e1] at p; exact p.elim
    | some mv =>
      cases mv with
      | ol xs =>
        simp only [e1] at p
        obtain ⟨a, ys, hv2, ha2, ga⟩ := slot_list r0 e1
        refine ⟨.ref a, hv2, .inl ⟨rfl, _, .of ha2⟩, ?_⟩
        have p2 : tE xr X.K W (bnd (argsD fs) fun ds m1 => match m1[i]? with
          | some (some (.ol xs)) => match g xs ds with
            | some (r, ys) => .ok (.d r) (m1.set i (some (.ol ys)))
            | none => .no
          | _ => .no) σ H Q := ⟨m, fp, r0, p⟩
        exact tG_bind p2 fun m fp ds m1 vs H1 fp1 _ r1 s1 gv p3 => mut_end o hv2 r1 s1 gv p3
      | _ => simp only [e1] at p; exact p.elim
theorem sd_mut0 (slot : Slot "list" name id) (hty : typeOf (.builtin id) = pure (.type "method_descriptor")) (hm : MtR X id r) (o : MutOk X.K r g) (hN : X.N[i]? = some x) (hv : Vis X.env.scope x) (hd : (x == ("__debug__" : Str)) = false := by decide) (hcd : (x == ("__classdict__" : Str)) = false := by decide)
    (hbase : attributeBase (.Name x pos) name X.env (eval (.Name x pos) X.env) = eval (.Name x pos) X.env := by rfl) (hline : (apos.endLine == cpos.line) = true := by rfl) : PE X (.Call (.Attribute (.Name x pos) name apos) [] [] cpos) (tE xr X.K W (mutE i g [])) := by
  refine pe_imp (pe_bm0 PySem.F.plainAttrs_list slot hty hm (pe_var (i := i) hN hv hd hcd) hbase hline) fun σ H Q h => ?_
  obtain ⟨m, fp, r0, p⟩ := h
  unfold mutE at p
  cases e1 : m[i]? with
  | none => simp only [e1] at p; exact p.elim
  | some oo =>
    cases oo with
    | none => simp only [e1] at p; exact p.elim
    | some mv =>
      cases mv with
      | ol xs =>
        simp only [e1] at p
        obtain ⟨a, ys, hv2, ha2, ga⟩ := slot_list r0 e1
        exact ⟨.ref a, hv2, .inl ⟨rfl, _, .of ha2⟩, mut_end (vs := []) (ds := []) o hv2 r0 (.refl _ _) .nil (by simp only [argsD, Res.bind, e1] at p; simp only [e1]; exact p)⟩
      | _ => simp only [e1] at p; exact p.elim
end
def appendG : Gm := fun xs ds => match ds with
  | [d] => if xs.length < 1000000 then some (.none, xs ++ [d]) else none
  | _ => none
def extendG : Gm := fun xs ds => match ds with
  | [.list ys] => if xs.length + ys.length ≤ 1000000 then some (.none, xs ++ ys) else none
  | _ => none
def popG : Gm := fun xs ds => match ds with
  | [] => match xs[xs.length - 1]? with
    | some d => some (d, xs.dropLast)
    | none => none
  | _ => none
def popAtG : Gm := fun xs ds => match ds with
  | [.int i] => if -1000000 ≤ i ∧ i ≤ 1000000 then match seqIndex? i xs.length with
    | some k => match xs[k]? with
      | some d => some (d, xs.eraseIdx k)
      | none => none
    | none => none
  else none
  | _ => none
def insertG : Gm := fun xs ds => match ds with
  | [.int i, d] => if xs.length < 1000000 ∧ 0 ≤ i ∧ i ≤ 1000000 then some (.none, xs.take i.toNat ++ [d] ++ xs.drop i.toNat) else none
  | _ => none
section
variable {X : Cx} {K : PySem.W.Frag}
/-- list.extend of a list that may be read -/
def rExtR (K : PySem.W.Frag) : V → List V → Hp → VK → Prop := fun x vs H Q => ∃ l b xs zs, x = .ref l ∧ vs = [.ref b] ∧ H l = some (.lst xs) ∧ RL K H b zs ∧ xs.length + zs.length ≤ sizeLine ∧ Q .non (upd H l (.lst (xs ++ zs)))
theorem mtr_extend : MtR X "list.extend" (rExtR X.K) := by
  intro pins s σ H x vs v us Q I rx rv h
  obtain ⟨l, b, xs, zs, rfl, rfl, h1, h2, hz, q⟩ := h
  cases rx
  obtain ⟨u, rfl, ru⟩ := rv.one
  cases ru
  obtain ⟨z, its, n, r, hl, e⟩ := I.lstM h1
  obtain ⟨its2, n2, r2, _, e2⟩ := RL.exact I h2
  have hl2 := r2.length
  have hsz : its.toArray.size + its2.toArray.size ≤ sizeLine := by rw [List.size_toArray, List.size_toArray]; omega
  refine call_meets F.slot_list_extend ⟨_, e, rfl⟩ F.entry_list_extend (F.args_list_extend_2 _ _) (AutoSeq1.list_extend_list_list_0 l its.toArray n b its2.toArray n2 (by rw [notLongL hsz, Bool.and_false]; exact Bool.false_ne_true) (by rw [List.size_toArray]; omega) (by omega)) ⟨e, e2, ?_⟩
  exact ⟨.non, _, I.lset (its' := its ++ its2) h1 e (by simp) (r.append r2) (by rw [List.length_append]; omega), rfl, q⟩
theorem mto_append : MutOk K rAppend appendG := by
  intro H p ys xs vs ds z xs' Q hp ga gv e q
  unfold appendG at e
  split at e
  · split at e
    · rename_i hl
      cases e
      cases gv with
      | cons hz g =>
        cases g
        have hlen : ys.length = xs.length := ga.length
        exact ⟨p, ys, _, rfl, rfl, hp, by rw [sizeLine_eq]; omega, q _ _ .non (ga.append (.cons hz .nil))⟩
    · cases e
  · cases e
theorem fz_list1 {H : Hp} {vs : List V} {ys : List PyData} (g : FzAll K H vs [.list ys]) : ∃ b zs, vs = [.ref b] ∧ RL K H b zs ∧ FzAll K H zs ys := by
  cases g with
  | cons h g => cases g; cases h with
    | lst h g => exact ⟨_, _, rfl, .inr h, g⟩
theorem mto_extend : MutOk K (rExtR K) extendG := by
  intro H p ys xs vs ds z xs' Q hp ga gv e q
  unfold extendG at e
  split at e
  · split at e
    · rename_i hl
      cases e
      obtain ⟨b, zs, rfl, h2, g2⟩ := fz_list1 gv
      have h1 : ys.length = xs.length := ga.length
      have h3 := g2.length
      exact ⟨p, b, ys, zs, rfl, rfl, hp, h2, by rw [sizeLine_eq]; omega, q _ _ .non (ga.append g2)⟩
    · cases e
  · cases e
theorem FzAll.dropLast {H : Hp} {ys : List V} {xs : List PyData} (g : FzAll K H ys xs) : FzAll K H ys.dropLast xs.dropLast := by
  rw [List.dropLast_eq_take, List.dropLast_eq_take, g.length]
  exact g.take _
theorem FzAll.eraseIdx {H : Hp} : ∀ {ys : List V} {xs : List PyData} (k : Nat), FzAll K H ys xs → FzAll K H (ys.eraseIdx k) (xs.eraseIdx k)
  | _, _, _, .nil => .nil
  | _, _, 0, .cons _ g => g
  | _, _, k + 1, .cons h g => .cons h (FzAll.eraseIdx k g)
theorem mto_pop : MutOk K rPop popG := by
  intro H p ys xs vs ds z xs' Q hp ga gv e q
  unfold popG at e
  split at e
  · cases gv
    cases e1 : xs[xs.length - 1]? with
    | none => rw [e1] at e; cases e
    | some d =>
      rw [e1] at e; cases e
      obtain ⟨v, e2, hz⟩ := ga.get e1
      rw [← ga.length] at e2
      exact ⟨p, ys, v, rfl, rfl, hp, e2, q _ _ hz ga.dropLast⟩
  · cases e
theorem mto_popAt : MutOk K rPopAt popAtG := by
  intro H p ys xs vs ds z xs' Q hp ga gv e q
  unfold popAtG at e
  split at e
  · rename_i i
    split at e
    · rename_i hi
      cases e1 : seqIndex? i xs.length with
      | none => rw [e1] at e; cases e
      | some k =>
        rw [e1] at e
        cases e2 : xs[k]? with
        | none => simp only [e2] at e; cases e
        | some d =>
          simp only [e2] at e; cases e
          obtain ⟨v, e3, hz⟩ := ga.get e2
          cases gv with
          | cons hw g =>
            cases g
            cases fz_int hw
            rw [← ga.length] at e1
            exact ⟨p, ys, i, k, v, rfl, rfl, hp, by omega, by omega, e1, e3, q _ _ hz (ga.eraseIdx k)⟩
    · cases e
  · cases e
theorem mto_insert : MutOk K (fun x vs H Q => ∃ (l : Addr) (xs : List V) (i : Int) (y : V), x = .ref l ∧ vs = [.int i, y] ∧ H l = some (.lst xs) ∧ xs.length < sizeLine ∧ 0 ≤ i ∧ i < 2 ^ 63 ∧ Q .non (upd H l (.lst (xs.take i.toNat ++ [y] ++ xs.drop i.toNat)))) insertG := by
  intro H p ys xs vs ds z xs' Q hp ga gv e q
  unfold insertG at e
  split at e
  · rename_i i d
    split at e
    · rename_i hi
      cases e
      cases gv with
      | cons hw g =>
        cases g with
        | cons hz g =>
          cases g
          cases fz_int hw
          have h1 : ys.length = xs.length := ga.length
          exact ⟨p, ys, i, _, rfl, rfl, hp, by rw [sizeLine_eq]; omega, hi.2.1, by omega, q _ _ .non (((ga.take _).append (.cons hz .nil)).append (ga.drop _))⟩
    · cases e
  · cases e
end

/-! ### x[i] = e -/
theorem tS_at {xr : XR} {K : PySem.W.Frag} {W : WX} {ro : List Nat} {σ0 σ : St} {D : Ends} {H H0 : Hp} {fp fp0 : Fp} {m : Sm} {α β : Type} {Ra : RelT α β} {f : Ev α} {g : α → Sf} {Q1 : β → Hp → Prop} (r : RelS K H m σ fp) (k : Kept ro σ0 σ) (s0 : Step fp0 fp H0 H) (p : PostS xr K W ro σ0 D H0 fp0 ((f m).bind g))
    (h1 : ∀ a m1 v H1 fp1, RelS K H1 m1 σ fp1 → Step fp fp1 H H1 → Ra H H1 σ fp1 a v → PostS xr K W ro σ0 D H0 fp0 (g a m1) → Q1 v H1) : tG xr K W Ra f σ H Q1 := by
  refine ⟨m, fp, r, ?_⟩
  generalize f m = q at p
  cases q with
  | no => exact p
  | ex x m' => exact fun c d H' fp' rs st x => p c d σ H' fp' rs (s0.trans st) k x
  | ok a m1 => exact fun v H1 fp1 r1 s1 ra => h1 a m1 v H1 fp1 r1 s1 ra p
def setIx (i : Nat) (fi fe : Ev Rv) : Sf := bnd (frzE fe) fun d m => match m[i]? with
  | some (some (.ol _)) => (frzE fi m).bind fun k m1 => match k, m1[i]? with
    | .int k, some (some (.ol xs)) => match ixN xs.length k with
      | some j => .ok .nx (m1.set i (some (.ol (xs.set j d))))
      | none => .no
    | _, _ => .no
  | _ => .no
section
variable {xr : XR} {W : WX} {X : Cx} {ro : List Nat} {σ0 : St} {e ie : Expr} {fe fi : Ev Rv} {i : Nat} {x : Str} {pos npos spos : Pos}
theorem ss_setIx (he : PE X e (tE xr X.K W fe)) (hi : PE X ie (tE xr X.K W fi)) (hN : X.N[i]? = some x) (hv : Vis X.env.scope x) (hd : (x == ("__debug__" : Str)) = false := by decide) (hcd : (x == ("__classdict__" : Str)) = false := by decide)
    (ha : ∀ v, assign (.Subscript (.Name x npos) ie spos) X.env v = (do
      let ov ← holding [v] (eval (.Name x npos) X.env)
      let iv ← holding [v, ov] (eval ie X.env)
      standAt spos
      holding [v, ov, iv] (setItem ov iv v)
      release [v, ov, iv] []) := by intro _; rfl)
    (hs : swapsWithSole [.Subscript (.Name x npos) ie spos] e pos.line X.env = pure false := by rfl) (hw : swappedStores [.Subscript (.Name x npos) ie spos] e X.env = pure none := by rfl)
    (h1 : (assignEach [.Subscript (.Name x npos) ie spos] X.env).map (·.2) = [assign (.Subscript (.Name x npos) ie spos) X.env] := by rfl) : PS X (.Assign [.Subscript (.Name x npos) ie spos] e pos) (tS xr X.K W ro σ0 (setIx i fi fe)) := by
  refine ps_imp (ps_asg (sd_frz he) (pg_sub (pe_var (i := i) hN hv hd hcd) (sd_frz hi) set_list ha) hs hw h1) fun D σ H q => ?_
  refine tS_bind (Ra := RelD X.K) q fun fp d m1 v H1 fp1 r1 s1 k z p => ?_
  cases e1 : m1[i]? with
  | none => simp only [e1] at p; exact p.elim
  | some oo =>
    cases oo with
    | none => simp only [e1] at p; exact p.elim
    | some mv =>
      cases mv with
      | ol xs0 =>
        simp only [e1] at p
        obtain ⟨a, ys, hv2, ha2, ga⟩ := slot_list r1 e1
        refine ⟨.ref a, hv2, ?_⟩
        refine tS_at (D := D) (ro := ro) (σ0 := σ0) (Ra := RelD X.K) (g := fun k m1 => match k, m1[i]? with
          | .int k, some (some (.ol xs)) => match ixN xs.length k with
            | some j => .ok .nx (m1.set i (some (.ol (xs.set j d))))
            | none => .no
          | _, _ => .no) r1 k (.refl _ _) p fun kk m2 u H2 fp3 r2 s2 zk p2 => ?_
        cases kk with
        | int kk =>
          cases fz_int zk
          cases e2 : m2[i]? with
          | none => simp only [e2] at p2; exact p2.elim
          | some oo =>
            cases oo with
            | none => simp only [e2] at p2; exact p2.elim
            | some mv =>
              cases mv with
              | ol xs =>
                simp only [e2] at p2
                cases e3 : ixN xs.length kk with
                | none => simp only [e3] at p2; exact p2.elim
                | some j =>
                  simp only [e3] at p2
                  obtain ⟨w, e4, rm⟩ := r2.at_ i _ e2
                  rw [hv2] at e4; cases e4
                  generalize ef : fp3 i = f0 at rm
                  cases rm with
                  | @ol _ _ ys2 hp g2 =>
                    have k3 : Keep H2 (upd H2 a (.lst (ys2.set j v))) := keep_upd (by rw [hp]; exact trivial)
                    have ha1 : a ∈ fp3 i := by rw [ef]; simp
                    have kv : Keep H1 H2 := r1.keepOf s2
                    refine ⟨a, ys2, kk, j, rfl, rfl, hp, by rw [g2.length]; exact e3, p2 σ _ (fun l => if l = i then [a] else fp3 l) (r2.put (nth_lt e2) k3 (fun l hl b hb => upd_ne fun q => hl (r2.dis l i a (by rw [← q]; exact hb) ha1)) hv2 (.ol upd_same ((FzAll.set (Fz.keep kv z) j g2).keep k3)) fun b hb l hl hb2 => ?_) (s2.trans ⟨fun l b hb => ?_, fun b u hb hn => ?_, fun b hb => upd_trk hb⟩) k⟩
                    · simp only [List.mem_singleton] at hb
                      subst hb
                      exact hl (r2.dis l i b hb2 ha1)
                    · by_cases hl : l = i
                      · simp only [if_pos hl, List.mem_singleton] at hb
                        exact .inl ⟨i, by rw [hb]; exact ha1⟩
                      · simp only [if_neg hl] at hb; exact .inl ⟨l, hb⟩
                    · rw [upd_ne (fun q => hn i (by rw [q]; exact ha1))]; exact hb
              | _ => simp only [e2] at p2; exact p2.elim
        | _ => exact p2.elim
      | _ => simp only [e1] at p; exact p.elim
/-! ### a, b = e, e' with plain local names -/
def parS (i j : Nat) (f1 f2 : Ev Rv) : Sf := bnd (ownF f1) fun r1 => bnd (ownF f2) fun r2 m => (putM i r1 m).bind fun _ m1 => putM j r2 m1
theorem put_at {K : PySem.W.Frag} {H0 H : Hp} {m : Sm} {σ : St} {fp : Fp} {r : Rv} {v : V} (s : RelS K H m σ fp) (rr : RelR K H0 H σ fp r v) (hr : ∀ i, r ≠ .s i) : ∃ mv f, (∀ i (m : Sm), putM i r m = .ok .nx (m.set i (some mv))) ∧ RelM K H mv v f ∧ (∀ b ∈ f, H0 b = none) ∧ (∀ b ∈ f, ∀ i, b ∉ fp i) := by
  cases r with
  | d x => exact ⟨.fz x, [], fun _ _ => rfl, .fz rr, (fun b hb => by cases hb), fun b hb => by cases hb⟩
  | s i => exact absurd rfl (hr i)
  | nl xs =>
    obtain ⟨a, ys, rfl, ha, g, n, nf⟩ := rr
    exact ⟨.ol xs, [a], fun _ _ => rfl, .ol ha g, (fun b hb => by simp only [List.mem_singleton] at hb; subst hb; exact n), fun b hb => by simp only [List.mem_singleton] at hb; subst hb; exact nf⟩
  | nd kvs =>
    obtain ⟨a, rfl, ha, n, nf⟩ := rr
    exact ⟨.od kvs, [a], fun _ _ => rfl, .od ha, (fun b hb => by simp only [List.mem_singleton] at hb; subst hb; exact n), fun b hb => by simp only [List.mem_singleton] at hb; subst hb; exact nf⟩
  | nr k c a b =>
    obtain ⟨f, h, q⟩ := rr
    exact ⟨.rs k c a b, f, fun _ _ => rfl, .rs h, fun b hb => (q b hb).1, fun b hb => (q b hb).2⟩
theorem RelM.some_ {K : PySem.W.Frag} {H : Hp} {mv : Mv} {v : V} {f : List Addr} (h : RelM K H mv v f) {b : Addr} (hb : b ∈ f) : H b ≠ none := fun e => by
  have := h.mut b hb; rw [e] at this; exact this
theorem ss_par {j : Nat} {y : Str} {a b : Expr} {f1 f2 : Ev Rv} {px py pt : Pos} {kt k2 : Nat} {pt2 : Pos} (hc : X.calm = true) (hN : X.N.Nodup) (hi : X.N[i]? = some x) (hj : X.N[j]? = some y) (hij : i ≠ j) (hx : X.env.scope.names.lookup x = some .local) (hy : X.env.scope.names.lookup y = some .local)
    (ha : PE X a (tE xr X.K W f1)) (hb : PE X b (tE xr X.K W f2)) (hri : i ∉ ro) (hrj : j ∉ ro) (hw : swappedStores [.Tuple [.Name x px, .Name y py] kt pt] (.Tuple [a, b] k2 pt2) X.env = pure (some [x, y]))
    (hs1 : starEach [a, b] X.env = (false, eval a X.env) :: starEach [b] X.env := by rfl) (hs2 : starEach [b] X.env = (false, eval b X.env) :: starEach [] X.env := by rfl)
    (hs : swapsWithSole [.Tuple [.Name x px, .Name y py] kt pt] (.Tuple [a, b] k2 pt2) pos.line X.env = pure false := by rfl) : PS X (.Assign [.Tuple [.Name x px, .Name y py] kt pt] (.Tuple [a, b] k2 pt2) pos) (tS xr X.K W ro σ0 (parS i j f1 f2)) := by
  refine ps_imp (ps_par hc hN hi hj hij hx hy (pa_cons (sd_own ha) (pa_cons (sd_own hb) pa_nil hs2) hs1) hw hs) fun D σ H q => ?_
  refine tS_bind0 (Ra := RelR X.K) q fun fp r1 m1 v H1 fp1 rs1 s1 k rr1 p => ?_
  unfold bnd at p
  refine tS_at (D := D) (ro := ro) (σ0 := σ0) (Ra := RelR X.K) rs1 k s1 p fun r2 m2 u H2 fp2 rs2 s2 rr2 p2 => ?_
  by_cases n1 : ∃ l, r1 = .s l
  · obtain ⟨l, rfl⟩ := n1; exact p2.elim
  by_cases n2 : ∃ l, r2 = .s l
  · obtain ⟨l, rfl⟩ := n2
    cases hq : putM i r1 m2 with
    | no => simp only [hq, Res.bind] at p2; exact p2.elim
    | ex x m' => cases r1 <;> cases hq
    | ok o m' => simp only [hq, Res.bind] at p2; exact p2.elim
  obtain ⟨mv1, g1, e1, rm0, a0, b0⟩ := put_at rs1 rr1 fun l e => n1 ⟨l, e⟩
  have hs1 : ∀ b ∈ g1, H1 b ≠ none := fun b hb => rm0.some_ hb
  have b1 : ∀ b ∈ g1, ∀ l, b ∉ fp2 l := fun b hb => s2.out (hs1 b hb) (b0 b hb)
  have rm1 : RelM X.K H2 mv1 v g1 := rm0.keep (rs1.keepOf s2) fun b hb => by
    cases e : H1 b with
    | none => exact absurd e (hs1 b hb)
    | some o => exact s2.keep b o e (b0 b hb)
  obtain ⟨mv2, g2, e2, rm2, a2, b2⟩ := put_at rs2 rr2 fun l e => n2 ⟨l, e⟩
  rw [e1 i m2] at p2
  simp only [Res.bind] at p2
  rw [e2 j] at p2
  have own1 := rs2.own (i := i) rm1 b1
  have own2 := own1.own (i := j) (mv := mv2) (v := u) (f := g2) rm2 (fun b hb l hl => by
    have hl : b ∈ (if l = i then (if i < m2.length then g1 else []) else fp2 l) := hl
    split at hl
    · split at hl
      · exact hs1 b hl (a2 b hb)
      · cases hl
    · exact b2 b hb l hl)
  refine ⟨v, u, rfl, p2 _ H2 _ own2 ?_ fun l hl => ?_⟩
  · exact own_step (own_step (s1.trans s2) (fun b hb => a0 b hb) _) (fun b hb => s1.trk b (a2 b hb)) _
  · rw [List.getElem?_set_ne (fun e => hrj (by rw [e]; exact hl)), List.getElem?_set_ne (fun e => hri (by rw [e]; exact hl))]
    exact k l hl
end
end PyE

/-! PyE: slices; list times int; a source of draws made; small helpers -/
namespace PyE
open PySem PySem.Spec PyProof.Rows
open L2

theorem blk_takes {X : Cx} {s : Shared} {H : Hp} {scope : Scope} {env : Env} {fp : List Addr} : Takes (X.blk s H scope env fp) wF := fun u s' ⟨_, _, _, _, _, _, _, _, _, _, _, _, _, _, _, _, w⟩ => w
section
variable {xr : XR} {K : PySem.W.Frag} {W : WX} {α β γ δ : Type} {σ : St} {H H1 : Hp} {fp fp1 : Fp} {m1 : Sm}
theorem post_bind {Ra : RelT α β} {Rc : RelT γ δ} {f : Ev α} {g : α → Ev γ} {Q : δ → Hp → Prop} {Q1 : β → Hp → Prop} (r1 : RelS K H1 m1 σ fp1) (s1 : Step fp fp1 H H1) (p : Post xr K W Rc σ H fp Q ((f m1).bind g))
    (h : ∀ a m2 v H2 fp2, RelS K H2 m2 σ fp2 → Step fp1 fp2 H1 H2 → Ra H1 H2 σ fp2 a v → Post xr K W Rc σ H fp Q (g a m2) → Q1 v H2) : tG xr K W Ra f σ H1 Q1 := by
  refine ⟨m1, fp1, r1, ?_⟩
  generalize f m1 = q at p
  cases q with
  | no => exact p
  | ex x m' => exact fun c d H' fp' rs st x => p c d H' fp' rs (s1.trans st) x
  | ok b m2 => exact fun u H2 fp2 r2 s2 rb => h b m2 u H2 fp2 r2 s2 rb p
end
/-! ### slices -/
def partE : Option (Ev Rv) → Ev (Option Int)
  | none => fun m => .ok none m
  | some f => bnd f fun r m => match r with
    | .d (.int i) => .ok (some i) m
    | _ => .no
def cutP (xs : List PyData) (lo hi : Option Int) : List PyData := (xs.drop (HT.sIx xs.length 0 lo)).take (HT.sIx xs.length xs.length hi - HT.sIx xs.length 0 lo)
def sliceD : PyData → Option Int → Option Int → Option Rv
  | .list xs, lo, hi => some (.nl (cutP xs lo hi))
  | .tuple xs, lo, hi => some (.d (.tuple (cutP xs lo hi)))
  | .str z, lo, hi => if z.length ≤ sizeLine then some (.d (.str (cutS z lo hi))) else none
  | _, _, _ => none
def sliceE (f : Ev Rv) (lo hi : Option (Ev Rv)) : Ev Rv := bnd f fun x => bnd (partE lo) fun l => bnd (partE hi) fun u m => match deref m x with
  | some a => fin1 (sliceD a l u) m
  | none => .no
abbrev tO (xr : XR) (K : PySem.W.Frag) (W : WX) (f : Ev (Option Int)) : TO := fun σ H Q => tG xr K W (fun _ _ _ _ x y => x = y) f σ H Q
section
variable {xr : XR} {W : WX} {X : Cx} {e b : Expr} {lo hi : Option Expr} {f fb : Ev Rv} {fl fh : Option (Ev Rv)} {p2 pos : Pos}
theorem po_imp {o : Option Expr} {t t' : TO} (h : PO X o t) (i : ∀ σ H Q, t' σ H Q → t σ H Q) : PO X o t' := ⟨fun pins s σ H Q I q => h.run pins s σ H Q I (i σ H Q q)⟩
theorem sp_none : PO X none (tO xr X.K W (partE none)) := po_imp po_none fun σ H Q ⟨m, fp, r, p⟩ => p none H fp r (.refl _ _) rfl
theorem sp_some (h : PE X b (tE xr X.K W fb)) : PO X (some b) (tO xr X.K W (partE (some fb))) := by
  refine po_imp (po_some h) fun σ H Q q => tG_bind (Rc := fun _ _ _ _ x y => x = y) q fun m fp a m1 v H1 fp1 r r1 s1 ra p => ?_
  cases a with
  | d d =>
    cases d with
    | int i =>
      have ra : Fz X.K H1 v (.int i) := ra
      exact ⟨i, fz_int ra, p (some i) H1 fp1 r1 s1 rfl⟩
    | _ => exact p.elim
  | _ => exact p.elim
theorem fz_cut {K : PySem.W.Frag} {H : Hp} {xs : List V} {ds : List PyData} (g : FzAll K H xs ds) (lo hi : Option Int) : FzAll K H (cutV xs lo hi) (cutP ds lo hi) := by
  unfold cutV cutP
  rw [g.length]
  exact (g.drop _).take _
theorem cutP_whole {ds : List PyData} {lo hi : Option Int} (h : HT.sIx ds.length 0 lo = 0 ∧ HT.sIx ds.length ds.length hi = ds.length) : cutP ds lo hi = ds := by
  unfold cutP; rw [h.1, h.2]; simp
abbrev rSl (K : PySem.W.Frag) : V → Option Int → Option Int → Hp → VK → Prop := fun x lo hi H Q => rSlL K x lo hi H Q ∨ (fun x lo hi H Q => rSlA K x lo hi H Q ∨ rSlS x lo hi H Q) x lo hi H Q
theorem sl_any : SlR X (rSl X.K) := sl_list.or (sl_tupA.or sl_str)
theorem slice_ok {K : PySem.W.Frag} {H : Hp} {v : V} {a : PyData} {l u : Option Int} {z : Rv} {Q : VK} (rb : Rb K H v a) (e : sliceD a l u = some z) (q : ∀ w H', Same H H' → NewR K H H' z w → Q w H') : rSl K v l u H Q := by
  have up : ∀ {p : Addr} {o : HO}, H p = none → Same H (upd H p o) := fun hp b o e => by rw [upd_ne (ne_of_none e hp)]; exact e
  unfold sliceD at e
  split at e
  · cases e
    cases rb with
    | fz h =>
      cases h with
      | lst h g => exact .inl ⟨_, _, rfl, h.seq, fun p hp => q _ _ (up hp) ⟨p, _, rfl, upd_same, (fz_cut g l u).keep (PyE.Same.toKeep (up hp)), hp⟩⟩
    | lst h g => exact .inl ⟨_, _, rfl, .of h, fun p hp => q _ _ (up hp) ⟨p, _, rfl, upd_same, (fz_cut g l u).keep (PyE.Same.toKeep (up hp)), hp⟩⟩
  · cases e
    cases rb with
    | fz h =>
      cases h with
      | tup h g =>
        have hl := g.length
        refine .inr (.inl ⟨_, _, rfl, h, fun hw => ?_, fun hw p hp => ?_⟩)
        · refine q _ _ (fun _ _ h => h) (.tup h ?_)
          rw [cutP_whole (by rw [← hl]; exact hw)]
          exact g
        · exact q _ _ (up hp) (.tup (.inl (.inl upd_same)) ((fz_cut g l u).keep (PyE.Same.toKeep (up hp))))
  · split at e
    · rename_i hz
      cases e
      cases rb with
      | fz h => cases h; exact .inr (.inr ⟨_, rfl, hz, q _ _ (fun _ _ h => h) (.str _)⟩)
    · cases e
  · cases e
/-- e[lo:hi] -/
theorem sd_slice (he : PE X e (tE xr X.K W f)) (hl : PO X lo (tO xr X.K W (partE fl))) (hh : PO X hi (tO xr X.K W (partE fh))) : PE X (.Subscript e (.Slice lo hi none p2) pos) (tE xr X.K W (sliceE f fl fh)) := by
  refine pe_imp (pe_slice sl_any he hl hh) fun σ H Q h => tG_bind (Rc := RelR X.K) h fun m fp a m1 v H1 fp1 r r1 s1 ra p => ?_
  refine post_bind (Rc := RelR X.K) r1 s1 p fun l m2 l' H2 fp2 r2 s2 e1 p => ?_
  cases (show l = l' from e1)
  refine post_bind (Rc := RelR X.K) r2 (s1.trans s2) p fun u m3 u' H3 fp3 r3 s3 e2 p => ?_
  cases (show u = u' from e2)
  have ra3 := (ra.step r1 s2).step r2 s3
  cases e3 : deref m3 a with
  | none => simp only [e3] at p; exact p.elim
  | some d =>
    simp only [e3] at p
    obtain ⟨z, hz, q⟩ := fin_ok ((s1.trans s2).trans s3) r3 p
    exact slice_ok (ra3.rb r3 e3) hz q
end
/-! ### times: ints, or a list by an int -/
section
variable {X : Cx} {K : PySem.W.Frag}
def rRepL (K : PySem.W.Frag) : R2 := fun x y H Q => ∃ l k xs, x = .ref l ∧ y = .int k ∧ RL K H l xs ∧ -(2 ^ 63) ≤ k ∧ k < 2 ^ 63 ∧ xs.length * k.toNat ≤ sizeLine ∧ ∀ p, H p = none → Q (.ref p) (upd H p (.lst (List.replicate k.toNat xs).flatten))
theorem opr_rep : OpR X (binaryOp .Mult) (rRepL X.K) := by
  intro pins s σ H x y v u Q I rx ry h
  obtain ⟨l, k, xs, rfl, rfl, hH, h1, h2, hz, q⟩ := h
  cases rx
  obtain ⟨t, rfl⟩ := ry
  obtain ⟨its, n, r, hl, e⟩ := RL.exact I hH
  have hx := r.length
  have hlen : its.toArray.size * k.toNat ≤ sizeLine := by rw [List.size_toArray, ← hx]; exact hz
  have hcap : ¬ its.toArray.size * k.toNat > (2 ^ 63 - 1) / 8 := by have : (sizeLine : Nat) ≤ (2 ^ 63 - 1) / 8 := by decide
                                                                    omega
  have hnew : List.foldl (fun x1 x2 => x1 ++ x2) #[] (List.replicate (if its.toArray.isEmpty = true then 0 else k.toNat) its.toArray) = (List.replicate k.toNat its).flatten.toArray := by
    have f0 : ∀ m : Nat, List.foldl (fun x1 x2 => x1 ++ x2) #[] (List.replicate m its.toArray) = (List.replicate m its).flatten.toArray := fun m => (foldl_rep its m []).trans (by simp)
    rw [f0]; cases its with
             | nil => simp
             | cons a r' => rw [if_neg (by simp)]
  have m1 := AutoListH.list___mul___list_int_3 l its.toArray n k t (by rw [fitsIndex_both h1 h2]; exact Bool.false_ne_true) hcap (by rw [notLongL hlen]; exact Bool.false_ne_true)
  have m2 := PySem.int___rmul___int_list k t l its.toArray n
  refine wpAny_binaryOp_repeat_ref (T := "list") (U := "int") (by decide) ⟨_, e, rfl⟩ (fun s' => typeIs_int s' k t) noFill_list_mul F.fills_int_mul F.slot_int_rmul repeat_list F.slot_int_index.lookup (call_meets F.slot_int_rmul (typeIs_int s k t) F.entry_int_rmul (F.args_int_rmul_2 _ _) m2 ⟨e, rfl, ⟨_, e, rfl⟩, call_meets F.slot_list_mul ⟨_, e, rfl⟩ F.entry_list_mul (F.args_list_mul_2 _ _) m1 ⟨e, ?_⟩⟩)
  rw [hnew]; exact ⟨.ref _, _, I.lnew (t' := s.toks) (r.rep k.toNat) (by rw [PyProof.Rows.lm_len_rep_flat, Nat.mul_comm]; exact hz), rfl, q _ I.fresh⟩
theorem opr_mul : OpR X (binaryOp .Mult) (fun x y H Q => rI CMul (fun i j => .int (i * j)) x y H Q ∨ rRepL X.K x y H Q) := op_mul.or opr_rep
theorem opd_mulD : Op2 K (fun x y H Q => rI CMul (fun i j => .int (i * j)) x y H Q ∨ rRepL K x y H Q) mulD := by
  intro H x y a b z Q rx ry e q
  have up : ∀ {p : Addr} {o : HO}, H p = none → Same H (upd H p o) := fun hp b o e => by rw [upd_ne (ne_of_none e hp)]; exact e
  unfold mulD at e
  split at e
  · split at e
    · rename_i h
      cases e; cases rb_int rx; cases rb_int ry
      exact .inl ⟨_, _, rfl, rfl, cmul_of h, q _ _ (fun _ _ h => h) (.int _)⟩
    · cases e
  · split at e
    · rename_i h
      cases e; cases rb_int ry
      obtain ⟨l, ys, rfl, hl, g⟩ : ∃ l ys, x = .ref l ∧ RL K H l ys ∧ FzAll K H ys _ := by
        cases rx with
        | fz h => cases h with
          | lst h g => exact ⟨_, _, rfl, .inr h, g⟩
        | lst h g => exact ⟨_, _, rfl, .inl h, g⟩
      exact .inr ⟨_, _, ys, rfl, rfl, hl, by omega, by omega, by rw [g.length]; exact h.2.2, fun p hp => q _ _ (up hp) ⟨p, _, rfl, upd_same, (fz_rep g _).keep (PyE.Same.toKeep (up hp)), hp⟩⟩
    · cases e
  · cases e
end
/-! ### a source of draws of the first kind is made -/
def potK (rs : List Rv) : Ev Rv := fun m => match rs with
  | [.nl xs, .d (.int a), .d (.int b)] => match intsOf xs with
    | some ns => .ok (.nr 0 ns a b) m
    | none => .no
  | _ => .no
def potE (fs : List (Ev Rv)) : Ev Rv := bnd (argsE fs) potK
section
variable {xr : XR} {W : WX} {X : Cx} {es : List Expr} {fs : List (Ev Rv)} {pos : Pos}
theorem potE_inv {m1 : Sm} {rs : List Rv} {P : Res Rv → Prop} (hn : P .no → False) (p : P (potK rs m1)) : ∃ ns a b, rs = [.nl (ns.map PyData.int), .d (.int a), .d (.int b)] ∧ P (.ok (.nr 0 ns a b) m1) := by
  unfold potK at p
  split at p
  · rename_i xs a b
    cases e : intsOf xs with
    | none => rw [e] at p; exact (hn p).elim
    | some ns => rw [e] at p; exact ⟨ns, a, b, by rw [intsOf_some e], p⟩
  · exact (hn p).elim
theorem sd_pot0 (h : PA X es (tA xr X.K W (argsE fs))) : PE X (.List es pos) (tE xr X.K W (potE fs)) := by
  refine pe_imp (pe_lst h) fun σ H Q q => tG_bind (Rc := RelR X.K) q fun m fp rs m1 vs H1 fp1 r r1 s1 ra p => ?_
  obtain ⟨ns, a, b, rfl, pp⟩ := potE_inv (P := Post xr X.K W (RelR X.K) σ H fp Q) (fun z => z) p
  match vs, ra with
  | [v, w, u], ⟨⟨c, ys, e1, hc, g, hn, hf⟩, z1, z2, _⟩ =>
    have z1 : Fz X.K H1 w (.int a) := z1
    have z2 : Fz X.K H1 u (.int b) := z2
    subst e1
    cases fz_int z1
    cases fz_int z2
    cases fz_vints g
    refine ⟨Nat.le_trans (show 3 ≤ 100 by decide) (by decide), fun o ho => ?_⟩
    have sm : Same H1 (upd H1 o (.lst [.ref c, .int a, .int b])) := fun b o e => by rw [upd_ne (ne_of_none e ho)]; exact e
    have co : c ≠ o := ne_of_none hc ho
    refine pp _ _ fp1 (r1.same sm) (s1.trans (.same sm)) ⟨[o, c], .k0 co.symm upd_same (by rw [upd_ne co]; exact hc), fun x hx => ?_⟩
    simp only [List.mem_cons, List.not_mem_nil, or_false] at hx
    rcases hx with rfl | rfl
    · exact ⟨s1.trk _ ho, fun i hi => r1.some_ hi ho⟩
    · exact ⟨hn, hf⟩
end
end PyE

/-! PyE: small helpers that the printed texts name -/
namespace PyE
open PySem PySem.Spec PyProof.Rows
open L2

theorem _root_.L2.Room.units65 {k : Nat} {A : Around} (r : Room k A) : A.units + 65 < cLine := by have := r.un; omega
/-- how a def's keywords bind, by its own binding -/
theorem kb_mk {K : PySem.W.Frag} {x qual : Str} {st : Stmt} {f : Addr} {fd : FuncData} {ps ks : List Str} {n : Nat} {perm : List Nat} (F : Fun K x qual st f fd)
    (h : ∀ (kV doc pm : Value) (an : Option Addr) (cdv ct : Value) (us ws : List Value), us.length = n → ws.length = ks.length → bindArgs (PySem.W.fnOf x qual (defArgs st) (defBody st) (defScope st) .none kV doc pm an cdv ct) ⟨us, ks.zip ws⟩ = pure (ps.zip (permL n ks.length perm .none us ws))) : KBp K fd ps ks n perm := by
  obtain ⟨oc, od, kV, doc, pm, an, cdv, ct, osl, rfl, lk, hcd⟩ := F.ex
  exact fun s us ws _ h1 h2 => .of_eq (h kV doc pm an cdv ct us ws h1 h2)
def isD (neg : Bool) (a b : PyData) : Option Rv := match b with
  | .none => isND neg a
  | _ => none
end PyE

/-! PyP: the plain side: data that are shown and compared without trouble -/
namespace PyE
open PySem PySem.Spec PyProof.Rows
open L2

mutual
/-- how many nodes, letters -/
def cnt : PyData → Nat
  | .none => 1
  | .bool _ => 1
  | .int _ => 1
  | .str x => 1 + x.cps.size
  | .list xs => 1 + cntAll xs
  | .tuple xs => 1 + cntAll xs
  | .dict _ => 1
def cntAll : List PyData → Nat
  | [] => 0
  | x :: xs => cnt x + cntAll xs
end
mutual
/-- no dict; ints of at most 100 digits; texts of code points -/
def tame : PyData → Bool
  | .none => true
  | .bool _ => true
  | .int i => decide (i.natAbs < 10 ^ 100)
  | .str x => PyData.strOk x
  | .list xs => tameAll xs
  | .tuple xs => tameAll xs
  | .dict _ => false
def tameAll : List PyData → Bool
  | [] => true
  | x :: xs => tame x && tameAll xs
end
mutual
theorem tame_lay : ∀ {d : PyData}, tame d = true → d.canLay0 = true
  | .none, _ => rfl
  | .bool _, _ => rfl
  | .int _, _ => rfl
  | .str x, h => by simpa only [tame, PyData.canLay0] using h
  | .list xs, h => by simp only [tame] at h; simpa only [PyData.canLay0] using tameAll_lay h
  | .tuple xs, h => by simp only [tame] at h; simpa only [PyData.canLay0] using tameAll_lay h
  | .dict _, h => by simp [tame] at h
theorem tameAll_lay : ∀ {ds : List PyData}, tameAll ds = true → PyData.canLayAll0 ds = true
  | [], _ => by simp only [PyData.canLayAll0]
  | x :: xs, h => by
    simp only [tameAll, Bool.and_eq_true] at h
    simp only [PyData.canLayAll0, Bool.and_eq_true]
    exact ⟨tame_lay h.1, tameAll_lay h.2⟩
end
theorem log2_lt {n : Nat} (h : n < 10 ^ 100) : n.log2 < 1920 := by
  by_cases h0 : n = 0
  · subst h0; decide
  · exact (Nat.log2_lt h0).mpr (Nat.lt_of_lt_of_le h (by decide +kernel))
mutual
theorem tame_showable : ∀ {d : PyData}, tame d = true → d.showable = true
  | .none, _ => rfl
  | .bool _, _ => rfl
  | .int i, h => by simp only [tame, decide_eq_true_eq] at h; simp only [PyData.showable, decide_eq_true_eq]; exact log2_lt h
  | .str x, h => rfl
  | .list xs, h => by simp only [tame] at h; simpa only [PyData.showable] using tameAll_showable h
  | .tuple xs, h => by simp only [tame] at h; simpa only [PyData.showable] using tameAll_showable h
  | .dict _, h => by simp [tame] at h
theorem tameAll_showable : ∀ {ds : List PyData}, tameAll ds = true → PyData.showableAll ds = true
  | [], _ => by simp only [PyData.showableAll]
  | x :: xs, h => by
    simp only [tameAll, Bool.and_eq_true] at h
    simp only [PyData.showableAll, Bool.and_eq_true]
    exact ⟨tame_showable h.1, tameAll_showable h.2⟩
end
mutual
theorem tame_len : ∀ {d : PyData}, tame d = true → d.shown.length + 2 ≤ 112 * cnt d
  | .none, _ => by decide
  | .bool b, _ => by cases b <;> decide
  | .int i, h => by
    simp only [tame, decide_eq_true_eq] at h
    have e := int_text_length_le10 (k := 100) (by decide) h
    have e2 : (PyData.shown (.int i)).length ≤ 101 := by
      show (Str.ofString (toString i)).length ≤ 101
      rw [PySem.ofString_length]; exact e
    simp only [cnt]
    omega
  | .str x, h => by
    simp only [tame] at h
    have hx : ∀ c ∈ x.cps.toList, c < 16 ^ 8 := fun c hc => by
      have := (Array.all_eq_true_iff_forall_mem.mp h) c (Array.mem_toList_iff.mp hc)
      have : c < 0x110000 := by simpa using this
      omega
    have e := PySem.StrLaws.reprText_len x hx
    have e2 : x.length = x.cps.size := rfl
    simp only [PyData.shown, cnt]
    omega
  | .list xs, h => by
    simp only [tame] at h
    have h1 := tameAll_len h
    have h2 := listText_len_le (PyData.shownAll xs)
    have h3 := PyData.shownAll_length xs
    simp only [PyData.shown, cnt]
    omega
  | .tuple xs, h => by
    simp only [tame] at h
    have h1 := tameAll_len h
    have h2 := tupleText_len_le (PyData.shownAll xs)
    have h3 := PyData.shownAll_length xs
    simp only [PyData.shown, cnt]
    omega
  | .dict _, h => by simp [tame] at h
theorem tameAll_len : ∀ {ds : List PyData}, tameAll ds = true → ((PyData.shownAll ds).map (·.length)).sum + 2 * ds.length ≤ 112 * cntAll ds
  | [], _ => by simp [PyData.shownAll, cntAll]
  | x :: xs, h => by
    simp only [tameAll, Bool.and_eq_true] at h
    have h1 := tame_len h.1
    have h2 := tameAll_len h.2
    have h3 : 1 ≤ cnt x := by cases x <;> simp [cnt] <;> omega
    simp only [PyData.shownAll, cntAll, List.map_cons, List.sum_cons, List.length_cons]
    omega
end
end PyE

/-! PyP: the evaluator's equations, one per word, each with a named rest: simp evaluates from the inside -/
namespace PyE
open PySem PySem.Spec PyProof.Rows
open L2
section
variable {α β : Type} {m m' : Sm} {f g h fa fb : Ev Rv} {fs gs : List (Ev Rv)}
theorem eb_ok {a : α} {k : α → Ev β} : Res.bind (.ok a m) k = k a m := rfl
theorem eb_no {k : α → Ev β} : Res.bind .no k = .no := rfl
theorem eb_ex {e : Ex} {k : α → Ev β} : Res.bind (.ex e m) k = .ex e m := rfl
theorem eb_bnd {f : Ev α} {k : α → Ev β} : bnd f k m = Res.bind (f m) k := rfl
/-! ### values -/
def frS (i : Nat) : Option (Option Mv) → Ev PyData := fun o m => match o with
  | some (some (.fz d)) => .ok d m
  | some (some (.ol xs)) => .ok (.list xs) (m.set i (some (.fz (.list xs))))
  | _ => .no
theorem ev_frz : frzE f m = Res.bind (f m) frz := rfl
theorem ev_frz_d {d : PyData} : frz (.d d) m = .ok d m := rfl
theorem ev_frz_nl {xs : List PyData} : frz (.nl xs) m = .ok (.list xs) m := rfl
theorem ev_frz_s {i : Nat} : frz (.s i) m = frS i m[i]? m := rfl
theorem ev_frS_fz {i : Nat} {d : PyData} : frS i (some (some (.fz d))) m = .ok d m := rfl
theorem ev_frS_ol {i : Nat} {xs : List PyData} : frS i (some (some (.ol xs))) m = .ok (.list xs) (m.set i (some (.fz (.list xs)))) := rfl
def dK : PyData → Ev Rv := fun x m => .ok (.d x) m
theorem ev_dE {f : Ev PyData} : dE f m = Res.bind (f m) dK := rfl
theorem ev_dK {x : PyData} : dK x m = .ok (.d x) m := rfl
def slK (i : Nat) : Option (Option Mv) → Ev Rv := fun o m => match o with
  | some (some (.fz d)) => .ok (.d d) m
  | some (some _) => .ok (.s i) m
  | _ => .no
theorem ev_slot {i : Nat} : slotE i m = slK i m[i]? m := rfl
theorem ev_slK_fz {i : Nat} {d : PyData} : slK i (some (some (.fz d))) m = .ok (.d d) m := rfl
theorem ev_slK_ol {i : Nat} {xs : List PyData} : slK i (some (some (.ol xs))) m = .ok (.s i) m := rfl
theorem ev_slK_od {i : Nat} {xs : Kvs} : slK i (some (some (.od xs))) m = .ok (.s i) m := rfl
theorem ev_slK_rs {i k : Nat} {c : List Int} {a b : Int} : slK i (some (some (.rs k c a b))) m = .ok (.s i) m := rfl
theorem ev_data {d : PyData} : dataE d m = .ok (.d d) m := rfl
def drS : Option (Option Mv) → Option PyData
  | some (some (.fz d)) => some d
  | some (some (.ol xs)) => some (.list xs)
  | some (some (.od kvs)) => some (.dict kvs)
  | _ => none
theorem ev_de_d {d : PyData} : deref m (.d d) = some d := rfl
theorem ev_de_nl {xs : List PyData} : deref m (.nl xs) = some (.list xs) := rfl
theorem ev_de_nd {kvs : Kvs} : deref m (.nd kvs) = some (.dict kvs) := rfl
theorem ev_de_s {i : Nat} : deref m (.s i) = drS m[i]? := rfl
theorem ev_drS_fz {d : PyData} : drS (some (some (.fz d))) = some d := rfl
theorem ev_drS_ol {xs : List PyData} : drS (some (some (.ol xs))) = some (.list xs) := rfl
theorem ev_drS_od {xs : Kvs} : drS (some (some (.od xs))) = some (.dict xs) := rfl
theorem ev_fin {r : Rv} : fin1 (some r) m = .ok r m := rfl
/-! ### operators -/
def o2c (g : PyData → PyData → Option Rv) : Option PyData → Option PyData → Ev Rv := fun a b m => match a, b with
  | some a, some b => fin1 (g a b) m
  | _, _ => .no
def o2b (g : PyData → PyData → Option Rv) (x : Rv) : Rv → Ev Rv := fun y m => o2c g (deref m x) (deref m y) m
def o2a (g : PyData → PyData → Option Rv) (fb : Ev Rv) : Rv → Ev Rv := fun x m => (fb m).bind (o2b g x)
variable {g2 : PyData → PyData → Option Rv} {g1 : PyData → Option Rv} {gN : List PyData → Option Rv}
theorem ev_op2 : op2E g2 fa fb m = Res.bind (fa m) (o2a g2 fb) := rfl
theorem ev_o2a {x : Rv} : o2a g2 fb x m = Res.bind (fb m) (o2b g2 x) := rfl
theorem ev_o2b {x y : Rv} : o2b g2 x y m = o2c g2 (deref m x) (deref m y) m := rfl
theorem ev_o2c {a b : PyData} : o2c g2 (some a) (some b) m = fin1 (g2 a b) m := rfl
def o1b (g : PyData → Option Rv) : Option PyData → Ev Rv := fun a m => match a with
  | some a => fin1 (g a) m
  | _ => .no
def o1a (g : PyData → Option Rv) : Rv → Ev Rv := fun x m => o1b g (deref m x) m
theorem ev_op1 : op1E g1 fa m = Res.bind (fa m) (o1a g1) := rfl
theorem ev_o1a {x : Rv} : o1a g1 x m = o1b g1 (deref m x) m := rfl
theorem ev_o1b {a : PyData} : o1b g1 (some a) m = fin1 (g1 a) m := rfl
/-! ### tests -/
def te3 : Option Bool → Ev Bool := fun b m => match b with
  | some b => .ok b m
  | none => .no
def te2 : Option PyData → Ev Bool := fun d m => match d with
  | some d => te3 (truth d) m
  | none => .no
def teK : Rv → Ev Bool := fun x m => te2 (deref m x) m
theorem ev_test : testE f m = Res.bind (f m) teK := rfl
theorem ev_teK {x : Rv} : teK x m = te2 (deref m x) m := rfl
theorem ev_te2 {d : PyData} : te2 (some d) m = te3 (truth d) m := rfl
theorem ev_te3 {b : Bool} : te3 (some b) m = .ok b m := rfl
def boK : Rv → Ev Bool := fun x m => match x with
  | .d (.bool b) => .ok b m
  | _ => .no
theorem ev_bool : boolE f m = Res.bind (f m) boK := rfl
theorem ev_boK {b : Bool} : boK (.d (.bool b)) m = .ok b m := rfl
variable {c d : Ev Bool} {b : Bool}
def anK (g : Ev Bool) : Bool → Ev Bool := fun b => if b = true then g else fun m => .ok false m
def orK (g : Ev Bool) : Bool → Ev Bool := fun b => if b = true then fun m => .ok true m else g
def noK : Bool → Ev Bool := fun b m => .ok (!b) m
theorem ev_and : andT c d m = Res.bind (c m) (anK d) := rfl
theorem ev_anK_t : anK d true m = d m := rfl
theorem ev_anK_f : anK d false m = .ok false m := rfl
theorem ev_or : orT c d m = Res.bind (c m) (orK d) := rfl
theorem ev_orK_t : orK d true m = .ok true m := rfl
theorem ev_orK_f : orK d false m = d m := rfl
theorem ev_not : notT c m = Res.bind (c m) noK := rfl
theorem ev_noK : noK b m = .ok (!b) m := rfl
def aeK (g : Ev Rv) : Rv → Ev Rv := fun x => match x with
  | .d (.bool b) => if b = true then g else fun m => .ok (.d (.bool false)) m
  | _ => fun _ => .no
def oeK (g : Ev Rv) : Rv → Ev Rv := fun x => match x with
  | .d (.bool b) => if b = true then fun m => .ok (.d (.bool true)) m else g
  | _ => fun _ => .no
def neK : Rv → Ev Rv := fun x m => match x with
  | .d (.bool b) => .ok (.d (.bool !b)) m
  | _ => .no
theorem ev_andE : andE f g m = Res.bind (f m) (aeK g) := rfl
theorem ev_aeK_t : aeK g (.d (.bool true)) m = g m := rfl
theorem ev_aeK_f : aeK g (.d (.bool false)) m = .ok (.d (.bool false)) m := rfl
theorem ev_orE : orE f g m = Res.bind (f m) (oeK g) := rfl
theorem ev_oeK_t : oeK g (.d (.bool true)) m = .ok (.d (.bool true)) m := rfl
theorem ev_oeK_f : oeK g (.d (.bool false)) m = g m := rfl
theorem ev_notE : notE f m = Res.bind (f m) neK := rfl
theorem ev_neK : neK (.d (.bool b)) m = .ok (.d (.bool !b)) m := rfl
def ieK (f g : Ev Rv) : Bool → Ev Rv := fun b => if b = true then f else g
theorem ev_ifE : ifE c f g m = Res.bind (c m) (ieK f g) := rfl
theorem ev_ieK_t : ieK f g true m = f m := rfl
theorem ev_ieK_f : ieK f g false m = g m := rfl
/-! ### several -/
def aeD (r : Rv) : List Rv → Ev (List Rv) := fun rs m => .ok (r :: rs) m
def aeC (fs : List (Ev Rv)) : Rv → Ev (List Rv) := fun r m => (argsE fs m).bind (aeD r)
theorem ev_args0 : argsE [] m = .ok [] m := rfl
theorem ev_args : argsE (f :: fs) m = Res.bind (f m) (aeC fs) := rfl
theorem ev_aeC {r : Rv} : aeC fs r m = Res.bind (argsE fs m) (aeD r) := rfl
theorem ev_aeD {r : Rv} {rs : List Rv} : aeD r rs m = .ok (r :: rs) m := rfl
def adD (r : PyData) : List PyData → Ev (List PyData) := fun rs m => .ok (r :: rs) m
def adC (fs : List (Ev Rv)) : PyData → Ev (List PyData) := fun r m => (argsD fs m).bind (adD r)
theorem ev_argd0 : argsD [] m = .ok [] m := rfl
theorem ev_argd : argsD (f :: fs) m = Res.bind (frzE f m) (adC fs) := rfl
theorem ev_adC {r : PyData} : adC fs r m = Res.bind (argsD fs m) (adD r) := rfl
theorem ev_adD {r : PyData} {rs : List PyData} : adD r rs m = .ok (r :: rs) m := rfl
def tuK : List PyData → Ev Rv := fun ds m => .ok (.d (.tuple ds)) m
def liK : List PyData → Ev Rv := fun ds m => .ok (.nl ds) m
theorem ev_tup : tupE fs m = Res.bind (argsD fs m) tuK := rfl
theorem ev_tuK {ds : List PyData} : tuK ds m = .ok (.d (.tuple ds)) m := rfl
theorem ev_lst : lstE fs m = Res.bind (argsD fs m) liK := rfl
theorem ev_liK {ds : List PyData} : liK ds m = .ok (.nl ds) m := rfl
def onO (g : List PyData → Option Rv) : Option (List PyData) → Ev Rv := fun o m => match o with
  | some ds => fin1 (g ds) m
  | none => .no
def onK (g : List PyData → Option Rv) : List Rv → Ev Rv := fun rs m => onO g (derefs m rs) m
def consO : Option PyData → Option (List PyData) → Option (List PyData)
  | some d, some ds => some (d :: ds)
  | _, _ => none
theorem ev_opN : opNE gN fs m = Res.bind (argsE fs m) (onK gN) := rfl
theorem ev_onK {rs : List Rv} : onK gN rs m = onO gN (derefs m rs) m := rfl
theorem ev_onO {ds : List PyData} : onO gN (some ds) m = fin1 (gN ds) m := rfl
theorem ev_des0 : derefs m [] = some [] := rfl
theorem ev_des {r : Rv} {rs : List Rv} : derefs m (r :: rs) = consO (deref m r) (derefs m rs) := rfl
theorem ev_consO {d : PyData} {ds : List PyData} : consO (some d) (some ds) = some (d :: ds) := rfl
/-! ### slices -/
def slC (a : Rv) (l : Option Int) : Option Int → Ev Rv := fun u m => match deref m a with
  | some a => fin1 (sliceD a l u) m
  | none => .no
def slB (a : Rv) (hi : Option (Ev Rv)) : Option Int → Ev Rv := fun l m => (partE hi m).bind (slC a l)
def slA (lo hi : Option (Ev Rv)) : Rv → Ev Rv := fun x m => (partE lo m).bind (slB x hi)
def paK : Rv → Ev (Option Int) := fun r m => match r with
  | .d (.int i) => .ok (some i) m
  | _ => .no
variable {lo hi : Option (Ev Rv)}
theorem ev_slice : sliceE f lo hi m = Res.bind (f m) (slA lo hi) := rfl
theorem ev_slA {x : Rv} : slA lo hi x m = Res.bind (partE lo m) (slB x hi) := rfl
theorem ev_slB {x : Rv} {l : Option Int} : slB x hi l m = Res.bind (partE hi m) (slC x l) := rfl
theorem ev_slC_d {x : PyData} {l u : Option Int} : slC (.d x) l u m = fin1 (sliceD x l u) m := rfl
theorem ev_slC_nl {x : List PyData} {l u : Option Int} : slC (.nl x) l u m = fin1 (sliceD (.list x) l u) m := rfl
def slD (l u : Option Int) : Option PyData → Ev Rv := fun o m => match o with
  | some a => fin1 (sliceD a l u) m
  | none => .no
theorem ev_slC_s {i : Nat} {l u : Option Int} : slC (.s i) l u m = slD l u (drS m[i]?) m := rfl
theorem ev_slD {x : PyData} {l u : Option Int} : slD l u (some x) m = fin1 (sliceD x l u) m := rfl
theorem ev_part0 : partE none m = .ok none m := rfl
theorem ev_part : partE (some f) m = Res.bind (f m) paK := rfl
theorem ev_paK {i : Int} : paK (.d (.int i)) m = .ok (some i) m := rfl
/-! ### sources of walks -/
def isK : PyData → Ev (List PyData) := fun d m => match d with
  | .list xs => .ok xs m
  | .tuple xs => .ok xs m
  | _ => .no
theorem ev_seq : itSeq f m = Res.bind (frzE f m) isK := rfl
theorem ev_isK_l {xs : List PyData} : isK (.list xs) m = .ok xs m := rfl
theorem ev_isK_t {xs : List PyData} : isK (.tuple xs) m = .ok xs m := rfl
def irK (a b : Int) : Ev (List PyData) := fun m => if okRg a b = true then .ok (rangeD a b) m else .no
def ir1 : List Rv → Ev (List PyData) := fun rs m => match rs with
  | [.d (.int n)] => if okRg 0 n = true then .ok (rangeD 0 n) m else .no
  | _ => .no
def ir2 : List Rv → Ev (List PyData) := fun rs m => match rs with
  | [.d (.int a), .d (.int b)] => if okRg a b = true then .ok (rangeD a b) m else .no
  | _ => .no
theorem ev_rg1 : itRange1 fs m = Res.bind (argsE fs m) ir1 := rfl
theorem ev_ir1 {n : Int} : ir1 [.d (.int n)] m = irK 0 n m := rfl
theorem ev_rg2 : itRange2 fs m = Res.bind (argsE fs m) ir2 := rfl
theorem ev_ir2 {a b : Int} : ir2 [.d (.int a), .d (.int b)] m = irK a b m := rfl
theorem ev_irK {a b : Int} (h : okRg a b = true) : irK a b m = .ok (rangeD a b) m := if_pos h
def enK : List PyData → Ev (List PyData) := fun ds m => .ok (enumD ds) m
theorem ev_enum : itEnum f m = Res.bind (itSeq f m) enK := rfl
theorem ev_enK {ds : List PyData} : enK ds m = .ok (enumD ds) m := rfl
end
end PyE

/-! PyP: equations of zip, comprehensions, statements, calls -/
namespace PyE
open PySem PySem.Spec PyProof.Rows
open L2
section
variable {α β : Type} {m m' : Sm} {f fa fb : Ev Rv} {fs gs : List (Ev Rv)} {g h : Sf}
def ziO : Option (List PyData) → Option (List PyData) → Ev (List PyData) := fun a b m => match a, b with
  | some xs, some ys => .ok (zipD xs ys) m
  | _, _ => .no
def ziK : List PyData → Ev (List PyData) := fun ds m => match ds with
  | [x, y] => match seqOf x, seqOf y with
    | some xs, some ys => .ok (zipD xs ys) m
    | _, _ => .no
  | _ => .no
theorem ev_zip : itZip fs m = Res.bind (argsD fs m) ziK := rfl
theorem ev_ziK {x y : PyData} : ziK [x, y] m = ziO (seqOf x) (seqOf y) m := rfl
theorem ev_ziO {xs ys : List PyData} : ziO (some xs) (some ys) m = .ok (zipD xs ys) m := rfl
theorem ev_sq_l {xs : List PyData} : seqOf (.list xs) = some xs := rfl
theorem ev_sq_t {xs : List PyData} : seqOf (.tuple xs) = some xs := rfl
def zi3K : List PyData → Ev (List PyData) := fun ds m => match ds with
  | [x, y, z] => match seqOf x, seqOf y, seqOf z with
    | some xs, some ys, some zs => .ok (zip3D xs ys zs) m
    | _, _, _ => .no
  | _ => .no
theorem ev_zip3 : itZip3 fs m = Res.bind (argsD fs m) zi3K := rfl
/-! ### comprehensions -/
variable {own : List Nat} {it : Ev (List PyData)} {bt : Tg} {tst : Ev Bool} {e : Ev PyData}
def coF (own : List Nat) (m1 : Sm) : Res (List PyData) → Res Rv
  | .ok acc m2 => .ok (.nl acc) (restM m1 m2 own)
  | _ => .no
def coK (own : List Nat) (bt : Tg) (tst : Ev Bool) (elt : Ev Rv) : List PyData → Ev Rv := fun ds m => coF own m (compL own bt tst (frzE elt) ds [] (wipeM m own))
theorem ev_comp : compE own it bt tst f m = Res.bind (it m) (coK own bt tst f) := by
  unfold compE bnd
  cases it m <;> rfl
theorem ev_coK {ds : List PyData} : coK own bt tst f ds m = coF own m (compL own bt tst (frzE f) ds [] (wipeM m own)) := rfl
theorem ev_coF {acc : List PyData} {m2 : Sm} : coF own m (.ok acc m2) = .ok (.nl acc) (restM m m2 own) := rfl
theorem ev_wipe0 : wipeM m [] = m := rfl
theorem ev_wipe {v : Nat} {vs : List Nat} : wipeM m (v :: vs) = (wipeM m vs).set v none := rfl
theorem ev_rest0 : restM m m' [] = m' := rfl
theorem ev_rest {v : Nat} {vs : List Nat} : restM m m' (v :: vs) = (restM m m' vs).set v (m.getD v none) := rfl
theorem ev_yes : yesT m = .ok true m := rfl
/-- one turn of a comprehension -/
def stepE (own : List Nat) : PyData → Ev (Option PyData) := fun y m => .ok (some y) (wipeM m own)
def stepT (own : List Nat) (e : Ev PyData) : Bool → Ev (Option PyData) := fun b m => if b = true then (e m).bind (stepE own) else .ok none (wipeM m own)
def stepO (own : List Nat) (tst : Ev Bool) (e : Ev PyData) : Option Sm → Res (Option PyData)
  | none => .no
  | some m1 => (tst m1).bind (stepT own e)
def compStep (own : List Nat) (bt : Tg) (tst : Ev Bool) (e : Ev PyData) (d : PyData) (m : Sm) : Res (Option PyData) := stepO own tst e (bt d m)
variable {d y : PyData}
theorem ev_step : compStep own bt tst e d m = stepO own tst e (bt d m) := rfl
theorem ev_stepO : stepO own tst e (some m) = Res.bind (tst m) (stepT own e) := rfl
theorem ev_stepT_t : stepT own e true m = Res.bind (e m) (stepE own) := rfl
theorem ev_stepT_f : stepT own e false m = .ok none (wipeM m own) := rfl
theorem ev_stepE : stepE own y m = .ok (some y) (wipeM m own) := rfl
def adds (acc : List PyData) : Option PyData → List PyData
  | some y => acc ++ [y]
  | none => acc
theorem compL_step {ds acc : List PyData} {o : Option PyData} {m1 : Sm} (h : compStep own bt tst e d m = .ok o m1) : compL own bt tst e (d :: ds) acc m = compL own bt tst e ds (adds acc o) m1 := by
  unfold compStep stepO at h
  conv => lhs; unfold compL
  cases eb : bt d m with
  | none => rw [eb] at h; cases h
  | some m2 =>
    rw [eb] at h
    simp only at h ⊢
    cases et : tst m2 with
    | no => rw [et] at h; cases h
    | ex x m' => rw [et] at h; cases h
    | ok b m3 =>
      rw [et] at h
      simp only [Res.bind] at h ⊢
      cases b with
      | false =>
        have h : Res.ok none (wipeM m3 own) = Res.ok o m1 := h
        cases h; rfl
      | true =>
        have h : Res.bind (e m3) (stepE own) = .ok o m1 := h
        simp only [if_true]
        cases ee : e m3 with
        | no => rw [ee] at h; cases h
        | ex x m' => rw [ee] at h; cases h
        | ok y m4 => rw [ee] at h; cases h; rfl
/-- a comprehension that leaves the slots as they were -/
theorem compL_ok (r : PyData → Option PyData) : ∀ {ds acc : List PyData}, (∀ d ∈ ds, compStep own bt tst e d m = .ok (r d) m) → compL own bt tst e ds acc m = .ok (acc ++ ds.filterMap r) m
  | [], acc, _ => by rw [List.filterMap_nil, List.append_nil]; rfl
  | d :: ds, acc, h => by
    rw [compL_step (h d (List.mem_cons_self ..)), compL_ok r fun x hx => h x (List.mem_cons_of_mem _ hx)]
    cases er : r d with
    | none => rw [List.filterMap_cons_none er]; rfl
    | some y => rw [List.filterMap_cons_some er]; simp [adds]
theorem compL_map (r : PyData → PyData) {ds : List PyData} (h : ∀ d ∈ ds, compStep own bt tst e d m = .ok (some (r d)) m) : compL own bt tst e ds [] m = .ok (ds.map r) m := by
  rw [compL_ok (fun d => some (r d)) h, List.nil_append]
  congr 1
  induction ds with
  | nil => rfl
  | cons d ds ih => rw [List.filterMap_cons_some (f := fun d => some (r d)) (b := r d) rfl, List.map_cons, ih fun x hx => h x (List.mem_cons_of_mem _ hx)]
/-- .. that changes them, by what holds at each turn -/
theorem compL_inv (P : Nat → Sm → Prop) (R : Nat → PyData → Option PyData → Prop) : ∀ {ds acc : List PyData} {i : Nat} {m : Sm}, (∀ j d m, ds[j]? = some d → P (i + j) m → ∃ o m', compStep own bt tst e d m = .ok o m' ∧ P (i + j + 1) m' ∧ R (i + j) d o) → P i m →
    ∃ (os : List (Option PyData)) (m' : Sm), compL own bt tst e ds acc m = .ok (acc ++ os.filterMap id) m' ∧ P (i + ds.length) m' ∧ os.length = ds.length ∧ ∀ j d, ds[j]? = some d → ∃ o, os[j]? = some o ∧ R (i + j) d o
  | [], acc, i, m, h, p => ⟨[], m, by rw [List.filterMap_nil, List.append_nil]; rfl, p, rfl, fun j d q => by simp at q⟩
  | d :: ds, acc, i, m, h, p => by
    obtain ⟨o, m1, e1, p1, r1⟩ := h 0 d m rfl p
    obtain ⟨os, m2, e2, p2, l2, r2⟩ := compL_inv P R (ds := ds) (acc := adds acc o) (i := i + 1) (m := m1) (fun j x m' q p' => by
      have z := h (j + 1) x m' (by simpa using q) (by rw [show i + (j + 1) = i + 1 + j by omega]; exact p')
      rw [show i + (j + 1) = i + 1 + j by omega] at z
      exact z) p1
    refine ⟨o :: os, m2, ?_, by rw [List.length_cons, show i + (ds.length + 1) = i + 1 + ds.length by omega]; exact p2, by simp [l2], fun j x q => ?_⟩
    · rw [compL_step e1, e2]
      cases o with
      | none => rw [List.filterMap_cons_none (f := id) rfl]; rfl
      | some y => rw [List.filterMap_cons_some (f := id) (b := y) rfl]; simp [adds]
    · cases j with
      | zero => simp at q; subst q; exact ⟨o, rfl, r1⟩
      | succ j =>
        obtain ⟨o', z1, z2⟩ := r2 j x (by simpa using q)
        exact ⟨o', by simpa using z1, by rw [show i + (j + 1) = i + 1 + j by omega]; exact z2⟩
/-- .. where every turn gives an item of a kind -/
theorem compL_all (P : Sm → Prop) (R : PyData → Prop) {ds : List PyData} {m : Sm} (h : ∀ d ∈ ds, ∀ m, P m → ∃ y m', compStep own bt tst e d m = .ok (some y) m' ∧ P m' ∧ R y) (p : P m) :
    ∃ (ys : List PyData) (m' : Sm), compL own bt tst e ds [] m = .ok ys m' ∧ P m' ∧ ys.length = ds.length ∧ ∀ y ∈ ys, R y := by
  suffices q : ∀ (ds acc : List PyData) (m : Sm), (∀ d ∈ ds, ∀ m, P m → ∃ y m', compStep own bt tst e d m = .ok (some y) m' ∧ P m' ∧ R y) → P m → ∃ (ys : List PyData) (m' : Sm), compL own bt tst e ds acc m = .ok (acc ++ ys) m' ∧ P m' ∧ ys.length = ds.length ∧ ∀ y ∈ ys, R y by
    obtain ⟨ys, m', z⟩ := q ds [] m h p
    exact ⟨ys, m', by simpa using z⟩
  intro ds
  induction ds with
  | nil => exact fun acc m h p => ⟨[], m, by rw [List.append_nil]; rfl, p, rfl, fun y hy => by cases hy⟩
  | cons d ds ih =>
    intro acc m h p
    obtain ⟨y, m1, e1, p1, r1⟩ := h d (List.mem_cons_self ..) m p
    obtain ⟨ys, m2, e2, p2, l2, r2⟩ := ih (acc ++ [y]) m1 (fun x hx => h x (List.mem_cons_of_mem _ hx)) p1
    refine ⟨y :: ys, m2, ?_, p2, by simp [l2], fun x hx => ?_⟩
    · rw [compL_step e1]
      show compL own bt tst e ds (acc ++ [y]) m1 = _
      rw [e2]; simp
    · rcases List.mem_cons.mp hx with z | z
      · rw [z]; exact r1
      · exact r2 x z
/-! ### targets -/
theorem ev_tgN {i : Nat} : tgName i d m = some (m.set i (some (.fz d))) := rfl
variable {t : Tg} {ts : List Tg} {ds : List PyData}
def tgO (ts : List Tg) (ds : List PyData) : Option Sm → Option Sm
  | some m => tgAll ts ds m
  | none => none
theorem ev_tgT (h : ds.length = ts.length) : tgTup ts (.tuple ds) m = tgAll ts ds m := if_pos h
theorem ev_tgA0 : tgAll [] [] m = some m := rfl
theorem ev_tgA : tgAll (t :: ts) (d :: ds) m = tgO ts ds (t d m) := by
  conv => lhs; unfold tgAll
  cases t d m <;> rfl
theorem ev_tgO : tgO ts ds (some m) = tgAll ts ds m := rfl
/-! ### statements -/
def sqK (h : Sf) : Fo → Sf := fun o m1 => match o with
  | .nx => h m1
  | o => .ok o m1
theorem ev_sq : seqS g h m = Res.bind (g m) (sqK h) := rfl
theorem ev_sqK_nx : sqK h .nx m = h m := rfl
theorem ev_sqK_rt {mv : Mv} : sqK h (.rt mv) m = .ok (.rt mv) m := rfl
theorem ev_sqK_bk : sqK h .bk m = .ok .bk m := rfl
theorem ev_sqK_ct : sqK h .ct m = .ok .ct m := rfl
theorem ev_skip : skipS m = .ok .nx m := rfl
def drK : Rv → Sf := fun _ m => .ok .nx m
theorem ev_drop : dropS f m = Res.bind (f m) drK := rfl
theorem ev_drK {r : Rv} : drK r m = .ok .nx m := rfl
def ifK (g h : Sf) : Bool → Sf := fun b => if b = true then g else h
theorem ev_if {c : Ev Bool} : ifS c g h m = Res.bind (c m) (ifK g h) := rfl
theorem ev_ifK_t : ifK g h true m = g m := rfl
theorem ev_ifK_f : ifK g h false m = h m := rfl
def owD : PyData → Ev Rv := fun d m => .ok (.d d) m
def owK : Rv → Ev Rv := fun r m => match r with
  | .s i => (frz (.s i) m).bind fun d m1 => .ok (.d d) m1
  | r => .ok r m
theorem ev_own : ownF f m = Res.bind (f m) owK := rfl
theorem ev_owK_d : owK (.d d) m = .ok (.d d) m := rfl
theorem ev_owK_nl {xs : List PyData} : owK (.nl xs) m = .ok (.nl xs) m := rfl
theorem ev_owK_nd {kvs : Kvs} : owK (.nd kvs) m = .ok (.nd kvs) m := rfl
theorem ev_owK_nr {k : Nat} {c : List Int} {a b : Int} : owK (.nr k c a b) m = .ok (.nr k c a b) m := rfl
theorem ev_owK_s {i : Nat} : owK (.s i) m = Res.bind (frS i m[i]? m) owD := rfl
theorem ev_owD : owD d m = .ok (.d d) m := rfl
variable {i : Nat}
theorem ev_put_d : putM i (.d d) m = .ok .nx (m.set i (some (.fz d))) := rfl
theorem ev_put_nl {xs : List PyData} : putM i (.nl xs) m = .ok .nx (m.set i (some (.ol xs))) := rfl
theorem ev_put_nd {xs : Kvs} : putM i (.nd xs) m = .ok .nx (m.set i (some (.od xs))) := rfl
theorem ev_put_nr {k : Nat} {c : List Int} {a b : Int} : putM i (.nr k c a b) m = .ok .nx (m.set i (some (.rs k c a b))) := rfl
theorem ev_set : setS i f m = Res.bind (ownF f m) (putM i) := rfl
def stO : Option Sm → Res Fo
  | some m' => .ok .nx m'
  | none => .no
def stK (t : Tg) : PyData → Sf := fun d m => match t d m with
  | some m' => .ok .nx m'
  | none => .no
theorem ev_setT : setT t f m = Res.bind (frzE f m) (stK t) := rfl
theorem ev_stK : stK t d m = stO (t d m) := by
  show (match t d m with | some m' => Res.ok Fo.nx m' | none => .no) = _
  cases t d m <;> rfl
theorem ev_stO : stO (some m) = .ok .nx m := rfl
theorem ev_ret : retS f m = Res.bind (ownF f m) giveM := rfl
theorem ev_give_d : giveM (.d d) m = .ok (.rt (.fz d)) m := rfl
theorem ev_give_nl {xs : List PyData} : giveM (.nl xs) m = .ok (.rt (.ol xs)) m := rfl
theorem ev_give_nd {xs : Kvs} : giveM (.nd xs) m = .ok (.rt (.od xs)) m := rfl
theorem ev_give_nr {k : Nat} {c : List Int} {a b : Int} : giveM (.nr k c a b) m = .ok (.rt (.rs k c a b)) m := rfl
theorem ev_for : forS it t g m = Res.bind (it m) (forL t g) := rfl
def prE (j : Nat) (r2 : Rv) : Fo → Sf := fun _ m1 => putM j r2 m1
def prD (i j : Nat) (r1 : Rv) : Rv → Sf := fun r2 m => (putM i r1 m).bind (prE j r2)
def prC (i j : Nat) (f2 : Ev Rv) : Rv → Sf := fun r1 m => (ownF f2 m).bind (prD i j r1)
variable {j : Nat} {f1 f2 : Ev Rv} {r r1 r2 : Rv}
theorem ev_par : parS i j f1 f2 m = Res.bind (ownF f1 m) (prC i j f2) := rfl
theorem ev_prC : prC i j f2 r1 m = Res.bind (ownF f2 m) (prD i j r1) := rfl
theorem ev_prD : prD i j r1 r2 m = Res.bind (putM i r1 m) (prE j r2) := rfl
theorem ev_prE {o : Fo} : prE j r2 o m = putM j r2 m := rfl
def poK (rs : List Rv) : Ev Rv := potK rs
theorem ev_pot : potE fs m = Res.bind (argsE fs m) potK := rfl
theorem ev_potK {ns : List Int} {a b : Int} : potK [.nl (ns.map .int), .d (.int a), .d (.int b)] m = .ok (.nr 0 ns a b) m := by
  have h : ∀ ns : List Int, intsOf (ns.map PyData.int) = some ns := by
    intro ns
    induction ns with
    | nil => rfl
    | cons n ns ih => simp [intsOf, ih]
  unfold potK
  simp only [h]
/-! ### loops -/
def forT (t : Tg) (g : Sf) (ds : List PyData) : Fo → Sf := fun o m2 => match o with
  | .nx => forL t g ds m2
  | .ct => forL t g ds m2
  | .bk => .ok .nx m2
  | .rt v => .ok (.rt v) m2
def bodyO (g : Sf) : Option Sm → Res Fo
  | some m => g m
  | none => .no
theorem forL_nil : forL t g [] m = .ok .nx m := rfl
theorem forL_cons : forL t g (d :: ds) m = Res.bind (bodyO g (t d m)) (forT t g ds) := by
  conv => lhs; unfold forL
  cases t d m <;> rfl
theorem ev_bodyO : bodyO g (some m) = g m := rfl
theorem ev_forT_nx : forT t g ds .nx m = forL t g ds m := rfl
theorem ev_forT_ct : forT t g ds .ct m = forL t g ds m := rfl
theorem ev_forT_bk : forT t g ds .bk m = .ok .nx m := rfl
theorem ev_forT_rt {v : Mv} : forT t g ds (.rt v) m = .ok (.rt v) m := rfl
/-- a loop that goes through -/
theorem forL_inv (P : Nat → Sm → Prop) : ∀ {ds : List PyData} {i : Nat} {m : Sm}, (∀ j d m, ds[j]? = some d → P (i + j) m → ∃ o m', bodyO g (t d m) = .ok o m' ∧ (o = .nx ∨ o = .ct) ∧ P (i + j + 1) m') → P i m → ∃ m', forL t g ds m = .ok .nx m' ∧ P (i + ds.length) m'
  | [], i, m, h, p => ⟨m, rfl, p⟩
  | d :: ds, i, m, h, p => by
    obtain ⟨o, m1, e1, ho, p1⟩ := h 0 d m rfl p
    obtain ⟨m2, e2, p2⟩ := forL_inv P (ds := ds) (i := i + 1) (m := m1) (fun j x m' q p' => by
      have z := h (j + 1) x m' (by simpa using q) (by rw [show i + (j + 1) = i + 1 + j by omega]; exact p')
      rw [show i + (j + 1) = i + 1 + j by omega] at z
      exact z) p1
    refine ⟨m2, ?_, by rw [List.length_cons, show i + (ds.length + 1) = i + 1 + ds.length by omega]; exact p2⟩
    rw [forL_cons, e1, eb_ok]
    rcases ho with z | z <;> subst z
    · rw [ev_forT_nx]; exact e2
    · rw [ev_forT_ct]; exact e2
/-- a body that goes on, to a state where P holds -/
inductive Goes (P : Sm → Prop) : Res Fo → Prop
  | nx {m : Sm} : P m → Goes P (.ok .nx m)
  | ct {m : Sm} : P m → Goes P (.ok .ct m)
theorem forL_goes (P : Nat → Sm → Prop) {ds : List PyData} {m : Sm} (h : ∀ j d m, ds[j]? = some d → P j m → Goes (P (j + 1)) (bodyO g (t d m))) (p : P 0 m) : ∃ m', forL t g ds m = .ok .nx m' ∧ P ds.length m' := by
  obtain ⟨m', e, q⟩ := forL_inv (t := t) (g := g) P (ds := ds) (i := 0) (m := m) (fun j d m hd p => by
    have z := h j d m hd (by simpa using p)
    generalize bodyO g (t d m) = r at z
    cases z with
    | nx q => exact ⟨_, _, rfl, .inl rfl, by simpa using q⟩
    | ct q => exact ⟨_, _, rfl, .inr rfl, by simpa using q⟩) p
  exact ⟨m', e, by simpa using q⟩
/-! ### calls -/
variable {F : Fm} {rs : List Rv} {ms : List Mv}
def apD (r : Rv) : List Rv → Ev (List Rv) := fun rs m => .ok (r :: rs) m
def apC (fs : List (Ev Rv)) : Rv → Ev (List Rv) := fun r m => (argsP fs m).bind (apD r)
def paN : Rv → Ev Rv := fun r m => match r with
  | .nl xs => .ok (.d (.list xs)) m
  | r => .ok r m
theorem ev_argp0 : argsP [] m = .ok [] m := rfl
theorem ev_argp : argsP (f :: fs) m = Res.bind (passF f m) (apC fs) := rfl
theorem ev_apC {r : Rv} : apC fs r m = Res.bind (argsP fs m) (apD r) := rfl
theorem ev_apD {r : Rv} : apD r rs m = .ok (r :: rs) m := rfl
theorem ev_pass : passF f m = Res.bind (f m) paN := rfl
theorem ev_paN_d : paN (.d d) m = .ok (.d d) m := rfl
theorem ev_paN_s : paN (.s i) m = .ok (.s i) m := rfl
theorem ev_paN_nl {xs : List PyData} : paN (.nl xs) m = .ok (.d (.list xs)) m := rfl
theorem ev_call : callE F fs m = Res.bind (argsP fs m) (callM F) := rfl
def caF (rs : List Rv) (m : Sm) : Res Mv → Res Rv
  | .ok r m' => .ok (mvR r) (backM rs m' m)
  | .ex e m' => .ex e (backM rs m' m)
  | .no => .no
def caO (F : Fm) (rs : List Rv) (m : Sm) : Option (List Mv) → Res Rv
  | some ms => caF rs m (F ms)
  | none => .no
theorem ev_callM (h : distinct (slotsOf rs) = true) : callM F rs m = caO F rs m (passM m rs) := by
  unfold callM
  rw [if_pos h]
  cases passM m rs with
  | none => rfl
  | some ms =>
    show (match F ms with | .ok r m' => Res.ok (mvR r) (backM rs m' m) | .ex e m' => .ex e (backM rs m' m) | .no => .no) = caF rs m (F ms)
    cases F ms <;> rfl
theorem ev_caO : caO F rs m (some ms) = caF rs m (F ms) := rfl
theorem ev_caF {mv : Mv} {os : Sm} : caF rs m (.ok mv os) = .ok (mvR mv) (backM rs os m) := rfl
def conM : Option Mv → Option (List Mv) → Option (List Mv)
  | some a, some b => some (a :: b)
  | _, _ => none
theorem ev_pm0 : passM m [] = some [] := rfl
theorem ev_pm_d : passM m (.d d :: rs) = conM (some (.fz d)) (passM m rs) := by
  conv => lhs; unfold passM
  cases passM m rs <;> rfl
theorem ev_pm_s : passM m (.s i :: rs) = conM m[i]?.join (passM m rs) := by
  conv => lhs; unfold passM
  show (match m[i]? with | some (some mv) => (passM m rs).map (mv :: ·) | _ => none) = _
  cases m[i]? with
  | none => rfl
  | some o => cases o <;> cases passM m rs <;> rfl
theorem ev_conM {a : Mv} {b : List Mv} : conM (some a) (some b) = some (a :: b) := rfl
variable {o : Option Mv} {os : Sm}
theorem ev_bm0 {os : Sm} : backM [] os m = m := by cases os <;> rfl
theorem ev_bm_s : backM (.s i :: rs) (o :: os) m = backM rs os (m.set i o) := rfl
theorem ev_bm_d : backM (.d d :: rs) (o :: os) m = backM rs os m := rfl
theorem ev_so0 : slotsOf [] = [] := rfl
theorem ev_so_d : slotsOf (.d d :: rs) = slotsOf rs := rfl
theorem ev_so_s : slotsOf (.s i :: rs) = i :: slotsOf rs := rfl
theorem ev_mv_fz : mvR (.fz d) = .d d := rfl
theorem ev_mv_ol {xs : List PyData} : mvR (.ol xs) = .nl xs := rfl
theorem ev_mv_od {xs : Kvs} : mvR (.od xs) = .nd xs := rfl
theorem ev_mv_rs {k : Nat} {c : List Int} {a b : Int} : mvR (.rs k c a b) = .nr k c a b := rfl
def ckK (F : Fm) (n j : Nat) (perm : List Nat) (rs : List Rv) : List Rv → Ev Rv := fun qs => callM F (permL n j perm (.d .none) rs qs)
def ckC (F : Fm) (n j : Nat) (perm : List Nat) (gs : List (Ev Rv)) : List Rv → Ev Rv := fun rs m => (argsP gs m).bind (ckK F n j perm rs)
variable {n : Nat} {perm : List Nat} {qs : List Rv}
theorem ev_callK : callKE F n j perm fs gs m = Res.bind (argsP fs m) (ckC F n j perm gs) := rfl
theorem ev_ckC : ckC F n j perm gs rs m = Res.bind (argsP gs m) (ckK F n j perm rs) := rfl
theorem ev_ckK (h1 : rs.length = n) (h2 : qs.length = j) : ckK F n j perm rs qs m = callM F (perm.map fun i => (rs ++ qs).getD i (.d .none)) m := by
  unfold ckK permL
  rw [if_pos ⟨h1, h2⟩]
/-! ### a def -/
variable {np nn : Nat} {ro : List Nat} {st : Sm}
theorem run_rt {mv : Mv} (h1 : ms.length = np) (h2 : allFz ro 0 ms = true) (h3 : ms.map some ++ List.replicate (nn - np) none = st) (h : g st = .ok (.rt mv) m') : runF np nn ro g ms = .ok mv (backP ro 0 ms m') := by
  unfold runF
  rw [if_pos h1, if_pos h2, h3, h]
theorem run_nx (h1 : ms.length = np) (h2 : allFz ro 0 ms = true) (h3 : ms.map some ++ List.replicate (nn - np) none = st) (h : g st = .ok .nx m') : runF np nn ro g ms = .ok (.fz .none) (backP ro 0 ms m') := by
  unfold runF
  rw [if_pos h1, if_pos h2, h3, h]
def runR (ro : List Nat) (ms : List Mv) : Res Fo → Res Mv
  | .ok (.rt mv) m => .ok mv (backP ro 0 ms m)
  | .ok .nx m => .ok (.fz .none) (backP ro 0 ms m)
  | .ex e m => .ex e (backP ro 0 ms m)
  | _ => .no
theorem run_ev (h1 : ms.length = np) (h2 : allFz ro 0 ms = true) (h3 : ms.map some ++ List.replicate (nn - np) none = st) : runF np nn ro g ms = runR ro ms (g st) := by
  unfold runF
  rw [if_pos h1, if_pos h2, h3]
  cases g st with
  | no => rfl
  | ex x m => rfl
  | ok o m => cases o <;> rfl
/-- a def's answer, whatever its parameters hold then -/
inductive Gives (v : Mv) : Res Mv → Prop
  | mk {m : Sm} : Gives v (.ok v m)
theorem ev_runR_rt {mv : Mv} : runR ro ms (.ok (.rt mv) m) = .ok mv (backP ro 0 ms m) := rfl
theorem ev_runR_nx : runR ro ms (.ok .nx m) = .ok (.fz .none) (backP ro 0 ms m) := rfl
end
end PyE

/-! PyP: what operations give; lists of ints; draws -/
namespace PyE
open PySem PySem.Spec PyProof.Rows
open L2
theorem smallI_of {i : Int} (h : -18446744073709551616 < i) (h2 : i < 18446744073709551616) : smallI i = true := decide_eq_true ⟨by omega, by omega⟩
theorem mulD_l {i j : Int} (h : smallI i = true) : mulD (.int i) (.int j) = some (.d (.int (i * j))) := if_pos (.inl h)
theorem mulD_r {i j : Int} (h : smallI j = true) : mulD (.int i) (.int j) = some (.d (.int (i * j))) := if_pos (.inr h)
theorem addD_int {i j : Int} : addD (.int i) (.int j) = some (.d (.int (i + j))) := rfl
theorem addD_list {xs ys : List PyData} (h : xs.length + ys.length ≤ 10000000) : addD (.list xs) (.list ys) = some (.nl (xs ++ ys)) := if_pos (by rw [sizeLine_eq]; omega)
theorem addD_tuple {xs ys : List PyData} (h : xs.length + ys.length ≤ 10000000) : addD (.tuple xs) (.tuple ys) = some (.d (.tuple (xs ++ ys))) := if_pos (by rw [sizeLine_eq]; omega)
theorem fdivD_ok {i j : Int} (h : 0 < j) (h2 : j < 1073741824) : fdivD (.int i) (.int j) = some (.d (.int (i / j))) := by
  have : fdivD (.int i) (.int j) = iD (i.fdiv j) := if_pos ⟨by omega, by omega⟩
  rw [this, Int.fdiv_eq_ediv_of_nonneg i (by omega)]; rfl
theorem modD_ok {i j : Int} (h : 0 < j) : modD (.int i) (.int j) = some (.d (.int (i % j))) := by
  have : modD (.int i) (.int j) = iD (i.fmod j) := if_pos (by omega)
  rw [this, Int.fmod_eq_emod_of_nonneg i (by omega)]; rfl
theorem lenL {xs : List PyData} : lenD [.list xs] = some (.d (.int xs.length)) := rfl
theorem lenT {xs : List PyData} : lenD [.tuple xs] = some (.d (.int xs.length)) := rfl
theorem tupL {xs : List PyData} : tupleD [.list xs] = some (.d (.tuple xs)) := rfl
theorem tupT {xs : List PyData} : tupleD [.tuple xs] = some (.d (.tuple xs)) := rfl
theorem lisL {xs : List PyData} : listD [.list xs] = some (.nl xs) := rfl
theorem lisT {xs : List PyData} : listD [.tuple xs] = some (.nl xs) := rfl
theorem sum_ints {ns : List Int} : sumD [.list (ns.map .int)] = some (.d (.int ns.sum)) := by
  unfold sumD
  simp only [intsOf_map]
  rfl
theorem eqD_int {i j : Int} : eqD (.int i) (.int j) = some (.d (.bool (i == j))) := rfl
theorem neD_int {i j : Int} : neD (.int i) (.int j) = some (.d (.bool (!(i == j)))) := rfl
theorem eqD_str {i j : Str} : eqD (.str i) (.str j) = some (.d (.bool (i == j))) := rfl
theorem neD_str {i j : Str} : neD (.str i) (.str j) = some (.d (.bool (!(i == j)))) := rfl
/-! ### shown without trouble -/
def Fine (d : PyData) : Prop := tame d = true ∧ d.depth ≤ 60 ∧ cnt d ≤ 140000
theorem repr_ok {d : PyData} (h : Fine d) : reprD [d] = some (.d (.str d.shown)) := by
  obtain ⟨h1, h2, h3⟩ := h
  have h4 := tame_len h1
  have h5 : (d.showable = true ∧ d.depth ≤ 60 ∧ d.shown.length ≤ sizeLine) := ⟨tame_showable h1, h2, by rw [sizeLine_eq]; omega⟩
  have nd : ∀ kvs, d ≠ .dict kvs := fun kvs e => by rw [e] at h1; simp [tame] at h1
  have e : reprD [d] = if d.showable = true ∧ d.depth ≤ 60 ∧ d.shown.length ≤ sizeLine then some (.d (.str d.shown)) else none := by
    cases d with
    | dict kvs => exact absurd rfl (nd kvs)
    | _ => rfl
  rw [e, if_pos h5]
/-! ### walks -/
theorem rangeD_nat (n : Nat) : rangeD 0 (n : Int) = (List.range n).map fun (i : Nat) => PyData.int (i : Int) := by
  unfold rangeD
  rw [show ((n : Int) - 0).toNat = n by omega]
  exact List.map_congr_left fun i _ => by rw [Int.zero_add]
theorem okRg_nat {n : Nat} (h : n ≤ 1000000) : okRg 0 (n : Int) = true := decide_eq_true ⟨by omega, by omega, by omega, by omega⟩
theorem zip_eq {α β : Type} (q : α → PyData) (q2 : β → PyData) (a : List α) (b : List β) : zipD (a.map q) (b.map q2) = (a.zip b).map fun p => .tuple [q p.1, q2 p.2] := by
  unfold zipD
  rw [List.length_map, List.length_map]
  apply List.ext_getElem?
  intro i
  rw [List.getElem?_map, List.getElem?_map]
  by_cases h : i < min a.length b.length
  · have h1 : i < a.length := by omega
    have h2 : i < b.length := by omega
    rw [List.getElem?_range h, List.getElem?_eq_getElem (by rw [List.length_zip]; exact h), List.getElem_zip]
    simp [List.getD_eq_getElem?_getD, h1, h2]
  · rw [List.getElem?_eq_none (by simpa using by omega), List.getElem?_eq_none (by rw [List.length_zip]; omega)]
    rfl
theorem enum_eq {α : Type} (q : α → PyData) (a : List α) : enumD (a.map q) = a.zipIdx.map fun p => .tuple [.int (p.2 : Int), q p.1] := by
  unfold enumD
  rw [List.length_map]
  apply List.ext_getElem?
  intro i
  rw [List.getElem?_map, List.getElem?_map, List.getElem?_zipIdx]
  by_cases h : i < a.length
  · rw [List.getElem?_range h, List.getElem?_eq_getElem h]
    simp [List.getD_eq_getElem?_getD, h]
  · rw [List.getElem?_eq_none (by simpa using by omega), List.getElem?_eq_none (by omega)]
    rfl
section
variable {own : List Nat} {bt : Tg} {tst : Ev Bool} {e : Ev PyData} {m : Sm} {γ : Type}
theorem compL_mapOf (L : List γ) (q r : γ → PyData) (h : ∀ x ∈ L, compStep own bt tst e (q x) m = .ok (some (r x)) m) : compL own bt tst e (L.map q) [] m = .ok (L.map r) m := by
  suffices z : ∀ (L : List γ) (acc : List PyData), (∀ x ∈ L, compStep own bt tst e (q x) m = .ok (some (r x)) m) → compL own bt tst e (L.map q) acc m = .ok (acc ++ L.map r) m by simpa using z L [] h
  intro L
  induction L with
  | nil => intro acc h; rw [List.map_nil, List.map_nil, List.append_nil]; rfl
  | cons x L ih =>
    intro acc h
    rw [List.map_cons, compL_step (h x (List.mem_cons_self ..)), ih _ fun y hy => h y (List.mem_cons_of_mem _ hy)]
    simp [adds]
theorem compL_filterOf (L : List γ) (p : γ → Bool) (q r : γ → PyData) (h : ∀ x ∈ L, compStep own bt tst e (q x) m = .ok (if p x = true then some (r x) else none) m) : compL own bt tst e (L.map q) [] m = .ok ((L.filter p).map r) m := by
  suffices z : ∀ (L : List γ) (acc : List PyData), (∀ x ∈ L, compStep own bt tst e (q x) m = .ok (if p x = true then some (r x) else none) m) → compL own bt tst e (L.map q) acc m = .ok (acc ++ (L.filter p).map r) m by simpa using z L [] h
  intro L
  induction L with
  | nil => intro acc h; rw [List.map_nil, List.filter_nil, List.map_nil, List.append_nil]; rfl
  | cons x L ih =>
    intro acc h
    rw [List.map_cons, compL_step (h x (List.mem_cons_self ..)), ih _ fun y hy => h y (List.mem_cons_of_mem _ hy)]
    cases hp : p x with
    | true => rw [List.filter_cons_of_pos hp]; simp [adds]
    | false => rw [List.filter_cons_of_neg (by simp [hp])]; simp [adds]
end
/-! ### ints drawn -/
theorem ix_tuple {ds : List PyData} {i : Nat} {d : PyData} (h : ds[i]? = some d) : ixD (.tuple ds) (.int (i : Int)) = some (.d d) := by
  have e : atI ds (i : Int) = some d := atI_nat h
  unfold ixD
  simp only [e, Option.map_some]
theorem ix_list {ds : List PyData} {i : Nat} {d : PyData} (h : ds[i]? = some d) : ixD (.list ds) (.int (i : Int)) = some (.d d) := by
  have e : atI ds (i : Int) = some d := atI_nat h
  unfold ixD
  simp only [e, Option.map_some]
/-- a draw of the first kind -/
theorem drawA_of (cells : List Int) (a b many : Int) : 0 ≤ (drawA cells a b many).1 ∧ (1 ≤ many → (drawA cells a b many).1 < many) ∧ (drawA cells a b many).2.1.length ≤ cells.length := by
  unfold drawA
  split
  · exact ⟨Int.le_refl _, fun h => by show (0 : Int) < many; omega, Nat.le_refl _⟩
  · rename_i h
    have hm : (0 : Int) < many := by omega
    split
    · rename_i cell rest e
      have hl : cells.length = rest.length + 1 := by have := congrArg List.length e; simpa using this
      refine ⟨Int.emod_nonneg _ (by omega), fun _ => Int.emod_lt_of_pos _ hm, ?_⟩
      show (if cell ≥ many then rest.reverse ++ [cell / many] else rest.reverse).length ≤ cells.length
      split <;> simp <;> omega
    · exact ⟨Int.emod_nonneg _ (by omega), fun _ => Int.emod_lt_of_pos _ hm, Nat.zero_le _⟩
theorem draw_ok (cells : List Int) (a b many : Int) (hm : many < 1073741824) (hc : cells.length ≤ 1000) : ∃ (v : Int) (c : List Int) (b' : Int), drawFA [.rs 0 cells a b, .fz (.int many)] = .ok (.fz (.int v)) [some (.rs 0 c a b'), some (.fz (.int many))] ∧ c.length ≤ 1000 ∧ 0 ≤ v ∧ (1 ≤ many → v < many) := by
  obtain ⟨h1, h2, h3⟩ := drawA_of cells a b many
  refine ⟨(drawA cells a b many).1, (drawA cells a b many).2.1, (drawA cells a b many).2.2, ?_, Nat.le_trans h3 hc, h1, h2⟩
  show (if many < 1073741824 ∧ cells.length ≤ 1000 then _ else _) = _
  rw [if_pos ⟨hm, hc⟩]
end PyE

/-! PyP: sizes of shown data; points -/
namespace PyE
open PySem PySem.Spec PyProof.Rows
open L2
/-- a tuple of ints -/
abbrev pt (ns : List Int) : PyData := .tuple (ns.map .int)
/-- shown without trouble: at most so deep, so many nodes -/
def Sz (d : PyData) (dp c : Nat) : Prop := tame d = true ∧ d.depth ≤ dp ∧ cnt d ≤ c
theorem Sz.fine {d : PyData} {dp c : Nat} (h : Sz d dp c) (h1 : dp ≤ 60) (h2 : c ≤ 140000) : Fine d := ⟨h.1, Nat.le_trans h.2.1 h1, Nat.le_trans h.2.2 h2⟩
theorem Sz.mono {d : PyData} {dp c dp' c' : Nat} (h : Sz d dp c) (h1 : dp ≤ dp') (h2 : c ≤ c') : Sz d dp' c' := ⟨h.1, Nat.le_trans h.2.1 h1, Nat.le_trans h.2.2 h2⟩
theorem sz_int {i : Int} (h : i.natAbs < 10 ^ 100) : Sz (.int i) 0 1 := ⟨decide_eq_true h, Nat.le_refl _, Nat.le_refl _⟩
theorem sz_bool {b : Bool} : Sz (.bool b) 0 1 := ⟨rfl, Nat.le_refl _, Nat.le_refl _⟩
theorem sz_none : Sz .none 0 1 := ⟨rfl, Nat.le_refl _, Nat.le_refl _⟩
theorem szs_of {dp c : Nat} : ∀ {xs : List PyData}, (∀ x ∈ xs, Sz x dp c) → tameAll xs = true ∧ PyData.depthAll xs ≤ dp ∧ cntAll xs ≤ xs.length * c
  | [], _ => ⟨rfl, Nat.zero_le _, Nat.zero_le _⟩
  | x :: xs, h => by
    obtain ⟨h1, h2, h3⟩ := h x (List.mem_cons_self ..)
    obtain ⟨g1, g2, g3⟩ := szs_of fun y hy => h y (List.mem_cons_of_mem _ hy)
    refine ⟨by simp only [tameAll, h1, g1, Bool.and_self], by simp only [PyData.depthAll]; omega, ?_⟩
    simp only [cntAll, List.length_cons, Nat.succ_mul]
    omega
theorem sz_list {xs : List PyData} {dp c : Nat} (h : ∀ x ∈ xs, Sz x dp c) : Sz (.list xs) (dp + 1) (1 + xs.length * c) := by
  obtain ⟨h1, h2, h3⟩ := szs_of h
  exact ⟨by simpa only [tame] using h1, by simp only [PyData.depth]; omega, by simp only [cnt]; omega⟩
theorem sz_tuple {xs : List PyData} {dp c : Nat} (h : ∀ x ∈ xs, Sz x dp c) : Sz (.tuple xs) (dp + 1) (1 + xs.length * c) := by
  obtain ⟨h1, h2, h3⟩ := szs_of h
  exact ⟨by simpa only [tame] using h1, by simp only [PyData.depth]; omega, by simp only [cnt]; omega⟩
theorem sz_pt {ns : List Int} (h : ∀ n ∈ ns, n.natAbs < 10 ^ 100) : Sz (pt ns) 1 (1 + ns.length) := by
  have := sz_tuple (xs := ns.map .int) (dp := 0) (c := 1) fun x hx => by
    obtain ⟨n, hn, rfl⟩ := List.mem_map.mp hx
    exact sz_int (h n hn)
  simpa using this
/-- ints of a small list -/
def Bd (B : Int) (ns : List Int) : Prop := ∀ n ∈ ns, -B ≤ n ∧ n ≤ B
theorem Bd.mono {B C : Int} {ns : List Int} (h : Bd B ns) (hc : B ≤ C) : Bd C ns := fun n hn => by have := h n hn; omega
theorem Bd.at {B : Int} {ns : List Int} (h : Bd B ns) {n : Int} (hn : n ∈ ns) (hB : B ≤ 1000000000000000000000000000000) : n.natAbs < 10 ^ 100 := by
  have := h n hn
  have e : (10 : Nat) ^ 30 ≤ 10 ^ 100 := by decide +kernel
  have : n.natAbs ≤ 10 ^ 30 := by omega
  have e2 : (10 : Nat) ^ 30 < 10 ^ 100 := by decide +kernel
  omega
theorem natAbs_ok {n : Int} (h1 : -1000000000000000000000000000000 ≤ n) (h2 : n ≤ 1000000000000000000000000000000) : n.natAbs < 10 ^ 100 := by
  have : n.natAbs ≤ 10 ^ 30 := by omega
  have e2 : (10 : Nat) ^ 30 < 10 ^ 100 := by decide +kernel
  omega
theorem bd_sum {B : Int} (hB : 0 ≤ B) : ∀ {ns : List Int}, Bd B ns → -(B * ns.length) ≤ ns.sum ∧ ns.sum ≤ B * ns.length
  | [], _ => by simp
  | n :: ns, h => by
    have h1 := h n (List.mem_cons_self ..)
    have h2 := bd_sum hB (ns := ns) fun x hx => h x (List.mem_cons_of_mem _ hx)
    have e : B * ((n :: ns).length : Int) = B * (ns.length : Int) + B := by
      rw [List.length_cons]; push_cast; rw [Int.mul_add, Int.mul_one]
    rw [List.sum_cons, e]
    omega
theorem shaped_pt {ns : List Int} : SeqAt.shaped (pt ns) = true := by
  have h : ∀ ns : List Int, PyData.canLayAll0 (ns.map PyData.int) = true ∧ PyData.depthAll (ns.map PyData.int) = 0 := by
    intro ns
    induction ns with
    | nil => exact ⟨rfl, rfl⟩
    | cons n r ih => exact ⟨by simp only [List.map_cons, PyData.canLayAll0, PyData.canLay0, ih.1, Bool.and_self], by simp only [List.map_cons, PyData.depthAll, PyData.depth, ih.2]; rfl⟩
  unfold SeqAt.shaped
  rw [Bool.and_eq_true]
  refine ⟨by simp only [PyData.canLay0]; exact (h ns).1, decide_eq_true ?_⟩
  simp only [PyData.depth]
  have := (h ns).2
  omega
theorem shaped_int {i : Int} : SeqAt.shaped (.int i) = true := rfl
theorem eqv_int {i j : Int} : PyData.eqv (.int i) (.int j) = (i == j) := by simp only [PyData.eqv]
theorem in_pt {ns : List Int} {i : Int} : inD false (.int i) (pt ns) = some (.d (.bool (ns.any fun z => z == i))) := by
  unfold inD
  rw [shaped_int, shaped_pt]
  show bD _ = _
  unfold bD
  simp only [List.any_map, Bool.false_bne]
  congr 3
/-- a source of the first kind of few cells -/
def PotA (mv : Mv) : Prop := ∃ c a b, mv = .rs 0 c a b ∧ c.length ≤ 1000
theorem potA_draw {mv : Mv} (h : PotA mv) {many : Int} (hm : many < 1073741824) : ∃ (v : Int) (mv' : Mv), drawFA [mv, .fz (.int many)] = .ok (.fz (.int v)) [some mv', some (.fz (.int many))] ∧ PotA mv' ∧ 0 ≤ v ∧ (1 ≤ many → v < many) := by
  obtain ⟨c, a, b, rfl, hc⟩ := h
  obtain ⟨v, c', b', e, h1, h2, h3⟩ := draw_ok c a b many hm hc
  exact ⟨v, _, e, ⟨c', a, b', rfl, h1⟩, h2, h3⟩
theorem potA_slot {mv : Mv} (h : PotA mv) {i : Nat} {m : Sm} : slK i (some (some mv)) m = .ok (.s i) m := by
  obtain ⟨c, a, b, rfl, _⟩ := h; rfl
/-- a comprehension of draws, each turn an item of a kind -/
theorem draws_gen {Pot : Mv → Prop} {γ : Type} (S : Mv → Sm) (q : γ → PyData) (R : γ → Prop) {own : List Nat} {bt : Tg} {tst : Ev Bool} {e : Ev PyData} {ds : List PyData} {mv : Mv} (hp : Pot mv)
    (hF : ∀ d ∈ ds, ∀ mv, Pot mv → ∃ k mv', compStep own bt tst e d (S mv) = .ok (some (q k)) (S mv') ∧ Pot mv' ∧ R k) :
    ∃ (ks : List γ) (mv' : Mv), compL own bt tst e ds [] (S mv) = .ok (ks.map q) (S mv') ∧ Pot mv' ∧ ks.length = ds.length ∧ ∀ k ∈ ks, R k := by
  obtain ⟨ys, m', e1, ⟨mv', rfl, hp'⟩, hl, hy⟩ := compL_all (own := own) (bt := bt) (tst := tst) (e := e) (fun m => ∃ mv', m = S mv' ∧ Pot mv') (fun y => ∃ k : γ, y = q k ∧ R k) (ds := ds) (m := S mv)
    (fun d hd m ⟨mv1, hm, hp1⟩ => by
      subst hm
      obtain ⟨k, mv2, e2, hp2, h1⟩ := hF d hd mv1 hp1
      exact ⟨_, _, e2, ⟨mv2, rfl, hp2⟩, k, rfl, h1⟩) ⟨mv, rfl, hp⟩
  obtain ⟨ks, rfl, hk⟩ : ∃ ks : List γ, ys = ks.map q ∧ ∀ k ∈ ks, R k := by
    clear e1 hl
    induction ys with
    | nil => exact ⟨[], rfl, fun k hk => by cases hk⟩
    | cons y ys ih =>
      obtain ⟨k, rfl, hR⟩ := hy y (List.mem_cons_self ..)
      obtain ⟨ks, rfl, hk⟩ := ih fun z hz => hy z (List.mem_cons_of_mem _ hz)
      exact ⟨k :: ks, rfl, fun x hx => (List.mem_cons.mp hx).elim (fun z => z ▸ hR) (hk x)⟩
  exact ⟨ks, mv', e1, hp', by simpa using hl, hk⟩
/-- .. with a test: some of the turns give an item -/
theorem draws_some {Pot : Mv → Prop} {γ : Type} (S : Mv → Sm) (q : γ → PyData) (R : γ → Prop) {own : List Nat} {bt : Tg} {tst : Ev Bool} {e : Ev PyData} : ∀ {ds acc : List PyData} {mv : Mv}, Pot mv →
    (∀ d ∈ ds, ∀ mv, Pot mv → ∃ o mv', compStep own bt tst e d (S mv) = .ok (Option.map q o) (S mv') ∧ Pot mv' ∧ ∀ k, o = some k → R k) →
    ∃ (ks : List γ) (mv' : Mv), compL own bt tst e ds acc (S mv) = .ok (acc ++ ks.map q) (S mv') ∧ Pot mv' ∧ ks.length ≤ ds.length ∧ ∀ k ∈ ks, R k
  | [], acc, mv, hp, hF => ⟨[], mv, by rw [List.map_nil, List.append_nil]; rfl, hp, Nat.le_refl _, fun k hk => by cases hk⟩
  | d :: ds, acc, mv, hp, hF => by
    obtain ⟨o, mv1, e1, hp1, h1⟩ := hF d (List.mem_cons_self ..) mv hp
    obtain ⟨ks, mv2, e2, hp2, hl, hk⟩ := draws_some S q R (ds := ds) (acc := adds acc (Option.map q o)) hp1 fun x hx => hF x (List.mem_cons_of_mem _ hx)
    cases o with
    | none => exact ⟨ks, mv2, by rw [compL_step e1]; exact e2, hp2, by rw [List.length_cons]; omega, hk⟩
    | some k =>
      refine ⟨k :: ks, mv2, by rw [compL_step e1, e2]; simp [adds], hp2, by simp only [List.length_cons]; omega, fun x hx => ?_⟩
      rcases List.mem_cons.mp hx with z | z
      · rw [z]; exact h1 k rfl
      · exact hk x z
end PyE

namespace LawP
open PySem PySem.Spec PyProof.Rows L2 PyE
def xr0 : XR := fun _ _ _ _ _ => False
def topS (i : Nat) : Stmt := PySem.Challenge.pw_wholehills_k01_whole_points.main.body.getD i (.Pass ⟨0, 0, 0, 0⟩)
abbrev st_over : Stmt := topS 1
theorem sc_over : FnScope ["one", "other", "place"] ["one", "other"] (defScope st_over) := ⟨rfl, rfl, rfl, by decide +kernel, rfl, by decide +kernel, by decide +kernel⟩
def g_over : Sf := (retS (opNE tupleD [(compE [2] (itRange1 [(opNE lenD [(slotE 0)])]) (tgName 2) (boolE (op2E (cmpD (fun i j => decide (j < i))) (op2E ixD (slotE 0) (slotE 2)) (op2E ixD (slotE 1) (slotE 2)))) (slotE 2))]))
def m_over : Fm := runF 2 3 [0, 1] g_over
theorem len_over : ∀ ms, ms.length ≠ 2 → m_over ms = .no := runF_len _ _ _ _
abbrev st_distance : Stmt := topS 2
theorem sc_distance : FnScope ["one", "other", "first", "second"] ["one", "other"] (defScope st_distance) := ⟨rfl, rfl, rfl, by decide +kernel, rfl, by decide +kernel, by decide +kernel⟩
def g_distance : Sf := (retS (opNE sumD [(compE [2, 3] (itZip [(slotE 0), (slotE 1)]) (tgTup [(tgName 2), (tgName 3)]) yesT (opNE absD [(op2E subD (slotE 2) (slotE 3))]))]))
def m_distance : Fm := runF 2 4 [0, 1] g_distance
theorem len_distance : ∀ ms, ms.length ≠ 2 → m_distance ms = .no := runF_len _ _ _ _
abbrev st_lower : Stmt := topS 3
theorem sc_lower : FnScope ["one", "other", "first", "second"] ["one", "other"] (defScope st_lower) := ⟨rfl, rfl, rfl, by decide +kernel, rfl, by decide +kernel, by decide +kernel⟩
def g_lower : Sf := (retS (opNE tupleD [(compE [2, 3] (itZip [(slotE 0), (slotE 1)]) (tgTup [(tgName 2), (tgName 3)]) yesT (opNE min2D [(slotE 2), (slotE 3)]))]))
def m_lower : Fm := runF 2 4 [0, 1] g_lower
theorem len_lower : ∀ ms, ms.length ≠ 2 → m_lower ms = .no := runF_len _ _ _ _
abbrev st_upper : Stmt := topS 4
theorem sc_upper : FnScope ["one", "other", "first", "second"] ["one", "other"] (defScope st_upper) := ⟨rfl, rfl, rfl, by decide +kernel, rfl, by decide +kernel, by decide +kernel⟩
def g_upper : Sf := (retS (opNE tupleD [(compE [2, 3] (itZip [(slotE 0), (slotE 1)]) (tgTup [(tgName 2), (tgName 3)]) yesT (opNE max2D [(slotE 2), (slotE 3)]))]))
def m_upper : Fm := runF 2 4 [0, 1] g_upper
theorem len_upper : ∀ ms, ms.length ≠ 2 → m_upper ms = .no := runF_len _ _ _ _
abbrev st_stepped : Stmt := topS 5
theorem sc_stepped : FnScope ["point", "ups", "downs", "place", "item"] ["point", "ups", "downs"] (defScope st_stepped) := ⟨rfl, rfl, rfl, by decide +kernel, rfl, by decide +kernel, by decide +kernel⟩
def g_stepped : Sf := (retS (opNE tupleD [(compE [3, 4] (itEnum (slotE 0)) (tgTup [(tgName 3), (tgName 4)]) yesT (op2E subD (op2E addD (slotE 4) (opNE int1D [(op2E (inD false) (slotE 3) (slotE 1))])) (opNE int1D [(op2E (inD false) (slotE 3) (slotE 2))])))]))
def m_stepped : Fm := runF 3 5 [0, 1, 2] g_stepped
theorem len_stepped : ∀ ms, ms.length ≠ 3 → m_stepped ms = .no := runF_len _ _ _ _
abbrev st_times : Stmt := topS 6
theorem sc_times : FnScope ["prices", "point", "price", "item"] ["prices", "point"] (defScope st_times) := ⟨rfl, rfl, rfl, by decide +kernel, rfl, by decide +kernel, by decide +kernel⟩
def g_times : Sf := (retS (opNE sumD [(compE [2, 3] (itZip [(slotE 0), (slotE 1)]) (tgTup [(tgName 2), (tgName 3)]) yesT (op2E mulD (slotE 2) (slotE 3)))]))
def m_times : Fm := runF 2 4 [0, 1] g_times
theorem len_times : ∀ ms, ms.length ≠ 2 → m_times ms = .no := runF_len _ _ _ _
abbrev st__law_pot : Stmt := topS 8
theorem sc__law_pot : FnScope ["script", "cells", "mixed", "cell"] ["script"] (defScope st__law_pot) := ⟨rfl, rfl, rfl, by decide +kernel, rfl, by decide +kernel, by decide +kernel⟩
def g__law_pot : Sf := (seqS (parS 1 2 (compE [3] (itSeq (sliceE (slotE 0) none (some (dataE (.int 63))))) (tgName 3) yesT (op2E addD (op2E mulD (dataE (.int 2)) (opNE absD [(slotE 3)])) (opNE int1D [(op2E (cmpD (fun i j => decide (i < j))) (slotE 3) (dataE (.int 0)))]))) (op2E addD (dataE (.int 16244)) (op2E mulD (dataE (.int 61)) (opNE lenD [(slotE 0)])))) (seqS (forS (itSeq (slotE 1)) (tgName 3) (setS 2 (op2E modD (op2E addD (op2E addD (op2E mulD (slotE 2) (dataE (.int 69069))) (slotE 3)) (dataE (.int 11))) (dataE (.int 4294967291))))) (retS (potE [(compE [3] (itSeq (slotE 1)) (tgName 3) (boolE (op2E (cmpD (fun i j => decide (j < i))) (slotE 3) (op2E powD (dataE (.int 10)) (dataE (.int 12))))) (slotE 3)), (slotE 2), (dataE (.int 0))]))))
def m__law_pot : Fm := runF 1 4 [0] g__law_pot
theorem len__law_pot : ∀ ms, ms.length ≠ 1 → m__law_pot ms = .no := runF_len _ _ _ _
abbrev st__law_of : Stmt := topS 9
theorem sc__law_of : FnScope ["pot", "many", "cell", "number"] ["pot", "many"] (defScope st__law_of) := ⟨rfl, rfl, rfl, by decide +kernel, rfl, by decide +kernel, by decide +kernel⟩
abbrev st__law_one : Stmt := topS 10
theorem sc__law_one : FnScope ["pot", "items"] ["pot", "items"] (defScope st__law_one) := ⟨rfl, rfl, rfl, by decide +kernel, rfl, by decide +kernel, by decide +kernel⟩
def g__law_one : Sf := (retS (op2E ixD (slotE 1) (callE drawFA [(slotE 0), (opNE lenD [(slotE 1)])])))
def m__law_one : Fm := runF 2 2 [0, 1] g__law_one
theorem len__law_one : ∀ ms, ms.length ≠ 2 → m__law_one ms = .no := runF_len _ _ _ _
abbrev st__law_from : Stmt := topS 11
theorem sc__law_from : FnScope ["pot", "low", "high"] ["pot", "low", "high"] (defScope st__law_from) := ⟨rfl, rfl, rfl, by decide +kernel, rfl, by decide +kernel, by decide +kernel⟩
def g__law_from : Sf := (retS (op2E addD (slotE 1) (callE drawFA [(slotE 0), (op2E addD (op2E subD (slotE 2) (slotE 1)) (dataE (.int 1)))])))
def m__law_from : Fm := runF 3 3 [0, 1, 2] g__law_from
theorem len__law_from : ∀ ms, ms.length ≠ 3 → m__law_from ms = .no := runF_len _ _ _ _
abbrev st__law_over : Stmt := topS 12
theorem sc__law_over : FnScope ["one", "other", "i"] ["one", "other"] (defScope st__law_over) := ⟨rfl, rfl, rfl, by decide +kernel, rfl, by decide +kernel, by decide +kernel⟩
def g__law_over : Sf := (retS (opNE tupleD [(compE [2] (itRange1 [(opNE lenD [(slotE 0)])]) (tgName 2) (boolE (op2E (cmpD (fun i j => decide (j < i))) (op2E ixD (slotE 0) (slotE 2)) (op2E ixD (slotE 1) (slotE 2)))) (slotE 2))]))
def m__law_over : Fm := runF 2 3 [0, 1] g__law_over
theorem len__law_over : ∀ ms, ms.length ≠ 2 → m__law_over ms = .no := runF_len _ _ _ _
abbrev st__law_distance : Stmt := topS 13
theorem sc__law_distance : FnScope ["one", "other", "a", "b"] ["one", "other"] (defScope st__law_distance) := ⟨rfl, rfl, rfl, by decide +kernel, rfl, by decide +kernel, by decide +kernel⟩
def g__law_distance : Sf := (retS (opNE sumD [(compE [2, 3] (itZip [(slotE 0), (slotE 1)]) (tgTup [(tgName 2), (tgName 3)]) yesT (opNE absD [(op2E subD (slotE 2) (slotE 3))]))]))
def m__law_distance : Fm := runF 2 4 [0, 1] g__law_distance
theorem len__law_distance : ∀ ms, ms.length ≠ 2 → m__law_distance ms = .no := runF_len _ _ _ _
abbrev st__law_lower : Stmt := topS 14
theorem sc__law_lower : FnScope ["one", "other", "a", "b"] ["one", "other"] (defScope st__law_lower) := ⟨rfl, rfl, rfl, by decide +kernel, rfl, by decide +kernel, by decide +kernel⟩
def g__law_lower : Sf := (retS (opNE tupleD [(compE [2, 3] (itZip [(slotE 0), (slotE 1)]) (tgTup [(tgName 2), (tgName 3)]) yesT (opNE min2D [(slotE 2), (slotE 3)]))]))
def m__law_lower : Fm := runF 2 4 [0, 1] g__law_lower
theorem len__law_lower : ∀ ms, ms.length ≠ 2 → m__law_lower ms = .no := runF_len _ _ _ _
abbrev st__law_upper : Stmt := topS 15
theorem sc__law_upper : FnScope ["one", "other", "a", "b"] ["one", "other"] (defScope st__law_upper) := ⟨rfl, rfl, rfl, by decide +kernel, rfl, by decide +kernel, by decide +kernel⟩
def g__law_upper : Sf := (retS (opNE tupleD [(compE [2, 3] (itZip [(slotE 0), (slotE 1)]) (tgTup [(tgName 2), (tgName 3)]) yesT (opNE max2D [(slotE 2), (slotE 3)]))]))
def m__law_upper : Fm := runF 2 4 [0, 1] g__law_upper
theorem len__law_upper : ∀ ms, ms.length ≠ 2 → m__law_upper ms = .no := runF_len _ _ _ _
abbrev st__law_stepped : Stmt := topS 16
theorem sc__law_stepped : FnScope ["point", "ups", "downs", "i", "x"] ["point", "ups", "downs"] (defScope st__law_stepped) := ⟨rfl, rfl, rfl, by decide +kernel, rfl, by decide +kernel, by decide +kernel⟩
def g__law_stepped : Sf := (retS (opNE tupleD [(compE [3, 4] (itEnum (slotE 0)) (tgTup [(tgName 3), (tgName 4)]) yesT (op2E subD (op2E addD (slotE 4) (opNE int1D [(op2E (inD false) (slotE 3) (slotE 1))])) (opNE int1D [(op2E (inD false) (slotE 3) (slotE 2))])))]))
def m__law_stepped : Fm := runF 3 5 [0, 1, 2] g__law_stepped
theorem len__law_stepped : ∀ ms, ms.length ≠ 3 → m__law_stepped ms = .no := runF_len _ _ _ _
abbrev st__law_times : Stmt := topS 17
theorem sc__law_times : FnScope ["prices", "point", "p", "x"] ["prices", "point"] (defScope st__law_times) := ⟨rfl, rfl, rfl, by decide +kernel, rfl, by decide +kernel, by decide +kernel⟩
def g__law_times : Sf := (retS (opNE sumD [(compE [2, 3] (itZip [(slotE 0), (slotE 1)]) (tgTup [(tgName 2), (tgName 3)]) yesT (op2E mulD (slotE 2) (slotE 3)))]))
def m__law_times : Fm := runF 2 4 [0, 1] g__law_times
theorem len__law_times : ∀ ms, ms.length ≠ 2 → m__law_times ms = .no := runF_len _ _ _ _
abbrev st__law_far_point : Stmt := topS 18
theorem sc__law_far_point : FnScope ["pot", "places", "i"] ["pot", "places"] (defScope st__law_far_point) := ⟨rfl, rfl, rfl, by decide +kernel, rfl, by decide +kernel, by decide +kernel⟩
def g__law_far_point : Sf := (seqS (ifS (boolE (op2E eqD (callE drawFA [(slotE 0), (dataE (.int 2))]) (dataE (.int 0)))) (retS (opNE tupleD [(compE [2] (itRange1 [(slotE 1)]) (tgName 2) yesT (callE m__law_from [(slotE 0), (op1E negD (dataE (.int 20))), (dataE (.int 20))]))])) skipS) (retS (opNE tupleD [(compE [2] (itRange1 [(slotE 1)]) (tgName 2) yesT (callE m__law_from [(slotE 0), (op1E negD (dataE (.int 3))), (dataE (.int 3))]))])))
def m__law_far_point : Fm := runF 2 3 [0, 1] g__law_far_point
theorem len__law_far_point : ∀ ms, ms.length ≠ 2 → m__law_far_point ms = .no := runF_len _ _ _ _
abbrev st__law_some_prices : Stmt := topS 19
theorem sc__law_some_prices : FnScope ["pot", "places", "most", "i"] ["pot", "places"] (defScope st__law_some_prices) := ⟨rfl, rfl, rfl, by decide +kernel, rfl, by decide +kernel, by decide +kernel⟩
def g__law_some_prices : Sf := (seqS (setS 2 (callE m__law_one [(slotE 0), (lstE [(dataE (.int 2)), (dataE (.int 5)), (dataE (.int 40)), (dataE (.int 10000))])])) (retS (opNE tupleD [(compE [3] (itRange1 [(slotE 1)]) (tgName 3) yesT (callE m__law_from [(slotE 0), (op1E negD (slotE 2)), (slotE 2)]))])))
def m__law_some_prices : Fm := runF 2 4 [0, 1] g__law_some_prices
theorem len__law_some_prices : ∀ ms, ms.length ≠ 2 → m__law_some_prices ms = .no := runF_len _ _ _ _
abbrev st__law_are_points_right : Stmt := topS 20
theorem sc__law_are_points_right : FnScope ["pot", "one", "other", "kept", "due", "told", "named", "mores", "i"] ["pot", "one", "other"] (defScope st__law_are_points_right) := ⟨rfl, rfl, rfl, by decide +kernel, rfl, by decide +kernel, by decide +kernel⟩
def g__law_are_points_right : Sf := (seqS (setS 3 (opNE reprD [(lstE [(slotE 1), (slotE 2)])])) (seqS (setS 4 (lstE [(callE m__law_over [(slotE 1), (slotE 2)]), (callE m__law_distance [(slotE 1), (slotE 2)]), (callE m__law_lower [(slotE 1), (slotE 2)]), (callE m__law_upper [(slotE 1), (slotE 2)])])) (seqS (setS 5 (lstE [(callE m_over [(slotE 1), (slotE 2)]), (callE m_distance [(slotE 1), (slotE 2)]), (callE m_lower [(slotE 1), (slotE 2)]), (callE m_upper [(slotE 1), (slotE 2)])])) (seqS (setS 6 (lstE [(callKE m_over 0 2 [1, 0] [] [(slotE 2), (slotE 1)]), (callKE m_distance 0 2 [1, 0] [] [(slotE 2), (slotE 1)]), (callKE m_lower 0 2 [1, 0] [] [(slotE 2), (slotE 1)])])) (seqS (ifS (orT (boolE (op2E neD (opNE reprD [(slotE 5)]) (opNE reprD [(slotE 4)]))) (boolE (op2E neD (opNE reprD [(op2E addD (slotE 6) (lstE [(callKE m_upper 0 2 [1, 0] [] [(slotE 2), (slotE 1)])]))]) (opNE reprD [(slotE 4)])))) (retS (dataE (.bool false))) skipS) (seqS (setS 7 (op2E addD (compE [8] (itSeq (callE m_over [(slotE 1), (slotE 2)])) (tgName 8) yesT (op2E subD (op2E ixD (slotE 1) (slotE 8)) (op2E ixD (slotE 2) (slotE 8)))) (compE [8] (itSeq (callE m_over [(slotE 2), (slotE 1)])) (tgName 8) yesT (op2E subD (op2E ixD (slotE 2) (slotE 8)) (op2E ixD (slotE 1) (slotE 8)))))) (seqS (ifS (orT (boolE (op2E neD (opNE sumD [(slotE 7)]) (callE m_distance [(slotE 1), (slotE 2)]))) (boolE (op2E neD (callE m_distance [(callE m_lower [(slotE 1), (slotE 2)]), (callE m_upper [(slotE 1), (slotE 2)])]) (op2E ixD (slotE 4) (dataE (.int 1)))))) (retS (dataE (.bool false))) skipS) (retS (op2E eqD (opNE reprD [(lstE [(slotE 1), (slotE 2)])]) (slotE 3))))))))))
def m__law_are_points_right : Fm := runF 3 9 [0, 1, 2] g__law_are_points_right
theorem len__law_are_points_right : ∀ ms, ms.length ≠ 3 → m__law_are_points_right ms = .no := runF_len _ _ _ _
abbrev st__law_are_steps_right : Stmt := topS 21
theorem sc__law_are_steps_right : FnScope ["pot", "point", "prices", "other", "many", "ups", "downs", "due", "parts", "i"] ["pot", "point", "prices", "other"] (defScope st__law_are_steps_right) := ⟨rfl, rfl, rfl, by decide +kernel, rfl, by decide +kernel, by decide +kernel⟩
def g__law_are_steps_right : Sf := (seqS (setS 4 (opNE lenD [(slotE 1)])) (seqS (setS 5 (opNE tupleD [(compE [9] (itRange1 [(slotE 4)]) (tgName 9) (boolE (op2E eqD (callE drawFA [(slotE 0), (dataE (.int 2))]) (dataE (.int 0)))) (slotE 9))])) (seqS (setS 6 (opNE tupleD [(compE [9] (itRange1 [(slotE 4)]) (tgName 9) (boolE (op2E eqD (callE drawFA [(slotE 0), (dataE (.int 2))]) (dataE (.int 0)))) (slotE 9))])) (seqS (setS 7 (lstE [(callE m__law_stepped [(slotE 1), (slotE 5), (slotE 6)]), (callE m__law_times [(slotE 2), (slotE 1)])])) (seqS (ifS (boolE (op2E neD (opNE reprD [(lstE [(callE m_stepped [(slotE 1), (slotE 5), (slotE 6)]), (callE m_times [(slotE 2), (slotE 1)])])]) (opNE reprD [(slotE 7)]))) (retS (dataE (.bool false))) skipS) (seqS (ifS (boolE (op2E neD (opNE reprD [(lstE [(callKE m_stepped 0 3 [2, 1, 0] [] [(slotE 6), (slotE 5), (slotE 1)]), (callKE m_times 0 2 [1, 0] [] [(slotE 1), (slotE 2)])])]) (opNE reprD [(slotE 7)]))) (retS (dataE (.bool false))) skipS) (seqS (setS 8 (op2E addD (callE m_times [(slotE 2), (callE m_lower [(slotE 1), (slotE 3)])]) (callE m_times [(slotE 2), (callE m_upper [(slotE 1), (slotE 3)])]))) (retS (op2E eqD (opNE reprD [(slotE 8)]) (opNE reprD [(op2E addD (op2E ixD (slotE 7) (dataE (.int 1))) (callE m__law_times [(slotE 2), (slotE 3)]))]))))))))))
def m__law_are_steps_right : Fm := runF 4 10 [0, 1, 2, 3] g__law_are_steps_right
theorem len__law_are_steps_right : ∀ ms, ms.length ≠ 4 → m__law_are_steps_right ms = .no := runF_len _ _ _ _
abbrev st_law : Stmt := topS 22
theorem sc_law : FnScope ["script", "pot", "turn", "places", "one", "other", "prices", "others"] ["script"] (defScope st_law) := ⟨rfl, rfl, rfl, by decide +kernel, rfl, by decide +kernel, by decide +kernel⟩
def g_law : Sf := (seqS (setS 1 (callE m__law_pot [(slotE 0)])) (seqS (forS (itRange1 [(dataE (.int 12))]) (tgName 2) (seqS (setS 3 (op2E addD (dataE (.int 1)) (callE drawFA [(slotE 1), (dataE (.int 4))]))) (seqS (parS 4 5 (callE m__law_far_point [(slotE 1), (slotE 3)]) (callE m__law_far_point [(slotE 1), (slotE 3)])) (seqS (parS 6 7 (callE m__law_some_prices [(slotE 1), (slotE 3)]) (callE m__law_some_prices [(slotE 1), (slotE 3)])) (seqS (ifS (boolE (op2E eqD (slotE 2) (dataE (.int 0)))) (setS 5 (slotE 4)) skipS) (seqS (ifS (orT (notT (testE (callE m__law_are_points_right [(slotE 1), (slotE 4), (slotE 5)]))) (notT (testE (callE m__law_are_points_right [(slotE 1), (slotE 6), (slotE 7)])))) (retS (dataE (.bool false))) skipS) (ifS (orT (notT (testE (callE m__law_are_steps_right [(slotE 1), (slotE 4), (slotE 6), (slotE 5)]))) (notT (testE (callE m__law_are_steps_right [(slotE 1), (slotE 6), (slotE 7), (slotE 4)])))) (retS (dataE (.bool false))) skipS))))))) (retS (dataE (.bool true)))))
def m_law : Fm := runF 1 8 [0] g_law
theorem len_law : ∀ ms, ms.length ≠ 1 → m_law ms = .no := runF_len _ _ _ _
section
variable {xr : XR} {P : Program} {w : World} {K : PySem.W.Frag} {mg : Str → Option Value} {base : Heap}
theorem rev_snoc {α : Type} {l : List α} {x : α} {r : List α} (h : l.reverse = x :: r) : l = r.reverse ++ [x] := by
  have := congrArg List.reverse h
  simpa using this
theorem drawn_law_of {f : Addr} {fd : FuncData} (F : Fun K "_law_of" "_law_of" st__law_of f fd) : FnG P w K mg base 1 f fd ["pot", "many"] (spOf xr K 2 drawFA) := by
  refine fnG_raw F sc__law_of (fun _ _ _ _ q => q.1) fun cdv A outer s H vs Q E hr hG q => ?_
  obtain ⟨_, ms, fp, r, p⟩ := q
  rcases drawFA_inv ms with z | ⟨cells, a, b, many, rfl, hm, hc, eF⟩
  · rw [z] at p; exact p.elim
  · rw [eF] at p
    obtain ⟨v0, e0, r0⟩ := r.at_ 0 _ rfl
    obtain ⟨v1, e1, r1⟩ := r.at_ 1 _ rfl
    generalize ef0 : fp 0 = f0 at r0
    generalize ef1 : fp 1 = f1 at r1
    have ev : vs = [v0, v1] := by
      have hl := r.len
      match vs, e0, e1, hl with
      | [x, y], e0, e1, hl =>
        cases e0; cases e1; rfl
    subst ev
    cases r1 with
    | fz z =>
      cases fz_int z
      cases r0 with
      | rs r0 =>
        cases r0 with
        | @k0 p0 c0 _ _ _ ne hp hc0 =>
          -- what holds at the end, for cells and a count
          have fin : ∀ (H' : Hp) (val : Int) (cells' : List Int) (b' : Int), H' p0 = some (.lst [.ref c0, .int a, .int b']) → H' c0 = some (.lst (cells'.map V.int)) → (∀ x o, x ≠ p0 → x ≠ c0 → H x = some o → H' x = some o) → (∀ x, H' x = none → H x = none) →
              drawA cells a b many = (val, cells', b') → Q (.int val) H' := by
            intro H' val cells' b' h1 h2 h3 h3b h4
            rw [h4] at p
            refine p _ H' fp [] ⟨fun i mv e => ?_, fun i h => ?_, r.dis, rfl⟩ (.fz (.int _)) (fun b hb => by cases hb) (fun b hb => by cases hb) ⟨fun i x hx => .inl ⟨i, hx⟩, fun x o e n => ?_, fun x hx => ?_⟩
            · match i, e with
              | 0, e => cases e; exact ⟨_, rfl, by rw [ef0]; exact .rs (.k0 ne h1 h2)⟩
              | 1, e => cases e; exact ⟨_, rfl, by rw [ef1]; exact .fz (.int _)⟩
            · exact r.emp i fun mv q => by
                match i, q with
                | 0, q => exact h _ rfl
                | 1, q => exact h _ rfl
            · exact h3 x o (fun z => n 0 (by rw [ef0, z]; simp)) (fun z => n 0 (by rw [ef0, z]; simp)) e
            · exact h3b x hx
          refine ⟨_, pss_cons (ps_if (pt_cmpR op_lt (pv 1) pe_int (nomark _)) (pss_one (ps_ret pe_int)) pss_nil)
            (pss_cons (ps_if (pt_cmpR (op_neD hr.units) (pe_ix ix_list (pv 0) pe_int (fun _ _ => rfl)) (pe_lst pa_nil) (nomark _))
              (pss_cons (ps_set (i := 2) sc__law_of.nd rfl (.inl rfl) (pe_bm0 PySem.F.plainAttrs_list PySem.F.slot_list_pop PySem.F.type_list_pop mt_pop (pe_ix ix_list (pv 0) pe_int (fun _ _ => rfl))))
              (pss_cons (ps_if (pt_cmpR op_ge (pv 2) (pv 1) (nomark _)) (pss_one (ps_expr (pe_bm PySem.F.plainAttrs_list PySem.F.slot_list_append PySem.F.type_list_append mt_append (pe_ix ix_list (pv 0) pe_int (fun _ _ => rfl)) (pa_cons (pe_op op_fdivN (pv 2) (pv 1)) pa_nil)))) pss_nil)
              (pss_one (ps_ret (pe_op op_modN (pv 2) (pv 1)))))) pss_nil)
            (pss_cons (ps_asg (pe_op op_add (pe_ix ix_list (pv 0) pe_int (fun _ _ => rfl)) pe_int) (pg_sub (pv 0) pe_int set_list))
            (pss_cons (ps_set (i := 3) sc__law_of.nd rfl (.inl rfl) (pe_op op_mod (pe_op op_add (pe_ix ix_list (pv 0) pe_int (fun _ _ => rfl)) (pe_op op_mul (pe_ix ix_list (pv 0) pe_int (fun _ _ => rfl)) pe_int)) pe_int))
            (pss_cons (ps_set (i := 3) sc__law_of.nd rfl (.inl rfl) (pe_op op_mod (pe_op op_add (pe_op op_add (pe_op op_mul (pv 3) (pv 3)) (pe_op op_mul (pe_ix ix_list (pv 0) pe_int (fun _ _ => rfl)) pe_int)) pe_int) pe_int))
            (pss_cons (ps_set (i := 3) sc__law_of.nd rfl (.inl rfl) (pe_op op_mod (pe_op op_add (pe_op op_mul (pv 3) (pv 3)) (pe_ix ix_list (pv 0) pe_int (fun _ _ => rfl))) pe_int))
            (pss_one (ps_ret (pe_op op_modN (pe_op op_fdiv (pv 3) pe_int) (pv 1))))))))), ?_⟩
          refine ⟨_, rfl, _, _, rfl, rfl, _, rfl, ite2 (fun h => ?_) (fun h => ?_)⟩
          · have h := of_decide_eq_true h
            exact fin H 0 cells b hp hc0 (fun _ _ _ _ e => e) (fun _ e => e) (by unfold drawA; rw [if_pos h])
          · have h : ¬ many < 2 := fun z => h (decide_eq_true z)
            refine ⟨.ref p0, rfl, p0, _, 0, .ref c0, rfl, rfl, .of hp, rfl, Nat.zero_le _, fun o no => ?_⟩
            have oc : c0 ≠ o := ne_of_none hc0 no
            have op : p0 ≠ o := ne_of_none hp no
            have hp1 : (upd H o (.lst [])) p0 = some (.lst [.ref c0, .int a, .int b]) := by rw [upd_ne op]; exact hp
            have hc1 : (upd H o (.lst [])) c0 = some (.lst (cells.map V.int)) := by rw [upd_ne oc]; exact hc0
            have sm1 : ∀ x u, H x = some u → (upd H o (.lst [])) x = some u := fun x u e => by rw [upd_ne (ne_of_none e no)]; exact e
            generalize hH1 : upd H o (.lst []) = H1 at hp1 hc1 sm1
            have ho1 : H1 o = some (.lst []) := by rw [← hH1]; exact upd_same
            have no1 : ∀ x, H1 x = none → H x = none := fun x e => by rw [← hH1] at e; exact upd_trk e
            refine ⟨.list (cells.map .int), .list [], .lst (.of hc1) (FzAll.dp (FzAll.ints cells)), .lst (.of ho1) .nil, shaped_ints cells, rfl, _, rfl, ite2 (fun h2 => ?_) (fun h2 => ?_)⟩
            · -- a cell is taken
              cases er : cells.reverse with
              | nil =>
                have : cells = [] := by simpa using er
                subst this
                cases h2
              | cons cell rest =>
                have ec := rev_snoc er
                have ed : drawA cells a b many = (cell % many, if cell ≥ many then rest.reverse ++ [cell / many] else rest.reverse, b) := by
                  unfold drawA; rw [if_neg h, er]
                have eg : (cells.map V.int)[(cells.map V.int).length - 1]? = some (.int cell) := by rw [ec]; simp
                have edl : (cells.map V.int).dropLast = rest.reverse.map V.int := by rw [ec]; simp
                refine ⟨.ref p0, rfl, p0, _, 0, .ref c0, rfl, rfl, .of hp1, rfl, .inl ⟨rfl, _, .of hc1⟩, c0, _, .int cell, rfl, rfl, hc1, eg, ?_⟩
                rw [edl]
                have hp2 : (upd H1 c0 (.lst (rest.reverse.map V.int))) p0 = some (.lst [.ref c0, .int a, .int b]) := by rw [upd_ne ne]; exact hp1
                refine ⟨_, rfl, _, rfl, _, _, rfl, rfl, _, rfl, ite2 (fun h3 => ?_) (fun h3 => ?_)⟩
                · have h3 : many ≤ cell := of_decide_eq_true h3
                  refine ⟨.ref p0, rfl, p0, _, 0, .ref c0, rfl, rfl, .of hp2, rfl, .inl ⟨rfl, _, .of upd_same⟩, _, rfl, _, rfl, cell, many, rfl, rfl, ⟨by omega, by omega⟩, c0, _, _, rfl, rfl, upd_same, ?_, ?_⟩
                  · have hl : cells.length = rest.length + 1 := by rw [ec]; simp
                    rw [List.length_map, List.length_reverse, sizeLine_eq]; omega
                  · refine ⟨_, rfl, _, rfl, cell, many, rfl, rfl, (by omega), ?_⟩
                    rw [if_pos h3] at ed
                    show Q (.int (cell.fmod many)) (upd (upd H1 c0 (.lst (rest.reverse.map V.int))) c0 (.lst (rest.reverse.map V.int ++ [.int (cell.fdiv many)])))
                    rw [upd_upd]
                    have e1 : cell.fdiv many = cell / many := Int.fdiv_eq_ediv_of_nonneg _ (by omega)
                    have e2 : cell.fmod many = cell % many := Int.fmod_eq_emod_of_nonneg _ (by omega)
                    rw [e1, e2]
                    refine fin _ _ _ _ ?_ (by rw [upd_same, List.map_append]; rfl) (fun x u n1 n2 e => ?_) (fun x e => no1 x (upd_trk e)) ed
                    · rw [upd_ne ne]; exact hp1
                    · rw [upd_ne n2]; exact sm1 x u e
                · have h3 : ¬ many ≤ cell := fun z => h3 (decide_eq_true z)
                  refine ⟨_, rfl, _, rfl, cell, many, rfl, rfl, (by omega), ?_⟩
                  rw [if_neg h3] at ed
                  have e2 : cell.fmod many = cell % many := Int.fmod_eq_emod_of_nonneg _ (by omega)
                  show Q (.int (cell.fmod many)) (upd H1 c0 (.lst (rest.reverse.map V.int)))
                  rw [e2]
                  refine fin _ _ _ _ hp2 upd_same (fun x u n1 n2 e => ?_) (fun x e => no1 x (upd_trk e)) ed
                  rw [upd_ne n2]; exact sm1 x u e
            · -- the mixed number
              have e0 : cells = [] := by
                cases cells with
                | nil => rfl
                | cons x r => exact absurd rfl h2
              subst e0
              refine ⟨.ref p0, rfl, p0, _, 2, .int b, rfl, rfl, .of hp1, rfl, b, 1, rfl, rfl, .ref p0, rfl, p0, _, 2, 2, rfl, rfl, hp1, rfl, ?_⟩
              have hp2 : (upd H1 p0 (.lst [.ref c0, .int a, .int (b + 1)])) p0 = some (.lst [.ref c0, .int a, .int (b + 1)]) := upd_same
              have hc2 : (upd H1 p0 (.lst [.ref c0, .int a, .int (b + 1)])) c0 = some (.lst (([] : List Int).map V.int)) := by rw [upd_ne ne.symm]; exact hc1
              refine ⟨.ref p0, rfl, p0, _, 1, .int a, rfl, rfl, .of hp2, rfl, .ref p0, rfl, p0, _, 2, .int (b + 1), rfl, rfl, .of hp2, rfl, b + 1, 2654435761, rfl, rfl, .inr (by decide), a, (b + 1) * 2654435761, rfl, rfl, _, 4294967279, rfl, rfl, (by show (0 : Int) < 4294967279; decide), ?_⟩
              have n1b : ∀ x : Int, -(2 ^ 64) < x % 4294967279 ∧ x % 4294967279 < 2 ^ 64 := fun x => ⟨by omega, by omega⟩
              have n2b : ∀ x : Int, -(2 ^ 64) < x % 4294967231 ∧ x % 4294967231 < 2 ^ 64 := fun x => ⟨by omega, by omega⟩
              refine ⟨_, rfl, _, rfl, _, _, rfl, rfl, .inl (n1b _), .ref p0, rfl, p0, _, 2, .int (b + 1), rfl, rfl, .of hp2, rfl, b + 1, 40503, rfl, rfl, .inr (by decide), _, _, rfl, rfl, _, 5, rfl, rfl, _, 4294967231, rfl, rfl, (by show (0 : Int) < 4294967231; decide), ?_⟩
              refine ⟨_, rfl, _, rfl, _, _, rfl, rfl, .inl (n2b _), .ref p0, rfl, p0, _, 1, .int a, rfl, rfl, .of hp2, rfl, _, a, rfl, rfl, _, 4294967291, rfl, rfl, (by show (0 : Int) < 4294967291; decide), ?_⟩
              refine ⟨_, rfl, _, 256, rfl, rfl, ⟨by decide, by decide⟩, _, rfl, _, many, rfl, rfl, (by omega), ?_⟩
              show Q (.int (Int.fmod _ many)) _
              rw [Int.fmod_eq_emod_of_nonneg _ (show (0 : Int) ≤ many by omega)]
              refine fin _ _ [] (b + 1) hp2 hc2 (fun x u n1 n2 e => ?_) (fun x e => no1 x (upd_trk e)) ?_
              · rw [upd_ne n1]; exact sm1 x u e
              · unfold drawA
                rw [if_neg h]
                rfl
end
/-- what the top has written -/
structure Top (K : PySem.W.Frag) (mg : Str → Option Value) where
  a_over : Addr
  d_over : FuncData
  F_over : Fun K "over" "over" st_over a_over d_over
  g_over : mg "over" = some (.ref a_over)
  a_distance : Addr
  d_distance : FuncData
  F_distance : Fun K "distance" "distance" st_distance a_distance d_distance
  g_distance : mg "distance" = some (.ref a_distance)
  a_lower : Addr
  d_lower : FuncData
  F_lower : Fun K "lower" "lower" st_lower a_lower d_lower
  g_lower : mg "lower" = some (.ref a_lower)
  a_upper : Addr
  d_upper : FuncData
  F_upper : Fun K "upper" "upper" st_upper a_upper d_upper
  g_upper : mg "upper" = some (.ref a_upper)
  a_stepped : Addr
  d_stepped : FuncData
  F_stepped : Fun K "stepped" "stepped" st_stepped a_stepped d_stepped
  g_stepped : mg "stepped" = some (.ref a_stepped)
  a_times : Addr
  d_times : FuncData
  F_times : Fun K "times" "times" st_times a_times d_times
  g_times : mg "times" = some (.ref a_times)
  a__law_pot : Addr
  d__law_pot : FuncData
  F__law_pot : Fun K "_law_pot" "_law_pot" st__law_pot a__law_pot d__law_pot
  g__law_pot : mg "_law_pot" = some (.ref a__law_pot)
  a__law_of : Addr
  d__law_of : FuncData
  F__law_of : Fun K "_law_of" "_law_of" st__law_of a__law_of d__law_of
  g__law_of : mg "_law_of" = some (.ref a__law_of)
  a__law_one : Addr
  d__law_one : FuncData
  F__law_one : Fun K "_law_one" "_law_one" st__law_one a__law_one d__law_one
  g__law_one : mg "_law_one" = some (.ref a__law_one)
  a__law_from : Addr
  d__law_from : FuncData
  F__law_from : Fun K "_law_from" "_law_from" st__law_from a__law_from d__law_from
  g__law_from : mg "_law_from" = some (.ref a__law_from)
  a__law_over : Addr
  d__law_over : FuncData
  F__law_over : Fun K "_law_over" "_law_over" st__law_over a__law_over d__law_over
  g__law_over : mg "_law_over" = some (.ref a__law_over)
  a__law_distance : Addr
  d__law_distance : FuncData
  F__law_distance : Fun K "_law_distance" "_law_distance" st__law_distance a__law_distance d__law_distance
  g__law_distance : mg "_law_distance" = some (.ref a__law_distance)
  a__law_lower : Addr
  d__law_lower : FuncData
  F__law_lower : Fun K "_law_lower" "_law_lower" st__law_lower a__law_lower d__law_lower
  g__law_lower : mg "_law_lower" = some (.ref a__law_lower)
  a__law_upper : Addr
  d__law_upper : FuncData
  F__law_upper : Fun K "_law_upper" "_law_upper" st__law_upper a__law_upper d__law_upper
  g__law_upper : mg "_law_upper" = some (.ref a__law_upper)
  a__law_stepped : Addr
  d__law_stepped : FuncData
  F__law_stepped : Fun K "_law_stepped" "_law_stepped" st__law_stepped a__law_stepped d__law_stepped
  g__law_stepped : mg "_law_stepped" = some (.ref a__law_stepped)
  a__law_times : Addr
  d__law_times : FuncData
  F__law_times : Fun K "_law_times" "_law_times" st__law_times a__law_times d__law_times
  g__law_times : mg "_law_times" = some (.ref a__law_times)
  a__law_far_point : Addr
  d__law_far_point : FuncData
  F__law_far_point : Fun K "_law_far_point" "_law_far_point" st__law_far_point a__law_far_point d__law_far_point
  g__law_far_point : mg "_law_far_point" = some (.ref a__law_far_point)
  a__law_some_prices : Addr
  d__law_some_prices : FuncData
  F__law_some_prices : Fun K "_law_some_prices" "_law_some_prices" st__law_some_prices a__law_some_prices d__law_some_prices
  g__law_some_prices : mg "_law_some_prices" = some (.ref a__law_some_prices)
  a__law_are_points_right : Addr
  d__law_are_points_right : FuncData
  F__law_are_points_right : Fun K "_law_are_points_right" "_law_are_points_right" st__law_are_points_right a__law_are_points_right d__law_are_points_right
  g__law_are_points_right : mg "_law_are_points_right" = some (.ref a__law_are_points_right)
  a__law_are_steps_right : Addr
  d__law_are_steps_right : FuncData
  F__law_are_steps_right : Fun K "_law_are_steps_right" "_law_are_steps_right" st__law_are_steps_right a__law_are_steps_right d__law_are_steps_right
  g__law_are_steps_right : mg "_law_are_steps_right" = some (.ref a__law_are_steps_right)
  a_law : Addr
  d_law : FuncData
  F_law : Fun K "law" "law" st_law a_law d_law
  g_law : mg "law" = some (.ref a_law)
  z_abs : mg "abs" = none
  z_enumerate : mg "enumerate" = none
  z_int : mg "int" = none
  z_len : mg "len" = none
  z_max : mg "max" = none
  z_min : mg "min" = none
  z_range : mg "range" = none
  z_repr : mg "repr" = none
  z_sum : mg "sum" = none
  z_tuple : mg "tuple" = none
  z_zip : mg "zip" = none
section
variable {xr : XR} {P : Program} {w : World} {K : PySem.W.Frag} {mg : Str → Option Value} {base : Heap}
theorem b_over (T : Top K mg) : Binds K T.d_over ["one", "other"] [] := T.F_over.binds fun _ _ _ _ _ _ us hl => match us, hl with | [_, _], _ => rfl
theorem b_distance (T : Top K mg) : Binds K T.d_distance ["one", "other"] [] := T.F_distance.binds fun _ _ _ _ _ _ us hl => match us, hl with | [_, _], _ => rfl
theorem b_lower (T : Top K mg) : Binds K T.d_lower ["one", "other"] [] := T.F_lower.binds fun _ _ _ _ _ _ us hl => match us, hl with | [_, _], _ => rfl
theorem b_upper (T : Top K mg) : Binds K T.d_upper ["one", "other"] [] := T.F_upper.binds fun _ _ _ _ _ _ us hl => match us, hl with | [_, _], _ => rfl
theorem b_stepped (T : Top K mg) : Binds K T.d_stepped ["point", "ups", "downs"] [] := T.F_stepped.binds fun _ _ _ _ _ _ us hl => match us, hl with | [_, _, _], _ => rfl
theorem b_times (T : Top K mg) : Binds K T.d_times ["prices", "point"] [] := T.F_times.binds fun _ _ _ _ _ _ us hl => match us, hl with | [_, _], _ => rfl
theorem b__law_pot (T : Top K mg) : Binds K T.d__law_pot ["script"] [] := T.F__law_pot.binds fun _ _ _ _ _ _ us hl => match us, hl with | [_], _ => rfl
theorem b__law_of (T : Top K mg) : Binds K T.d__law_of ["pot", "many"] [] := T.F__law_of.binds fun _ _ _ _ _ _ us hl => match us, hl with | [_, _], _ => rfl
theorem b__law_one (T : Top K mg) : Binds K T.d__law_one ["pot", "items"] [] := T.F__law_one.binds fun _ _ _ _ _ _ us hl => match us, hl with | [_, _], _ => rfl
theorem b__law_from (T : Top K mg) : Binds K T.d__law_from ["pot", "low", "high"] [] := T.F__law_from.binds fun _ _ _ _ _ _ us hl => match us, hl with | [_, _, _], _ => rfl
theorem b__law_over (T : Top K mg) : Binds K T.d__law_over ["one", "other"] [] := T.F__law_over.binds fun _ _ _ _ _ _ us hl => match us, hl with | [_, _], _ => rfl
theorem b__law_distance (T : Top K mg) : Binds K T.d__law_distance ["one", "other"] [] := T.F__law_distance.binds fun _ _ _ _ _ _ us hl => match us, hl with | [_, _], _ => rfl
theorem b__law_lower (T : Top K mg) : Binds K T.d__law_lower ["one", "other"] [] := T.F__law_lower.binds fun _ _ _ _ _ _ us hl => match us, hl with | [_, _], _ => rfl
theorem b__law_upper (T : Top K mg) : Binds K T.d__law_upper ["one", "other"] [] := T.F__law_upper.binds fun _ _ _ _ _ _ us hl => match us, hl with | [_, _], _ => rfl
theorem b__law_stepped (T : Top K mg) : Binds K T.d__law_stepped ["point", "ups", "downs"] [] := T.F__law_stepped.binds fun _ _ _ _ _ _ us hl => match us, hl with | [_, _, _], _ => rfl
theorem b__law_times (T : Top K mg) : Binds K T.d__law_times ["prices", "point"] [] := T.F__law_times.binds fun _ _ _ _ _ _ us hl => match us, hl with | [_, _], _ => rfl
theorem b__law_far_point (T : Top K mg) : Binds K T.d__law_far_point ["pot", "places"] [] := T.F__law_far_point.binds fun _ _ _ _ _ _ us hl => match us, hl with | [_, _], _ => rfl
theorem b__law_some_prices (T : Top K mg) : Binds K T.d__law_some_prices ["pot", "places"] [] := T.F__law_some_prices.binds fun _ _ _ _ _ _ us hl => match us, hl with | [_, _], _ => rfl
theorem b__law_are_points_right (T : Top K mg) : Binds K T.d__law_are_points_right ["pot", "one", "other"] [] := T.F__law_are_points_right.binds fun _ _ _ _ _ _ us hl => match us, hl with | [_, _, _], _ => rfl
theorem b__law_are_steps_right (T : Top K mg) : Binds K T.d__law_are_steps_right ["pot", "point", "prices", "other"] [] := T.F__law_are_steps_right.binds fun _ _ _ _ _ _ us hl => match us, hl with | [_, _, _, _], _ => rfl
theorem b_law (T : Top K mg) : Binds K T.d_law ["script"] [] := T.F_law.binds fun _ _ _ _ _ _ us hl => match us, hl with | [_], _ => rfl
theorem kb_distance_0_other_one (T : Top K mg) : KBp K T.d_distance ["one", "other"] ["other", "one"] 0 [1, 0] := kb_mk T.F_distance fun _ _ _ _ _ _ us ws h1 h2 => match us, h1, ws, h2 with | [], _, [_, _], _ => rfl
theorem kb_lower_0_other_one (T : Top K mg) : KBp K T.d_lower ["one", "other"] ["other", "one"] 0 [1, 0] := kb_mk T.F_lower fun _ _ _ _ _ _ us ws h1 h2 => match us, h1, ws, h2 with | [], _, [_, _], _ => rfl
theorem kb_over_0_other_one (T : Top K mg) : KBp K T.d_over ["one", "other"] ["other", "one"] 0 [1, 0] := kb_mk T.F_over fun _ _ _ _ _ _ us ws h1 h2 => match us, h1, ws, h2 with | [], _, [_, _], _ => rfl
theorem kb_stepped_0_downs_ups_point (T : Top K mg) : KBp K T.d_stepped ["point", "ups", "downs"] ["downs", "ups", "point"] 0 [2, 1, 0] := kb_mk T.F_stepped fun _ _ _ _ _ _ us ws h1 h2 => match us, h1, ws, h2 with | [], _, [_, _, _], _ => rfl
theorem kb_times_0_point_prices (T : Top K mg) : KBp K T.d_times ["prices", "point"] ["point", "prices"] 0 [1, 0] := kb_mk T.F_times fun _ _ _ _ _ _ us ws h1 h2 => match us, h1, ws, h2 with | [], _, [_, _], _ => rfl
theorem kb_upper_0_other_one (T : Top K mg) : KBp K T.d_upper ["one", "other"] ["other", "one"] 0 [1, 0] := kb_mk T.F_upper fun _ _ _ _ _ _ us ws h1 h2 => match us, h1, ws, h2 with | [], _, [_, _], _ => rfl
theorem ok_over (T : Top K mg) : FnG P w K mg base 1 T.a_over T.d_over ["one", "other"] (spOf xr K 2 m_over) := by
  have h := fnG_of (xr := xr) (P := P) (w := w) (K := K) (mg := mg) (base := base) (k := 0) T.F_over sc_over (ro := [0, 1]) (g := g_over) fun cdv A outer s H vs E hr hG => (ss_one (by exact (ss_ret (sd_callTy call_tuple_of opd_tuple (by rfl) T.z_tuple rfl (sa_cons (sd_lc1 rfl sc_over.nd (si_range1 (by rfl) T.z_range (sa_cons (sd_callB opr_len opd_len (by rfl) T.z_len rfl (sa_cons (sd_name 0 rfl (.inr (.inl rfl))) sa_nil)) sa_nil)) (own := [("place", 2)]) (blkOk_by (by rfl)) (by decide) (fun _ _ _ _ _ => (sg_name sc_over.nd rfl (.inl rfl) (.inr rfl))) (fun _ _ _ _ _ => (sd_cmpT op_gt (opd_cmp _) (sd_ix ix_seq opd_ix (sd_name 0 rfl (.inr (.inl rfl))) (sd_name 2 rfl (.inl rfl)) (fun _ _ => rfl)) (sd_ix ix_seq opd_ix (sd_name 1 rfl (.inr (.inl rfl))) (sd_name 2 rfl (.inl rfl)) (fun _ _ => rfl)) (nomark _))) (fun _ _ _ _ _ => (sd_name 2 rfl (.inl rfl)))) sa_nil)))))
  exact h
theorem ok_distance (T : Top K mg) : FnG P w K mg base 1 T.a_distance T.d_distance ["one", "other"] (spOf xr K 2 m_distance) := by
  have h := fnG_of (xr := xr) (P := P) (w := w) (K := K) (mg := mg) (base := base) (k := 0) T.F_distance sc_distance (ro := [0, 1]) (g := g_distance) fun cdv A outer s H vs E hr hG => (ss_one (by exact (ss_ret (sd_callB (cr_sum rfl) opd_sum (by rfl) T.z_sum rfl (sa_cons (sd_lc0 rfl sc_distance.nd (si_zip (by rfl) T.z_zip (sad_cons (sd_name 0 rfl (.inl rfl)) (sad_cons (sd_name 1 rfl (.inl rfl)) sad_nil))) (own := [("first", 2), ("second", 3)]) (blkOk_by (by rfl)) (by decide) (fun _ _ _ _ _ => (sg_tup rfl (sgs_cons (sg_name sc_distance.nd rfl (.inl rfl) (.inr rfl)) (sgs_cons (sg_name sc_distance.nd rfl (.inl rfl) (.inr rfl)) sgs_nil)))) (fun _ _ _ _ _ => (sd_callB call_abs opd_abs (by rfl) T.z_abs rfl (sa_cons (sd_bin op_sub opd_sub (sd_name 2 rfl (.inl rfl)) (sd_name 3 rfl (.inl rfl))) sa_nil)))) sa_nil)))))
  exact h
theorem ok_lower (T : Top K mg) : FnG P w K mg base 1 T.a_lower T.d_lower ["one", "other"] (spOf xr K 2 m_lower) := by
  have h := fnG_of (xr := xr) (P := P) (w := w) (K := K) (mg := mg) (base := base) (k := 0) T.F_lower sc_lower (ro := [0, 1]) (g := g_lower) fun cdv A outer s H vs E hr hG => (ss_one (by exact (ss_ret (sd_callTy call_tuple_of opd_tuple (by rfl) T.z_tuple rfl (sa_cons (sd_lc0 rfl sc_lower.nd (si_zip (by rfl) T.z_zip (sad_cons (sd_name 0 rfl (.inl rfl)) (sad_cons (sd_name 1 rfl (.inl rfl)) sad_nil))) (own := [("first", 2), ("second", 3)]) (blkOk_by (by rfl)) (by decide) (fun _ _ _ _ _ => (sg_tup rfl (sgs_cons (sg_name sc_lower.nd rfl (.inl rfl) (.inr rfl)) (sgs_cons (sg_name sc_lower.nd rfl (.inl rfl) (.inr rfl)) sgs_nil)))) (fun _ _ _ _ _ => (sd_callB (call_min2 rfl) opd_min2 (by rfl) T.z_min rfl (sa_cons (sd_name 2 rfl (.inl rfl)) (sa_cons (sd_name 3 rfl (.inl rfl)) sa_nil))))) sa_nil)))))
  exact h
theorem ok_upper (T : Top K mg) : FnG P w K mg base 1 T.a_upper T.d_upper ["one", "other"] (spOf xr K 2 m_upper) := by
  have h := fnG_of (xr := xr) (P := P) (w := w) (K := K) (mg := mg) (base := base) (k := 0) T.F_upper sc_upper (ro := [0, 1]) (g := g_upper) fun cdv A outer s H vs E hr hG => (ss_one (by exact (ss_ret (sd_callTy call_tuple_of opd_tuple (by rfl) T.z_tuple rfl (sa_cons (sd_lc0 rfl sc_upper.nd (si_zip (by rfl) T.z_zip (sad_cons (sd_name 0 rfl (.inl rfl)) (sad_cons (sd_name 1 rfl (.inl rfl)) sad_nil))) (own := [("first", 2), ("second", 3)]) (blkOk_by (by rfl)) (by decide) (fun _ _ _ _ _ => (sg_tup rfl (sgs_cons (sg_name sc_upper.nd rfl (.inl rfl) (.inr rfl)) (sgs_cons (sg_name sc_upper.nd rfl (.inl rfl) (.inr rfl)) sgs_nil)))) (fun _ _ _ _ _ => (sd_callB (call_max2 rfl) opd_max2 (by rfl) T.z_max rfl (sa_cons (sd_name 2 rfl (.inl rfl)) (sa_cons (sd_name 3 rfl (.inl rfl)) sa_nil))))) sa_nil)))))
  exact h
theorem ok_stepped (T : Top K mg) : FnG P w K mg base 1 T.a_stepped T.d_stepped ["point", "ups", "downs"] (spOf xr K 3 m_stepped) := by
  have h := fnG_of (xr := xr) (P := P) (w := w) (K := K) (mg := mg) (base := base) (k := 0) T.F_stepped sc_stepped (ro := [0, 1, 2]) (g := g_stepped) fun cdv A outer s H vs E hr hG => (ss_one (by exact (ss_ret (sd_callTy call_tuple_of opd_tuple (by rfl) T.z_tuple rfl (sa_cons (sd_lc0 rfl sc_stepped.nd (si_enum (by rfl) T.z_enumerate (sd_name 0 rfl (.inl rfl))) (own := [("place", 3), ("item", 4)]) (blkOk_by (by rfl)) (by decide) (fun _ _ _ _ _ => (sg_tup rfl (sgs_cons (sg_name sc_stepped.nd rfl (.inl rfl) (.inr rfl)) (sgs_cons (sg_name sc_stepped.nd rfl (.inl rfl) (.inr rfl)) sgs_nil)))) (fun _ _ _ _ _ => (sd_bin op_sub opd_sub (sd_bin opr_add opd_add (sd_name 4 rfl (.inl rfl)) (sd_callTy call_int1 opd_int1 (by rfl) T.z_int rfl (sa_cons (sd_cmp (opr_in hr.units65) (opd_in _) (sd_name 3 rfl (.inl rfl)) (sd_name 1 rfl (.inr (.inl rfl))) (by with_unfolding_all rfl)) sa_nil))) (sd_callTy call_int1 opd_int1 (by rfl) T.z_int rfl (sa_cons (sd_cmp (opr_in hr.units65) (opd_in _) (sd_name 3 rfl (.inl rfl)) (sd_name 2 rfl (.inr (.inl rfl))) (by with_unfolding_all rfl)) sa_nil))))) sa_nil)))))
  exact h
theorem ok_times (T : Top K mg) : FnG P w K mg base 1 T.a_times T.d_times ["prices", "point"] (spOf xr K 2 m_times) := by
  have h := fnG_of (xr := xr) (P := P) (w := w) (K := K) (mg := mg) (base := base) (k := 0) T.F_times sc_times (ro := [0, 1]) (g := g_times) fun cdv A outer s H vs E hr hG => (ss_one (by exact (ss_ret (sd_callB (cr_sum rfl) opd_sum (by rfl) T.z_sum rfl (sa_cons (sd_lc0 rfl sc_times.nd (si_zip (by rfl) T.z_zip (sad_cons (sd_name 0 rfl (.inl rfl)) (sad_cons (sd_name 1 rfl (.inl rfl)) sad_nil))) (own := [("price", 2), ("item", 3)]) (blkOk_by (by rfl)) (by decide) (fun _ _ _ _ _ => (sg_tup rfl (sgs_cons (sg_name sc_times.nd rfl (.inl rfl) (.inr rfl)) (sgs_cons (sg_name sc_times.nd rfl (.inl rfl) (.inr rfl)) sgs_nil)))) (fun _ _ _ _ _ => (sd_bin opr_mul opd_mulD (sd_name 2 rfl (.inl rfl)) (sd_name 3 rfl (.inl rfl))))) sa_nil)))))
  exact h
theorem ok__law_pot (T : Top K mg) : FnG P w K mg base 1 T.a__law_pot T.d__law_pot ["script"] (spOf xr K 1 m__law_pot) := by
  have h := fnG_of (xr := xr) (P := P) (w := w) (K := K) (mg := mg) (base := base) (k := 0) T.F__law_pot sc__law_pot (ro := [0]) (g := g__law_pot) fun cdv A outer s H vs E hr hG => (ss_cons (by exact (ss_par (i := 1) (j := 2) rfl sc__law_pot.nd rfl rfl (by decide) rfl rfl (sd_lc0 rfl sc__law_pot.nd (si_seq (sd_slice (sd_name 0 rfl (.inl rfl)) sp_none (sp_some sd_int))) (own := [("cell", 3)]) (blkOk_by (by rfl)) (by decide) (fun _ _ _ _ _ => (sg_name sc__law_pot.nd rfl (.inl rfl) (.inr rfl))) (fun _ _ _ _ _ => (sd_bin opr_add opd_add (sd_bin opr_mul opd_mulD sd_int (sd_callB call_abs opd_abs (by rfl) T.z_abs rfl (sa_cons (sd_name 3 rfl (.inl rfl)) sa_nil))) (sd_callTy call_int1 opd_int1 (by rfl) T.z_int rfl (sa_cons (sd_cmp op_lt (opd_cmp _) (sd_name 3 rfl (.inl rfl)) sd_int (nomark _)) sa_nil))))) (sd_bin opr_add opd_add sd_int (sd_bin opr_mul opd_mulD sd_int (sd_callB opr_len opd_len (by rfl) T.z_len rfl (sa_cons (sd_name 0 rfl (.inl rfl)) sa_nil)))) (by decide) (by decide) (by rfl))) (ss_cons (by exact (ss_for body_passes rfl (si_seq (sd_name 1 rfl (.inl rfl))) (sg_name sc__law_pot.nd rfl (.inl rfl) (.inr rfl)) (by decide) (ss_one (by exact (ss_set (i := 2) sc__law_pot.nd rfl (.inl rfl) (sd_bin op_modN opd_mod (sd_bin opr_add opd_add (sd_bin opr_add opd_add (sd_bin opr_mul opd_mulD (sd_name 2 rfl (.inl rfl)) sd_int) (sd_name 3 rfl (.inl rfl))) sd_int) sd_int) (by decide) (.inr rfl)))))) (ss_one (by exact (ss_ret (sd_pot0 (sa_cons (sd_lc1 rfl sc__law_pot.nd (si_seq (sd_name 1 rfl (.inl rfl))) (own := [("cell", 3)]) (blkOk_by (by rfl)) (by decide) (fun _ _ _ _ _ => (sg_name sc__law_pot.nd rfl (.inl rfl) (.inr rfl))) (fun _ _ _ _ _ => (sd_cmpT op_gt (opd_cmp _) (sd_name 3 rfl (.inl rfl)) (sd_bin op_pow opd_pow sd_int sd_int) (nomark _))) (fun _ _ _ _ _ => (sd_name 3 rfl (.inl rfl)))) (sa_cons (sd_name 2 rfl (.inl rfl)) (sa_cons sd_int sa_nil)))))))))
  exact h
theorem ok__law_of (T : Top K mg) : FnG P w K mg base 1 T.a__law_of T.d__law_of ["pot", "many"] (spOf xr K 2 drawFA) := drawn_law_of T.F__law_of
theorem ok__law_one (T : Top K mg) : FnG P w K mg base 2 T.a__law_one T.d__law_one ["pot", "items"] (spOf xr K 2 m__law_one) := by
  have h := fnG_of (xr := xr) (P := P) (w := w) (K := K) (mg := mg) (base := base) (k := 1) T.F__law_one sc__law_one (ro := [0, 1]) (g := g__law_one) fun cdv A outer s H vs E hr hG => (ss_one (by exact (ss_ret (sd_ix ix_seq opd_ix (sd_name 1 rfl (.inl rfl)) (sd_call (ok__law_of T) drawFA_len (hr.mono (by decide)) hG (by rfl) T.g__law_of T.F__law_of.kp (b__law_of T) body_takes (sap_cons (sd_name 0 rfl (.inl rfl)) (sap_cons (sd_callB opr_len opd_len (by rfl) T.z_len rfl (sa_cons (sd_name 1 rfl (.inl rfl)) sa_nil)) sap_nil))) (fun _ _ => rfl)))))
  exact h
theorem ok__law_from (T : Top K mg) : FnG P w K mg base 2 T.a__law_from T.d__law_from ["pot", "low", "high"] (spOf xr K 3 m__law_from) := by
  have h := fnG_of (xr := xr) (P := P) (w := w) (K := K) (mg := mg) (base := base) (k := 1) T.F__law_from sc__law_from (ro := [0, 1, 2]) (g := g__law_from) fun cdv A outer s H vs E hr hG => (ss_one (by exact (ss_ret (sd_bin opr_add opd_add (sd_name 1 rfl (.inl rfl)) (sd_call (ok__law_of T) drawFA_len (hr.mono (by decide)) hG (by rfl) T.g__law_of T.F__law_of.kp (b__law_of T) body_takes (sap_cons (sd_name 0 rfl (.inl rfl)) (sap_cons (sd_bin opr_add opd_add (sd_bin op_sub opd_sub (sd_name 2 rfl (.inl rfl)) (sd_name 1 rfl (.inl rfl))) sd_int) sap_nil)))))))
  exact h
theorem ok__law_over (T : Top K mg) : FnG P w K mg base 1 T.a__law_over T.d__law_over ["one", "other"] (spOf xr K 2 m__law_over) := by
  have h := fnG_of (xr := xr) (P := P) (w := w) (K := K) (mg := mg) (base := base) (k := 0) T.F__law_over sc__law_over (ro := [0, 1]) (g := g__law_over) fun cdv A outer s H vs E hr hG => (ss_one (by exact (ss_ret (sd_callTy call_tuple_of opd_tuple (by rfl) T.z_tuple rfl (sa_cons (sd_lc1 rfl sc__law_over.nd (si_range1 (by rfl) T.z_range (sa_cons (sd_callB opr_len opd_len (by rfl) T.z_len rfl (sa_cons (sd_name 0 rfl (.inr (.inl rfl))) sa_nil)) sa_nil)) (own := [("i", 2)]) (blkOk_by (by rfl)) (by decide) (fun _ _ _ _ _ => (sg_name sc__law_over.nd rfl (.inl rfl) (.inr rfl))) (fun _ _ _ _ _ => (sd_cmpT op_gt (opd_cmp _) (sd_ix ix_seq opd_ix (sd_name 0 rfl (.inr (.inl rfl))) (sd_name 2 rfl (.inl rfl)) (fun _ _ => rfl)) (sd_ix ix_seq opd_ix (sd_name 1 rfl (.inr (.inl rfl))) (sd_name 2 rfl (.inl rfl)) (fun _ _ => rfl)) (nomark _))) (fun _ _ _ _ _ => (sd_name 2 rfl (.inl rfl)))) sa_nil)))))
  exact h
theorem ok__law_distance (T : Top K mg) : FnG P w K mg base 1 T.a__law_distance T.d__law_distance ["one", "other"] (spOf xr K 2 m__law_distance) := by
  have h := fnG_of (xr := xr) (P := P) (w := w) (K := K) (mg := mg) (base := base) (k := 0) T.F__law_distance sc__law_distance (ro := [0, 1]) (g := g__law_distance) fun cdv A outer s H vs E hr hG => (ss_one (by exact (ss_ret (sd_callB (cr_sum rfl) opd_sum (by rfl) T.z_sum rfl (sa_cons (sd_lc0 rfl sc__law_distance.nd (si_zip (by rfl) T.z_zip (sad_cons (sd_name 0 rfl (.inl rfl)) (sad_cons (sd_name 1 rfl (.inl rfl)) sad_nil))) (own := [("a", 2), ("b", 3)]) (blkOk_by (by rfl)) (by decide) (fun _ _ _ _ _ => (sg_tup rfl (sgs_cons (sg_name sc__law_distance.nd rfl (.inl rfl) (.inr rfl)) (sgs_cons (sg_name sc__law_distance.nd rfl (.inl rfl) (.inr rfl)) sgs_nil)))) (fun _ _ _ _ _ => (sd_callB call_abs opd_abs (by rfl) T.z_abs rfl (sa_cons (sd_bin op_sub opd_sub (sd_name 2 rfl (.inl rfl)) (sd_name 3 rfl (.inl rfl))) sa_nil)))) sa_nil)))))
  exact h
theorem ok__law_lower (T : Top K mg) : FnG P w K mg base 1 T.a__law_lower T.d__law_lower ["one", "other"] (spOf xr K 2 m__law_lower) := by
  have h := fnG_of (xr := xr) (P := P) (w := w) (K := K) (mg := mg) (base := base) (k := 0) T.F__law_lower sc__law_lower (ro := [0, 1]) (g := g__law_lower) fun cdv A outer s H vs E hr hG => (ss_one (by exact (ss_ret (sd_callTy call_tuple_of opd_tuple (by rfl) T.z_tuple rfl (sa_cons (sd_lc0 rfl sc__law_lower.nd (si_zip (by rfl) T.z_zip (sad_cons (sd_name 0 rfl (.inl rfl)) (sad_cons (sd_name 1 rfl (.inl rfl)) sad_nil))) (own := [("a", 2), ("b", 3)]) (blkOk_by (by rfl)) (by decide) (fun _ _ _ _ _ => (sg_tup rfl (sgs_cons (sg_name sc__law_lower.nd rfl (.inl rfl) (.inr rfl)) (sgs_cons (sg_name sc__law_lower.nd rfl (.inl rfl) (.inr rfl)) sgs_nil)))) (fun _ _ _ _ _ => (sd_callB (call_min2 rfl) opd_min2 (by rfl) T.z_min rfl (sa_cons (sd_name 2 rfl (.inl rfl)) (sa_cons (sd_name 3 rfl (.inl rfl)) sa_nil))))) sa_nil)))))
  exact h
theorem ok__law_upper (T : Top K mg) : FnG P w K mg base 1 T.a__law_upper T.d__law_upper ["one", "other"] (spOf xr K 2 m__law_upper) := by
  have h := fnG_of (xr := xr) (P := P) (w := w) (K := K) (mg := mg) (base := base) (k := 0) T.F__law_upper sc__law_upper (ro := [0, 1]) (g := g__law_upper) fun cdv A outer s H vs E hr hG => (ss_one (by exact (ss_ret (sd_callTy call_tuple_of opd_tuple (by rfl) T.z_tuple rfl (sa_cons (sd_lc0 rfl sc__law_upper.nd (si_zip (by rfl) T.z_zip (sad_cons (sd_name 0 rfl (.inl rfl)) (sad_cons (sd_name 1 rfl (.inl rfl)) sad_nil))) (own := [("a", 2), ("b", 3)]) (blkOk_by (by rfl)) (by decide) (fun _ _ _ _ _ => (sg_tup rfl (sgs_cons (sg_name sc__law_upper.nd rfl (.inl rfl) (.inr rfl)) (sgs_cons (sg_name sc__law_upper.nd rfl (.inl rfl) (.inr rfl)) sgs_nil)))) (fun _ _ _ _ _ => (sd_callB (call_max2 rfl) opd_max2 (by rfl) T.z_max rfl (sa_cons (sd_name 2 rfl (.inl rfl)) (sa_cons (sd_name 3 rfl (.inl rfl)) sa_nil))))) sa_nil)))))
  exact h
theorem ok__law_stepped (T : Top K mg) : FnG P w K mg base 1 T.a__law_stepped T.d__law_stepped ["point", "ups", "downs"] (spOf xr K 3 m__law_stepped) := by
  have h := fnG_of (xr := xr) (P := P) (w := w) (K := K) (mg := mg) (base := base) (k := 0) T.F__law_stepped sc__law_stepped (ro := [0, 1, 2]) (g := g__law_stepped) fun cdv A outer s H vs E hr hG => (ss_one (by exact (ss_ret (sd_callTy call_tuple_of opd_tuple (by rfl) T.z_tuple rfl (sa_cons (sd_lc0 rfl sc__law_stepped.nd (si_enum (by rfl) T.z_enumerate (sd_name 0 rfl (.inl rfl))) (own := [("i", 3), ("x", 4)]) (blkOk_by (by rfl)) (by decide) (fun _ _ _ _ _ => (sg_tup rfl (sgs_cons (sg_name sc__law_stepped.nd rfl (.inl rfl) (.inr rfl)) (sgs_cons (sg_name sc__law_stepped.nd rfl (.inl rfl) (.inr rfl)) sgs_nil)))) (fun _ _ _ _ _ => (sd_bin op_sub opd_sub (sd_bin opr_add opd_add (sd_name 4 rfl (.inl rfl)) (sd_callTy call_int1 opd_int1 (by rfl) T.z_int rfl (sa_cons (sd_cmp (opr_in hr.units65) (opd_in _) (sd_name 3 rfl (.inl rfl)) (sd_name 1 rfl (.inr (.inl rfl))) (by with_unfolding_all rfl)) sa_nil))) (sd_callTy call_int1 opd_int1 (by rfl) T.z_int rfl (sa_cons (sd_cmp (opr_in hr.units65) (opd_in _) (sd_name 3 rfl (.inl rfl)) (sd_name 2 rfl (.inr (.inl rfl))) (by with_unfolding_all rfl)) sa_nil))))) sa_nil)))))
  exact h
theorem ok__law_times (T : Top K mg) : FnG P w K mg base 1 T.a__law_times T.d__law_times ["prices", "point"] (spOf xr K 2 m__law_times) := by
  have h := fnG_of (xr := xr) (P := P) (w := w) (K := K) (mg := mg) (base := base) (k := 0) T.F__law_times sc__law_times (ro := [0, 1]) (g := g__law_times) fun cdv A outer s H vs E hr hG => (ss_one (by exact (ss_ret (sd_callB (cr_sum rfl) opd_sum (by rfl) T.z_sum rfl (sa_cons (sd_lc0 rfl sc__law_times.nd (si_zip (by rfl) T.z_zip (sad_cons (sd_name 0 rfl (.inl rfl)) (sad_cons (sd_name 1 rfl (.inl rfl)) sad_nil))) (own := [("p", 2), ("x", 3)]) (blkOk_by (by rfl)) (by decide) (fun _ _ _ _ _ => (sg_tup rfl (sgs_cons (sg_name sc__law_times.nd rfl (.inl rfl) (.inr rfl)) (sgs_cons (sg_name sc__law_times.nd rfl (.inl rfl) (.inr rfl)) sgs_nil)))) (fun _ _ _ _ _ => (sd_bin opr_mul opd_mulD (sd_name 2 rfl (.inl rfl)) (sd_name 3 rfl (.inl rfl))))) sa_nil)))))
  exact h
theorem ok__law_far_point (T : Top K mg) : FnG P w K mg base 3 T.a__law_far_point T.d__law_far_point ["pot", "places"] (spOf xr K 2 m__law_far_point) := by
  have h := fnG_of (xr := xr) (P := P) (w := w) (K := K) (mg := mg) (base := base) (k := 2) T.F__law_far_point sc__law_far_point (ro := [0, 1]) (g := g__law_far_point) fun cdv A outer s H vs E hr hG => (ss_cons (by exact (ss_if (sd_cmpT (opr_eq hr.units) opd_eq (sd_call (ok__law_of T) drawFA_len (hr.mono (by decide)) hG (by rfl) T.g__law_of T.F__law_of.kp (b__law_of T) body_takes (sap_cons (sd_name 0 rfl (.inr (.inl rfl))) (sap_cons sd_int sap_nil))) sd_int (nomark _)) (ss_one (by exact (ss_ret (sd_callTy call_tuple_of opd_tuple (by rfl) T.z_tuple rfl (sa_cons (sd_lc0 rfl sc__law_far_point.nd (si_range1 (by rfl) T.z_range (sa_cons (sd_name 1 rfl (.inl rfl)) sa_nil)) (own := [("i", 2)]) (blkOk_by (by rfl)) (by decide) (fun _ _ _ _ _ => (sg_name sc__law_far_point.nd rfl (.inl rfl) (.inr rfl))) (fun _ _ _ _ _ => (sd_call (ok__law_from T) len__law_from (hr.mono (by decide)) hG (by rfl) T.g__law_from T.F__law_from.kp (b__law_from T) blk_takes (sap_cons (sd_name 0 rfl (.inr (.inl rfl))) (sap_cons (sd_un un_neg und_neg sd_int) (sap_cons sd_int sap_nil)))))) sa_nil))))) ss_nil)) (ss_one (by exact (ss_ret (sd_callTy call_tuple_of opd_tuple (by rfl) T.z_tuple rfl (sa_cons (sd_lc0 rfl sc__law_far_point.nd (si_range1 (by rfl) T.z_range (sa_cons (sd_name 1 rfl (.inl rfl)) sa_nil)) (own := [("i", 2)]) (blkOk_by (by rfl)) (by decide) (fun _ _ _ _ _ => (sg_name sc__law_far_point.nd rfl (.inl rfl) (.inr rfl))) (fun _ _ _ _ _ => (sd_call (ok__law_from T) len__law_from (hr.mono (by decide)) hG (by rfl) T.g__law_from T.F__law_from.kp (b__law_from T) blk_takes (sap_cons (sd_name 0 rfl (.inr (.inl rfl))) (sap_cons (sd_un un_neg und_neg sd_int) (sap_cons sd_int sap_nil)))))) sa_nil))))))
  exact h
theorem ok__law_some_prices (T : Top K mg) : FnG P w K mg base 3 T.a__law_some_prices T.d__law_some_prices ["pot", "places"] (spOf xr K 2 m__law_some_prices) := by
  have h := fnG_of (xr := xr) (P := P) (w := w) (K := K) (mg := mg) (base := base) (k := 2) T.F__law_some_prices sc__law_some_prices (ro := [0, 1]) (g := g__law_some_prices) fun cdv A outer s H vs E hr hG => (ss_cons (by exact (ss_set (i := 2) sc__law_some_prices.nd rfl (.inr rfl) (sd_call (ok__law_one T) len__law_one (hr.mono (by decide)) hG (by rfl) T.g__law_one T.F__law_one.kp (b__law_one T) body_takes (sap_cons (sd_name 0 rfl (.inr (.inl rfl))) (sap_cons (sd_lst (sad_cons sd_int (sad_cons sd_int (sad_cons sd_int (sad_cons sd_int sad_nil)))) (argsD_len (by decide))) sap_nil))) (by decide) (.inl rfl))) (ss_one (by exact (ss_ret (sd_callTy call_tuple_of opd_tuple (by rfl) T.z_tuple rfl (sa_cons (sd_lc0 rfl sc__law_some_prices.nd (si_range1 (by rfl) T.z_range (sa_cons (sd_name 1 rfl (.inl rfl)) sa_nil)) (own := [("i", 3)]) (blkOk_by (by rfl)) (by decide) (fun _ _ _ _ _ => (sg_name sc__law_some_prices.nd rfl (.inl rfl) (.inr rfl))) (fun _ _ _ _ _ => (sd_call (ok__law_from T) len__law_from (hr.mono (by decide)) hG (by rfl) T.g__law_from T.F__law_from.kp (b__law_from T) blk_takes (sap_cons (sd_name 0 rfl (.inr (.inl rfl))) (sap_cons (sd_un un_neg und_neg (sd_name 2 rfl (.inr (.inl rfl)))) (sap_cons (sd_name 2 rfl (.inr (.inl rfl))) sap_nil)))))) sa_nil))))))
  exact h
theorem ok__law_are_points_right (T : Top K mg) : FnG P w K mg base 2 T.a__law_are_points_right T.d__law_are_points_right ["pot", "one", "other"] (spOf xr K 3 m__law_are_points_right) := by
  have h := fnG_of (xr := xr) (P := P) (w := w) (K := K) (mg := mg) (base := base) (k := 1) T.F__law_are_points_right sc__law_are_points_right (ro := [0, 1, 2]) (g := g__law_are_points_right) fun cdv A outer s H vs E hr hG => (ss_cons (by exact (ss_set (i := 3) sc__law_are_points_right.nd rfl (.inl rfl) (sd_callB (opr_repr hG hr.units) opd_repr (by rfl) T.z_repr rfl (sa_cons (sd_lst (sad_cons (sd_name 1 rfl (.inr (.inl rfl))) (sad_cons (sd_name 2 rfl (.inr (.inl rfl))) sad_nil)) (argsD_len (by decide))) sa_nil)) (by decide) (.inr rfl))) (ss_cons (by exact (ss_set (i := 4) sc__law_are_points_right.nd rfl (.inl rfl) (sd_lst (sad_cons (sd_call (ok__law_over T) len__law_over (hr.mono (by decide)) hG (by rfl) T.g__law_over T.F__law_over.kp (b__law_over T) body_takes (sap_cons (sd_name 1 rfl (.inr (.inl rfl))) (sap_cons (sd_name 2 rfl (.inr (.inl rfl))) sap_nil))) (sad_cons (sd_call (ok__law_distance T) len__law_distance (hr.mono (by decide)) hG (by rfl) T.g__law_distance T.F__law_distance.kp (b__law_distance T) body_takes (sap_cons (sd_name 1 rfl (.inr (.inl rfl))) (sap_cons (sd_name 2 rfl (.inr (.inl rfl))) sap_nil))) (sad_cons (sd_call (ok__law_lower T) len__law_lower (hr.mono (by decide)) hG (by rfl) T.g__law_lower T.F__law_lower.kp (b__law_lower T) body_takes (sap_cons (sd_name 1 rfl (.inr (.inl rfl))) (sap_cons (sd_name 2 rfl (.inr (.inl rfl))) sap_nil))) (sad_cons (sd_call (ok__law_upper T) len__law_upper (hr.mono (by decide)) hG (by rfl) T.g__law_upper T.F__law_upper.kp (b__law_upper T) body_takes (sap_cons (sd_name 1 rfl (.inr (.inl rfl))) (sap_cons (sd_name 2 rfl (.inr (.inl rfl))) sap_nil))) sad_nil)))) (argsD_len (by decide))) (by decide) (.inr rfl))) (ss_cons (by exact (ss_set (i := 5) sc__law_are_points_right.nd rfl (.inl rfl) (sd_lst (sad_cons (sd_call (ok_over T) len_over (hr.mono (by decide)) hG (by rfl) T.g_over T.F_over.kp (b_over T) body_takes (sap_cons (sd_name 1 rfl (.inr (.inl rfl))) (sap_cons (sd_name 2 rfl (.inr (.inl rfl))) sap_nil))) (sad_cons (sd_call (ok_distance T) len_distance (hr.mono (by decide)) hG (by rfl) T.g_distance T.F_distance.kp (b_distance T) body_takes (sap_cons (sd_name 1 rfl (.inr (.inl rfl))) (sap_cons (sd_name 2 rfl (.inr (.inl rfl))) sap_nil))) (sad_cons (sd_call (ok_lower T) len_lower (hr.mono (by decide)) hG (by rfl) T.g_lower T.F_lower.kp (b_lower T) body_takes (sap_cons (sd_name 1 rfl (.inr (.inl rfl))) (sap_cons (sd_name 2 rfl (.inr (.inl rfl))) sap_nil))) (sad_cons (sd_call (ok_upper T) len_upper (hr.mono (by decide)) hG (by rfl) T.g_upper T.F_upper.kp (b_upper T) body_takes (sap_cons (sd_name 1 rfl (.inr (.inl rfl))) (sap_cons (sd_name 2 rfl (.inr (.inl rfl))) sap_nil))) sad_nil)))) (argsD_len (by decide))) (by decide) (.inr rfl))) (ss_cons (by exact (ss_set (i := 6) sc__law_are_points_right.nd rfl (.inl rfl) (sd_lst (sad_cons (sd_callK0 (ks := ["other", "one"]) (ok_over T) len_over (hr.mono (by decide)) hG (by rfl) T.g_over T.F_over.kp (kb_over_0_other_one T) (by decide) body_takes (skp_cons (sd_name 2 rfl (.inr (.inl rfl))) (skp_cons (sd_name 1 rfl (.inr (.inl rfl))) skp_nil))) (sad_cons (sd_callK0 (ks := ["other", "one"]) (ok_distance T) len_distance (hr.mono (by decide)) hG (by rfl) T.g_distance T.F_distance.kp (kb_distance_0_other_one T) (by decide) body_takes (skp_cons (sd_name 2 rfl (.inr (.inl rfl))) (skp_cons (sd_name 1 rfl (.inr (.inl rfl))) skp_nil))) (sad_cons (sd_callK0 (ks := ["other", "one"]) (ok_lower T) len_lower (hr.mono (by decide)) hG (by rfl) T.g_lower T.F_lower.kp (kb_lower_0_other_one T) (by decide) body_takes (skp_cons (sd_name 2 rfl (.inr (.inl rfl))) (skp_cons (sd_name 1 rfl (.inr (.inl rfl))) skp_nil))) sad_nil))) (argsD_len (by decide))) (by decide) (.inr rfl))) (ss_cons (by exact (ss_if (PW.pt (sw_or (sd_cmpT (opr_ne hr.units) opd_ne (sd_callB (opr_repr hG hr.units) opd_repr (by rfl) T.z_repr rfl (sa_cons (sd_name 5 rfl (.inl rfl)) sa_nil)) (sd_callB (opr_repr hG hr.units) opd_repr (by rfl) T.z_repr rfl (sa_cons (sd_name 4 rfl (.inl rfl)) sa_nil)) (nomark _)) (sw_or1 (sd_cmpT (opr_ne hr.units) opd_ne (sd_callB (opr_repr hG hr.units) opd_repr (by rfl) T.z_repr rfl (sa_cons (sd_bin opr_add opd_add (sd_name 6 rfl (.inl rfl)) (sd_lst (sad_cons (sd_callK0 (ks := ["other", "one"]) (ok_upper T) len_upper (hr.mono (by decide)) hG (by rfl) T.g_upper T.F_upper.kp (kb_upper_0_other_one T) (by decide) body_takes (skp_cons (sd_name 2 rfl (.inr (.inl rfl))) (skp_cons (sd_name 1 rfl (.inr (.inl rfl))) skp_nil))) sad_nil) (argsD_len (by decide)))) sa_nil)) (sd_callB (opr_repr hG hr.units) opd_repr (by rfl) T.z_repr rfl (sa_cons (sd_name 4 rfl (.inl rfl)) sa_nil)) (nomark _))))) (ss_one (by exact (ss_ret sd_bl))) ss_nil)) (ss_cons (by exact (ss_set (i := 7) sc__law_are_points_right.nd rfl (.inl rfl) (sd_bin opr_add opd_add (sd_lc0 rfl sc__law_are_points_right.nd (si_seq (sd_call (ok_over T) len_over (hr.mono (by decide)) hG (by rfl) T.g_over T.F_over.kp (b_over T) body_takes (sap_cons (sd_name 1 rfl (.inr (.inl rfl))) (sap_cons (sd_name 2 rfl (.inr (.inl rfl))) sap_nil)))) (own := [("i", 8)]) (blkOk_by (by rfl)) (by decide) (fun _ _ _ _ _ => (sg_name sc__law_are_points_right.nd rfl (.inl rfl) (.inr rfl))) (fun _ _ _ _ _ => (sd_bin op_sub opd_sub (sd_ix ix_seq opd_ix (sd_name 1 rfl (.inr (.inl rfl))) (sd_name 8 rfl (.inl rfl)) (fun _ _ => rfl)) (sd_ix ix_seq opd_ix (sd_name 2 rfl (.inr (.inl rfl))) (sd_name 8 rfl (.inl rfl)) (fun _ _ => rfl))))) (sd_lc0 rfl sc__law_are_points_right.nd (si_seq (sd_call (ok_over T) len_over (hr.mono (by decide)) hG (by rfl) T.g_over T.F_over.kp (b_over T) body_takes (sap_cons (sd_name 2 rfl (.inr (.inl rfl))) (sap_cons (sd_name 1 rfl (.inr (.inl rfl))) sap_nil)))) (own := [("i", 8)]) (blkOk_by (by rfl)) (by decide) (fun _ _ _ _ _ => (sg_name sc__law_are_points_right.nd rfl (.inl rfl) (.inr rfl))) (fun _ _ _ _ _ => (sd_bin op_sub opd_sub (sd_ix ix_seq opd_ix (sd_name 2 rfl (.inr (.inl rfl))) (sd_name 8 rfl (.inl rfl)) (fun _ _ => rfl)) (sd_ix ix_seq opd_ix (sd_name 1 rfl (.inr (.inl rfl))) (sd_name 8 rfl (.inl rfl)) (fun _ _ => rfl)))))) (by decide) (.inr rfl))) (ss_cons (by exact (ss_if (PW.pt (sw_or (sd_cmpT (opr_ne hr.units) opd_ne (sd_callB (cr_sum rfl) opd_sum (by rfl) T.z_sum rfl (sa_cons (sd_name 7 rfl (.inl rfl)) sa_nil)) (sd_call (ok_distance T) len_distance (hr.mono (by decide)) hG (by rfl) T.g_distance T.F_distance.kp (b_distance T) body_takes (sap_cons (sd_name 1 rfl (.inr (.inl rfl))) (sap_cons (sd_name 2 rfl (.inr (.inl rfl))) sap_nil))) (nomark _)) (sw_or1 (sd_cmpT (opr_ne hr.units) opd_ne (sd_call (ok_distance T) len_distance (hr.mono (by decide)) hG (by rfl) T.g_distance T.F_distance.kp (b_distance T) body_takes (sap_cons (sd_call (ok_lower T) len_lower (hr.mono (by decide)) hG (by rfl) T.g_lower T.F_lower.kp (b_lower T) body_takes (sap_cons (sd_name 1 rfl (.inr (.inl rfl))) (sap_cons (sd_name 2 rfl (.inr (.inl rfl))) sap_nil))) (sap_cons (sd_call (ok_upper T) len_upper (hr.mono (by decide)) hG (by rfl) T.g_upper T.F_upper.kp (b_upper T) body_takes (sap_cons (sd_name 1 rfl (.inr (.inl rfl))) (sap_cons (sd_name 2 rfl (.inr (.inl rfl))) sap_nil))) sap_nil))) (sd_ix ix_seq opd_ix (sd_name 4 rfl (.inl rfl)) sd_int (fun _ _ => rfl)) (nomark _))))) (ss_one (by exact (ss_ret sd_bl))) ss_nil)) (ss_one (by exact (ss_ret (sd_cmp (opr_eq hr.units) opd_eq (sd_callB (opr_repr hG hr.units) opd_repr (by rfl) T.z_repr rfl (sa_cons (sd_lst (sad_cons (sd_name 1 rfl (.inr (.inl rfl))) (sad_cons (sd_name 2 rfl (.inr (.inl rfl))) sad_nil)) (argsD_len (by decide))) sa_nil)) (sd_name 3 rfl (.inl rfl)) (nomark _))))))))))))
  exact h
theorem ok__law_are_steps_right (T : Top K mg) : FnG P w K mg base 2 T.a__law_are_steps_right T.d__law_are_steps_right ["pot", "point", "prices", "other"] (spOf xr K 4 m__law_are_steps_right) := by
  have h := fnG_of (xr := xr) (P := P) (w := w) (K := K) (mg := mg) (base := base) (k := 1) T.F__law_are_steps_right sc__law_are_steps_right (ro := [0, 1, 2, 3]) (g := g__law_are_steps_right) fun cdv A outer s H vs E hr hG => (ss_cons (by exact (ss_set (i := 4) sc__law_are_steps_right.nd rfl (.inl rfl) (sd_callB opr_len opd_len (by rfl) T.z_len rfl (sa_cons (sd_name 1 rfl (.inl rfl)) sa_nil)) (by decide) (.inr rfl))) (ss_cons (by exact (ss_set (i := 5) sc__law_are_steps_right.nd rfl (.inl rfl) (sd_callTy call_tuple_of opd_tuple (by rfl) T.z_tuple rfl (sa_cons (sd_lc1 rfl sc__law_are_steps_right.nd (si_range1 (by rfl) T.z_range (sa_cons (sd_name 4 rfl (.inl rfl)) sa_nil)) (own := [("i", 9)]) (blkOk_by (by rfl)) (by decide) (fun _ _ _ _ _ => (sg_name sc__law_are_steps_right.nd rfl (.inl rfl) (.inr rfl))) (fun _ _ _ _ _ => (sd_cmpT (opr_eq hr.units) opd_eq (sd_call (ok__law_of T) drawFA_len (hr.mono (by decide)) hG (by rfl) T.g__law_of T.F__law_of.kp (b__law_of T) blk_takes (sap_cons (sd_name 0 rfl (.inr (.inl rfl))) (sap_cons sd_int sap_nil))) sd_int (nomark _))) (fun _ _ _ _ _ => (sd_name 9 rfl (.inl rfl)))) sa_nil)) (by decide) (.inr rfl))) (ss_cons (by exact (ss_set (i := 6) sc__law_are_steps_right.nd rfl (.inl rfl) (sd_callTy call_tuple_of opd_tuple (by rfl) T.z_tuple rfl (sa_cons (sd_lc1 rfl sc__law_are_steps_right.nd (si_range1 (by rfl) T.z_range (sa_cons (sd_name 4 rfl (.inl rfl)) sa_nil)) (own := [("i", 9)]) (blkOk_by (by rfl)) (by decide) (fun _ _ _ _ _ => (sg_name sc__law_are_steps_right.nd rfl (.inl rfl) (.inr rfl))) (fun _ _ _ _ _ => (sd_cmpT (opr_eq hr.units) opd_eq (sd_call (ok__law_of T) drawFA_len (hr.mono (by decide)) hG (by rfl) T.g__law_of T.F__law_of.kp (b__law_of T) blk_takes (sap_cons (sd_name 0 rfl (.inr (.inl rfl))) (sap_cons sd_int sap_nil))) sd_int (nomark _))) (fun _ _ _ _ _ => (sd_name 9 rfl (.inl rfl)))) sa_nil)) (by decide) (.inr rfl))) (ss_cons (by exact (ss_set (i := 7) sc__law_are_steps_right.nd rfl (.inl rfl) (sd_lst (sad_cons (sd_call (ok__law_stepped T) len__law_stepped (hr.mono (by decide)) hG (by rfl) T.g__law_stepped T.F__law_stepped.kp (b__law_stepped T) body_takes (sap_cons (sd_name 1 rfl (.inl rfl)) (sap_cons (sd_name 5 rfl (.inl rfl)) (sap_cons (sd_name 6 rfl (.inl rfl)) sap_nil)))) (sad_cons (sd_call (ok__law_times T) len__law_times (hr.mono (by decide)) hG (by rfl) T.g__law_times T.F__law_times.kp (b__law_times T) body_takes (sap_cons (sd_name 2 rfl (.inl rfl)) (sap_cons (sd_name 1 rfl (.inl rfl)) sap_nil))) sad_nil)) (argsD_len (by decide))) (by decide) (.inr rfl))) (ss_cons (by exact (ss_if (sd_cmpT (opr_ne hr.units) opd_ne (sd_callB (opr_repr hG hr.units) opd_repr (by rfl) T.z_repr rfl (sa_cons (sd_lst (sad_cons (sd_call (ok_stepped T) len_stepped (hr.mono (by decide)) hG (by rfl) T.g_stepped T.F_stepped.kp (b_stepped T) body_takes (sap_cons (sd_name 1 rfl (.inl rfl)) (sap_cons (sd_name 5 rfl (.inl rfl)) (sap_cons (sd_name 6 rfl (.inl rfl)) sap_nil)))) (sad_cons (sd_call (ok_times T) len_times (hr.mono (by decide)) hG (by rfl) T.g_times T.F_times.kp (b_times T) body_takes (sap_cons (sd_name 2 rfl (.inl rfl)) (sap_cons (sd_name 1 rfl (.inl rfl)) sap_nil))) sad_nil)) (argsD_len (by decide))) sa_nil)) (sd_callB (opr_repr hG hr.units) opd_repr (by rfl) T.z_repr rfl (sa_cons (sd_name 7 rfl (.inl rfl)) sa_nil)) (nomark _)) (ss_one (by exact (ss_ret sd_bl))) ss_nil)) (ss_cons (by exact (ss_if (sd_cmpT (opr_ne hr.units) opd_ne (sd_callB (opr_repr hG hr.units) opd_repr (by rfl) T.z_repr rfl (sa_cons (sd_lst (sad_cons (sd_callK0 (ks := ["downs", "ups", "point"]) (ok_stepped T) len_stepped (hr.mono (by decide)) hG (by rfl) T.g_stepped T.F_stepped.kp (kb_stepped_0_downs_ups_point T) (by decide) body_takes (skp_cons (sd_name 6 rfl (.inl rfl)) (skp_cons (sd_name 5 rfl (.inl rfl)) (skp_cons (sd_name 1 rfl (.inl rfl)) skp_nil)))) (sad_cons (sd_callK0 (ks := ["point", "prices"]) (ok_times T) len_times (hr.mono (by decide)) hG (by rfl) T.g_times T.F_times.kp (kb_times_0_point_prices T) (by decide) body_takes (skp_cons (sd_name 1 rfl (.inl rfl)) (skp_cons (sd_name 2 rfl (.inl rfl)) skp_nil))) sad_nil)) (argsD_len (by decide))) sa_nil)) (sd_callB (opr_repr hG hr.units) opd_repr (by rfl) T.z_repr rfl (sa_cons (sd_name 7 rfl (.inl rfl)) sa_nil)) (nomark _)) (ss_one (by exact (ss_ret sd_bl))) ss_nil)) (ss_cons (by exact (ss_set (i := 8) sc__law_are_steps_right.nd rfl (.inl rfl) (sd_bin opr_add opd_add (sd_call (ok_times T) len_times (hr.mono (by decide)) hG (by rfl) T.g_times T.F_times.kp (b_times T) body_takes (sap_cons (sd_name 2 rfl (.inl rfl)) (sap_cons (sd_call (ok_lower T) len_lower (hr.mono (by decide)) hG (by rfl) T.g_lower T.F_lower.kp (b_lower T) body_takes (sap_cons (sd_name 1 rfl (.inl rfl)) (sap_cons (sd_name 3 rfl (.inl rfl)) sap_nil))) sap_nil))) (sd_call (ok_times T) len_times (hr.mono (by decide)) hG (by rfl) T.g_times T.F_times.kp (b_times T) body_takes (sap_cons (sd_name 2 rfl (.inl rfl)) (sap_cons (sd_call (ok_upper T) len_upper (hr.mono (by decide)) hG (by rfl) T.g_upper T.F_upper.kp (b_upper T) body_takes (sap_cons (sd_name 1 rfl (.inl rfl)) (sap_cons (sd_name 3 rfl (.inl rfl)) sap_nil))) sap_nil)))) (by decide) (.inr rfl))) (ss_one (by exact (ss_ret (sd_cmp (opr_eq hr.units) opd_eq (sd_callB (opr_repr hG hr.units) opd_repr (by rfl) T.z_repr rfl (sa_cons (sd_name 8 rfl (.inl rfl)) sa_nil)) (sd_callB (opr_repr hG hr.units) opd_repr (by rfl) T.z_repr rfl (sa_cons (sd_bin opr_add opd_add (sd_ix ix_seq opd_ix (sd_name 7 rfl (.inl rfl)) sd_int (fun _ _ => rfl)) (sd_call (ok__law_times T) len__law_times (hr.mono (by decide)) hG (by rfl) T.g__law_times T.F__law_times.kp (b__law_times T) body_takes (sap_cons (sd_name 2 rfl (.inl rfl)) (sap_cons (sd_name 3 rfl (.inl rfl)) sap_nil)))) sa_nil)) (nomark _))))))))))))
  exact h
theorem ok_law (T : Top K mg) : FnG P w K mg base 4 T.a_law T.d_law ["script"] (spOf xr K 1 m_law) := by
  have h := fnG_of (xr := xr) (P := P) (w := w) (K := K) (mg := mg) (base := base) (k := 3) T.F_law sc_law (ro := [0]) (g := g_law) fun cdv A outer s H vs E hr hG => (ss_cons (by exact (ss_set (i := 1) sc_law.nd rfl (.inl rfl) (sd_call (ok__law_pot T) len__law_pot (hr.mono (by decide)) hG (by rfl) T.g__law_pot T.F__law_pot.kp (b__law_pot T) body_takes (sap_cons (sd_name 0 rfl (.inl rfl)) sap_nil)) (by decide) (.inr rfl))) (ss_cons (by exact (ss_for body_passes rfl (si_range1 (by rfl) T.z_range (sa_cons sd_int sa_nil)) (sg_name sc_law.nd rfl (.inl rfl) (.inr rfl)) (by decide) (ss_cons (by exact (ss_set (i := 3) sc_law.nd rfl (.inl rfl) (sd_bin opr_add opd_add sd_int (sd_call (ok__law_of T) drawFA_len (hr.mono (by decide)) hG (by rfl) T.g__law_of T.F__law_of.kp (b__law_of T) body_takes (sap_cons (sd_name 1 rfl (.inl rfl)) (sap_cons sd_int sap_nil)))) (by decide) (.inr rfl))) (ss_cons (by exact (ss_par (i := 4) (j := 5) rfl sc_law.nd rfl rfl (by decide) rfl rfl (sd_call (ok__law_far_point T) len__law_far_point (hr.mono (by decide)) hG (by rfl) T.g__law_far_point T.F__law_far_point.kp (b__law_far_point T) body_takes (sap_cons (sd_name 1 rfl (.inl rfl)) (sap_cons (sd_name 3 rfl (.inl rfl)) sap_nil))) (sd_call (ok__law_far_point T) len__law_far_point (hr.mono (by decide)) hG (by rfl) T.g__law_far_point T.F__law_far_point.kp (b__law_far_point T) body_takes (sap_cons (sd_name 1 rfl (.inl rfl)) (sap_cons (sd_name 3 rfl (.inl rfl)) sap_nil))) (by decide) (by decide) (by rfl))) (ss_cons (by exact (ss_par (i := 6) (j := 7) rfl sc_law.nd rfl rfl (by decide) rfl rfl (sd_call (ok__law_some_prices T) len__law_some_prices (hr.mono (by decide)) hG (by rfl) T.g__law_some_prices T.F__law_some_prices.kp (b__law_some_prices T) body_takes (sap_cons (sd_name 1 rfl (.inl rfl)) (sap_cons (sd_name 3 rfl (.inl rfl)) sap_nil))) (sd_call (ok__law_some_prices T) len__law_some_prices (hr.mono (by decide)) hG (by rfl) T.g__law_some_prices T.F__law_some_prices.kp (b__law_some_prices T) body_takes (sap_cons (sd_name 1 rfl (.inl rfl)) (sap_cons (sd_name 3 rfl (.inl rfl)) sap_nil))) (by decide) (by decide) (by rfl))) (ss_cons (by exact (ss_if (sd_cmpT (opr_eq hr.units) opd_eq (sd_name 2 rfl (.inl rfl)) sd_int (nomark _)) (ss_one (by exact (ss_set (i := 5) sc_law.nd rfl (.inl rfl) (sd_name 4 rfl (.inl rfl)) (by decide) (.inr rfl)))) ss_nil)) (ss_cons (by exact (ss_if (PW.pt (sw_or (sd_notT (sd_test (sd_call (ok__law_are_points_right T) len__law_are_points_right (hr.mono (by decide)) hG (by rfl) T.g__law_are_points_right T.F__law_are_points_right.kp (b__law_are_points_right T) body_takes (sap_cons (sd_name 1 rfl (.inl rfl)) (sap_cons (sd_name 4 rfl (.inl rfl)) (sap_cons (sd_name 5 rfl (.inl rfl)) sap_nil)))))) (sw_or1 (sd_notT (sd_test (sd_call (ok__law_are_points_right T) len__law_are_points_right (hr.mono (by decide)) hG (by rfl) T.g__law_are_points_right T.F__law_are_points_right.kp (b__law_are_points_right T) body_takes (sap_cons (sd_name 1 rfl (.inl rfl)) (sap_cons (sd_name 6 rfl (.inl rfl)) (sap_cons (sd_name 7 rfl (.inl rfl)) sap_nil))))))))) (ss_one (by exact (ss_ret sd_bl))) ss_nil)) (ss_one (by exact (ss_if (PW.pt (sw_or (sd_notT (sd_test (sd_call (ok__law_are_steps_right T) len__law_are_steps_right (hr.mono (by decide)) hG (by rfl) T.g__law_are_steps_right T.F__law_are_steps_right.kp (b__law_are_steps_right T) body_takes (sap_cons (sd_name 1 rfl (.inl rfl)) (sap_cons (sd_name 4 rfl (.inl rfl)) (sap_cons (sd_name 6 rfl (.inl rfl)) (sap_cons (sd_name 5 rfl (.inl rfl)) sap_nil))))))) (sw_or1 (sd_notT (sd_test (sd_call (ok__law_are_steps_right T) len__law_are_steps_right (hr.mono (by decide)) hG (by rfl) T.g__law_are_steps_right T.F__law_are_steps_right.kp (b__law_are_steps_right T) body_takes (sap_cons (sd_name 1 rfl (.inl rfl)) (sap_cons (sd_name 6 rfl (.inl rfl)) (sap_cons (sd_name 7 rfl (.inl rfl)) (sap_cons (sd_name 4 rfl (.inl rfl)) sap_nil)))))))))) (ss_one (by exact (ss_ret sd_bl))) ss_nil)))))))))) (ss_one (by exact (ss_ret sd_bl)))))
  exact h
end
theorem all_mk {xr : XR} {l : PySem.W.OpenLaw} {w : World} {K : PySem.W.Frag} {h : Heap} {mg : Str → Option Value} {fa : Addr} (X : K.In h) (G : h.Ns mainGlobals mg) (hfa : mg "law" = some (.ref fa))
    {f0 f1 f2 f3 f4 f5 f6 f7 f8 f9 f10 f11 f12 f13 f14 f15 f16 f17 f18 f19 f20 : Addr} {od0 an0 od1 an1 od2 an2 od3 an3 od4 an4 od5 an5 od6 an6 od7 an7 od8 an8 od9 an9 od10 an10 od11 an11 od12 an12 od13 an13 od14 an14 od15 an15 od16 an16 od17 an17 od18 an18 od19 an19 od20 an20 : Option Addr} {sl0 sl1 sl2 sl3 sl4 sl5 sl6 sl7 sl8 sl9 sl10 sl11 sl12 sl13 sl14 sl15 sl16 sl17 sl18 sl19 sl20 : Array (Option Value)} {oc0 kV0 dc0 pm0 cd0 ct0 oc1 kV1 dc1 pm1 cd1 ct1 oc2 kV2 dc2 pm2 cd2 ct2 oc3 kV3 dc3 pm3 cd3 ct3 oc4 kV4 dc4 pm4 cd4 ct4 oc5 kV5 dc5 pm5 cd5 ct5 oc6 kV6 dc6 pm6 cd6 ct6 oc7 kV7 dc7 pm7 cd7 ct7 oc8 kV8 dc8 pm8 cd8 ct8 oc9 kV9 dc9 pm9 cd9 ct9 oc10 kV10 dc10 pm10 cd10 ct10 oc11 kV11 dc11 pm11 cd11 ct11 oc12 kV12 dc12 pm12 cd12 ct12 oc13 kV13 dc13 pm13 cd13 ct13 oc14 kV14 dc14 pm14 cd14 ct14 oc15 kV15 dc15 pm15 cd15 ct15 oc16 kV16 dc16 pm16 cd16 ct16 oc17 kV17 dc17 pm17 cd17 ct17 oc18 kV18 dc18 pm18 cd18 ct18 oc19 kV19 dc19 pm19 cd19 ct19 oc20 kV20 dc20 pm20 cd20 ct20 : Value}
    (a0 : PySem.W.nsIn K mainGlobals "over" = some (some (.ref f0))) (l0 : K.lookup f0 = some ⟨oc0, od0, .func (PySem.W.fnOf "over" "over" (defArgs st_over) (defBody st_over) (defScope st_over) .none kV0 dc0 pm0 an0 cd0 ct0), sl0⟩) (c0 : PySem.W.codeIn K cd0 "over" = true) (k0 : PySem.W.keepIn K (.ref f0) = true)
    (a1 : PySem.W.nsIn K mainGlobals "distance" = some (some (.ref f1))) (l1 : K.lookup f1 = some ⟨oc1, od1, .func (PySem.W.fnOf "distance" "distance" (defArgs st_distance) (defBody st_distance) (defScope st_distance) .none kV1 dc1 pm1 an1 cd1 ct1), sl1⟩) (c1 : PySem.W.codeIn K cd1 "distance" = true) (k1 : PySem.W.keepIn K (.ref f1) = true)
    (a2 : PySem.W.nsIn K mainGlobals "lower" = some (some (.ref f2))) (l2 : K.lookup f2 = some ⟨oc2, od2, .func (PySem.W.fnOf "lower" "lower" (defArgs st_lower) (defBody st_lower) (defScope st_lower) .none kV2 dc2 pm2 an2 cd2 ct2), sl2⟩) (c2 : PySem.W.codeIn K cd2 "lower" = true) (k2 : PySem.W.keepIn K (.ref f2) = true)
    (a3 : PySem.W.nsIn K mainGlobals "upper" = some (some (.ref f3))) (l3 : K.lookup f3 = some ⟨oc3, od3, .func (PySem.W.fnOf "upper" "upper" (defArgs st_upper) (defBody st_upper) (defScope st_upper) .none kV3 dc3 pm3 an3 cd3 ct3), sl3⟩) (c3 : PySem.W.codeIn K cd3 "upper" = true) (k3 : PySem.W.keepIn K (.ref f3) = true)
    (a4 : PySem.W.nsIn K mainGlobals "stepped" = some (some (.ref f4))) (l4 : K.lookup f4 = some ⟨oc4, od4, .func (PySem.W.fnOf "stepped" "stepped" (defArgs st_stepped) (defBody st_stepped) (defScope st_stepped) .none kV4 dc4 pm4 an4 cd4 ct4), sl4⟩) (c4 : PySem.W.codeIn K cd4 "stepped" = true) (k4 : PySem.W.keepIn K (.ref f4) = true)
    (a5 : PySem.W.nsIn K mainGlobals "times" = some (some (.ref f5))) (l5 : K.lookup f5 = some ⟨oc5, od5, .func (PySem.W.fnOf "times" "times" (defArgs st_times) (defBody st_times) (defScope st_times) .none kV5 dc5 pm5 an5 cd5 ct5), sl5⟩) (c5 : PySem.W.codeIn K cd5 "times" = true) (k5 : PySem.W.keepIn K (.ref f5) = true)
    (a6 : PySem.W.nsIn K mainGlobals "_law_pot" = some (some (.ref f6))) (l6 : K.lookup f6 = some ⟨oc6, od6, .func (PySem.W.fnOf "_law_pot" "_law_pot" (defArgs st__law_pot) (defBody st__law_pot) (defScope st__law_pot) .none kV6 dc6 pm6 an6 cd6 ct6), sl6⟩) (c6 : PySem.W.codeIn K cd6 "_law_pot" = true) (k6 : PySem.W.keepIn K (.ref f6) = true)
    (a7 : PySem.W.nsIn K mainGlobals "_law_of" = some (some (.ref f7))) (l7 : K.lookup f7 = some ⟨oc7, od7, .func (PySem.W.fnOf "_law_of" "_law_of" (defArgs st__law_of) (defBody st__law_of) (defScope st__law_of) .none kV7 dc7 pm7 an7 cd7 ct7), sl7⟩) (c7 : PySem.W.codeIn K cd7 "_law_of" = true) (k7 : PySem.W.keepIn K (.ref f7) = true)
    (a8 : PySem.W.nsIn K mainGlobals "_law_one" = some (some (.ref f8))) (l8 : K.lookup f8 = some ⟨oc8, od8, .func (PySem.W.fnOf "_law_one" "_law_one" (defArgs st__law_one) (defBody st__law_one) (defScope st__law_one) .none kV8 dc8 pm8 an8 cd8 ct8), sl8⟩) (c8 : PySem.W.codeIn K cd8 "_law_one" = true) (k8 : PySem.W.keepIn K (.ref f8) = true)
    (a9 : PySem.W.nsIn K mainGlobals "_law_from" = some (some (.ref f9))) (l9 : K.lookup f9 = some ⟨oc9, od9, .func (PySem.W.fnOf "_law_from" "_law_from" (defArgs st__law_from) (defBody st__law_from) (defScope st__law_from) .none kV9 dc9 pm9 an9 cd9 ct9), sl9⟩) (c9 : PySem.W.codeIn K cd9 "_law_from" = true) (k9 : PySem.W.keepIn K (.ref f9) = true)
    (a10 : PySem.W.nsIn K mainGlobals "_law_over" = some (some (.ref f10))) (l10 : K.lookup f10 = some ⟨oc10, od10, .func (PySem.W.fnOf "_law_over" "_law_over" (defArgs st__law_over) (defBody st__law_over) (defScope st__law_over) .none kV10 dc10 pm10 an10 cd10 ct10), sl10⟩) (c10 : PySem.W.codeIn K cd10 "_law_over" = true) (k10 : PySem.W.keepIn K (.ref f10) = true)
    (a11 : PySem.W.nsIn K mainGlobals "_law_distance" = some (some (.ref f11))) (l11 : K.lookup f11 = some ⟨oc11, od11, .func (PySem.W.fnOf "_law_distance" "_law_distance" (defArgs st__law_distance) (defBody st__law_distance) (defScope st__law_distance) .none kV11 dc11 pm11 an11 cd11 ct11), sl11⟩) (c11 : PySem.W.codeIn K cd11 "_law_distance" = true) (k11 : PySem.W.keepIn K (.ref f11) = true)
    (a12 : PySem.W.nsIn K mainGlobals "_law_lower" = some (some (.ref f12))) (l12 : K.lookup f12 = some ⟨oc12, od12, .func (PySem.W.fnOf "_law_lower" "_law_lower" (defArgs st__law_lower) (defBody st__law_lower) (defScope st__law_lower) .none kV12 dc12 pm12 an12 cd12 ct12), sl12⟩) (c12 : PySem.W.codeIn K cd12 "_law_lower" = true) (k12 : PySem.W.keepIn K (.ref f12) = true)
    (a13 : PySem.W.nsIn K mainGlobals "_law_upper" = some (some (.ref f13))) (l13 : K.lookup f13 = some ⟨oc13, od13, .func (PySem.W.fnOf "_law_upper" "_law_upper" (defArgs st__law_upper) (defBody st__law_upper) (defScope st__law_upper) .none kV13 dc13 pm13 an13 cd13 ct13), sl13⟩) (c13 : PySem.W.codeIn K cd13 "_law_upper" = true) (k13 : PySem.W.keepIn K (.ref f13) = true)
    (a14 : PySem.W.nsIn K mainGlobals "_law_stepped" = some (some (.ref f14))) (l14 : K.lookup f14 = some ⟨oc14, od14, .func (PySem.W.fnOf "_law_stepped" "_law_stepped" (defArgs st__law_stepped) (defBody st__law_stepped) (defScope st__law_stepped) .none kV14 dc14 pm14 an14 cd14 ct14), sl14⟩) (c14 : PySem.W.codeIn K cd14 "_law_stepped" = true) (k14 : PySem.W.keepIn K (.ref f14) = true)
    (a15 : PySem.W.nsIn K mainGlobals "_law_times" = some (some (.ref f15))) (l15 : K.lookup f15 = some ⟨oc15, od15, .func (PySem.W.fnOf "_law_times" "_law_times" (defArgs st__law_times) (defBody st__law_times) (defScope st__law_times) .none kV15 dc15 pm15 an15 cd15 ct15), sl15⟩) (c15 : PySem.W.codeIn K cd15 "_law_times" = true) (k15 : PySem.W.keepIn K (.ref f15) = true)
    (a16 : PySem.W.nsIn K mainGlobals "_law_far_point" = some (some (.ref f16))) (l16 : K.lookup f16 = some ⟨oc16, od16, .func (PySem.W.fnOf "_law_far_point" "_law_far_point" (defArgs st__law_far_point) (defBody st__law_far_point) (defScope st__law_far_point) .none kV16 dc16 pm16 an16 cd16 ct16), sl16⟩) (c16 : PySem.W.codeIn K cd16 "_law_far_point" = true) (k16 : PySem.W.keepIn K (.ref f16) = true)
    (a17 : PySem.W.nsIn K mainGlobals "_law_some_prices" = some (some (.ref f17))) (l17 : K.lookup f17 = some ⟨oc17, od17, .func (PySem.W.fnOf "_law_some_prices" "_law_some_prices" (defArgs st__law_some_prices) (defBody st__law_some_prices) (defScope st__law_some_prices) .none kV17 dc17 pm17 an17 cd17 ct17), sl17⟩) (c17 : PySem.W.codeIn K cd17 "_law_some_prices" = true) (k17 : PySem.W.keepIn K (.ref f17) = true)
    (a18 : PySem.W.nsIn K mainGlobals "_law_are_points_right" = some (some (.ref f18))) (l18 : K.lookup f18 = some ⟨oc18, od18, .func (PySem.W.fnOf "_law_are_points_right" "_law_are_points_right" (defArgs st__law_are_points_right) (defBody st__law_are_points_right) (defScope st__law_are_points_right) .none kV18 dc18 pm18 an18 cd18 ct18), sl18⟩) (c18 : PySem.W.codeIn K cd18 "_law_are_points_right" = true) (k18 : PySem.W.keepIn K (.ref f18) = true)
    (a19 : PySem.W.nsIn K mainGlobals "_law_are_steps_right" = some (some (.ref f19))) (l19 : K.lookup f19 = some ⟨oc19, od19, .func (PySem.W.fnOf "_law_are_steps_right" "_law_are_steps_right" (defArgs st__law_are_steps_right) (defBody st__law_are_steps_right) (defScope st__law_are_steps_right) .none kV19 dc19 pm19 an19 cd19 ct19), sl19⟩) (c19 : PySem.W.codeIn K cd19 "_law_are_steps_right" = true) (k19 : PySem.W.keepIn K (.ref f19) = true)
    (a20 : PySem.W.nsIn K mainGlobals "law" = some (some (.ref f20))) (l20 : K.lookup f20 = some ⟨oc20, od20, .func (PySem.W.fnOf "law" "law" (defArgs st_law) (defBody st_law) (defScope st_law) .none kV20 dc20 pm20 an20 cd20 ct20), sl20⟩) (c20 : PySem.W.codeIn K cd20 "law" = true) (k20 : PySem.W.keepIn K (.ref f20) = true)
    (z_abs : PySem.W.nsIn K mainGlobals "abs" = some none)
    (z_enumerate : PySem.W.nsIn K mainGlobals "enumerate" = some none)
    (z_int : PySem.W.nsIn K mainGlobals "int" = some none)
    (z_len : PySem.W.nsIn K mainGlobals "len" = some none)
    (z_max : PySem.W.nsIn K mainGlobals "max" = some none)
    (z_min : PySem.W.nsIn K mainGlobals "min" = some none)
    (z_range : PySem.W.nsIn K mainGlobals "range" = some none)
    (z_repr : PySem.W.nsIn K mainGlobals "repr" = some none)
    (z_sum : PySem.W.nsIn K mainGlobals "sum" = some none)
    (z_tuple : PySem.W.nsIn K mainGlobals "tuple" = some none)
    (z_zip : PySem.W.nsIn K mainGlobals "zip" = some none)
    : ∃ fd : FuncData, (∀ (s : Shared) (v : Value), BindsTo s fd ⟨[v], []⟩ [("script", v)]) ∧ ∀ base : Heap, K.In base → base.Ns mainGlobals mg → FnG l.prog w K mg base 4 fa fd ["script"] (spOf xr K 1 m_law) := by
  have e : f20 = fa := by have z := (PySem.W.mg_of X G a20).symm.trans hfa; cases z; rfl
  subst e
  let T : Top K mg := {
    a_over := f0, d_over := _, F_over := fun_mk (st := st_over) l0 c0 k0, g_over := PySem.W.mg_of X G a0,
    a_distance := f1, d_distance := _, F_distance := fun_mk (st := st_distance) l1 c1 k1, g_distance := PySem.W.mg_of X G a1,
    a_lower := f2, d_lower := _, F_lower := fun_mk (st := st_lower) l2 c2 k2, g_lower := PySem.W.mg_of X G a2,
    a_upper := f3, d_upper := _, F_upper := fun_mk (st := st_upper) l3 c3 k3, g_upper := PySem.W.mg_of X G a3,
    a_stepped := f4, d_stepped := _, F_stepped := fun_mk (st := st_stepped) l4 c4 k4, g_stepped := PySem.W.mg_of X G a4,
    a_times := f5, d_times := _, F_times := fun_mk (st := st_times) l5 c5 k5, g_times := PySem.W.mg_of X G a5,
    a__law_pot := f6, d__law_pot := _, F__law_pot := fun_mk (st := st__law_pot) l6 c6 k6, g__law_pot := PySem.W.mg_of X G a6,
    a__law_of := f7, d__law_of := _, F__law_of := fun_mk (st := st__law_of) l7 c7 k7, g__law_of := PySem.W.mg_of X G a7,
    a__law_one := f8, d__law_one := _, F__law_one := fun_mk (st := st__law_one) l8 c8 k8, g__law_one := PySem.W.mg_of X G a8,
    a__law_from := f9, d__law_from := _, F__law_from := fun_mk (st := st__law_from) l9 c9 k9, g__law_from := PySem.W.mg_of X G a9,
    a__law_over := f10, d__law_over := _, F__law_over := fun_mk (st := st__law_over) l10 c10 k10, g__law_over := PySem.W.mg_of X G a10,
    a__law_distance := f11, d__law_distance := _, F__law_distance := fun_mk (st := st__law_distance) l11 c11 k11, g__law_distance := PySem.W.mg_of X G a11,
    a__law_lower := f12, d__law_lower := _, F__law_lower := fun_mk (st := st__law_lower) l12 c12 k12, g__law_lower := PySem.W.mg_of X G a12,
    a__law_upper := f13, d__law_upper := _, F__law_upper := fun_mk (st := st__law_upper) l13 c13 k13, g__law_upper := PySem.W.mg_of X G a13,
    a__law_stepped := f14, d__law_stepped := _, F__law_stepped := fun_mk (st := st__law_stepped) l14 c14 k14, g__law_stepped := PySem.W.mg_of X G a14,
    a__law_times := f15, d__law_times := _, F__law_times := fun_mk (st := st__law_times) l15 c15 k15, g__law_times := PySem.W.mg_of X G a15,
    a__law_far_point := f16, d__law_far_point := _, F__law_far_point := fun_mk (st := st__law_far_point) l16 c16 k16, g__law_far_point := PySem.W.mg_of X G a16,
    a__law_some_prices := f17, d__law_some_prices := _, F__law_some_prices := fun_mk (st := st__law_some_prices) l17 c17 k17, g__law_some_prices := PySem.W.mg_of X G a17,
    a__law_are_points_right := f18, d__law_are_points_right := _, F__law_are_points_right := fun_mk (st := st__law_are_points_right) l18 c18 k18, g__law_are_points_right := PySem.W.mg_of X G a18,
    a__law_are_steps_right := f19, d__law_are_steps_right := _, F__law_are_steps_right := fun_mk (st := st__law_are_steps_right) l19 c19 k19, g__law_are_steps_right := PySem.W.mg_of X G a19,
    a_law := f20, d_law := _, F_law := fun_mk (st := st_law) l20 c20 k20, g_law := PySem.W.mg_of X G a20,
    z_abs := PySem.W.mg_none_of X G z_abs,
    z_enumerate := PySem.W.mg_none_of X G z_enumerate,
    z_int := PySem.W.mg_none_of X G z_int,
    z_len := PySem.W.mg_none_of X G z_len,
    z_max := PySem.W.mg_none_of X G z_max,
    z_min := PySem.W.mg_none_of X G z_min,
    z_range := PySem.W.mg_none_of X G z_range,
    z_repr := PySem.W.mg_none_of X G z_repr,
    z_sum := PySem.W.mg_none_of X G z_sum,
    z_tuple := PySem.W.mg_none_of X G z_tuple,
    z_zip := PySem.W.mg_none_of X G z_zip }
  exact ⟨T.d_law, fun s v => .of_eq rfl, fun base _ _ => ok_law T⟩
end LawP

namespace LawP
open PySem PySem.Spec PyProof.Rows L2 PyE
local macro_rules | `(tactic| trivial) => `(tactic| try simp (implicitDefEqProofs := false) only [ev_runR_rt, ev_runR_nx, eb_ok, eb_no, eb_ex, eb_bnd, ev_frz, ev_frz_d, ev_frz_nl, ev_frz_s, ev_frS_fz, ev_frS_ol, ev_dE, ev_dK, ev_slot, ev_slK_fz, ev_slK_ol, ev_slK_od, ev_slK_rs, ev_data, ev_de_d, ev_de_nl, ev_de_nd, ev_de_s, ev_drS_fz, ev_drS_ol, ev_drS_od, ev_fin, ev_op2, ev_o2a, ev_o2b, ev_o2c, ev_op1, ev_o1a, ev_o1b, ev_test, ev_teK, ev_te2, ev_te3, ev_bool, ev_boK, ev_and, ev_anK_t, ev_anK_f, ev_or, ev_orK_t, ev_orK_f, ev_not, ev_noK, ev_andE, ev_aeK_t, ev_aeK_f, ev_orE, ev_oeK_t, ev_oeK_f, ev_notE, ev_neK, ev_ifE, ev_ieK_t, ev_ieK_f, ev_args0, ev_args, ev_aeC, ev_aeD, ev_argd0, ev_argd, ev_adC, ev_adD, ev_tup, ev_tuK, ev_lst, ev_liK, ev_opN, ev_onK, ev_onO, ev_des0, ev_des, ev_consO, ev_slice, ev_slA, ev_slB, ev_slC_d, ev_slC_nl, ev_slC_s, ev_slD, ev_part0, ev_part, ev_paK, ev_seq, ev_isK_l, ev_isK_t, ev_rg1, ev_ir1, ev_rg2, ev_ir2, ev_enum, ev_enK, ev_zip, ev_ziK, ev_ziO, ev_sq_l, ev_sq_t, ev_zip3, ev_comp, ev_coK, ev_coF, ev_wipe0, ev_wipe, ev_rest0, ev_rest, ev_yes, ev_step, ev_stepO, ev_stepT_t, ev_stepT_f, ev_stepE, ev_tgN, ev_tgT, ev_tgA0, ev_tgA, ev_tgO, ev_sq, ev_sqK_nx, ev_sqK_rt, ev_sqK_bk, ev_sqK_ct, ev_skip, ev_drop, ev_drK, ev_if, ev_ifK_t, ev_ifK_f, ev_own, ev_owK_d, ev_owK_nl, ev_owK_nd, ev_owK_nr, ev_owK_s, ev_owD, ev_put_d, ev_put_nl, ev_put_nd, ev_put_nr, ev_set, ev_setT, ev_stK, ev_stO, ev_ret, ev_give_d, ev_give_nl, ev_give_nd, ev_give_nr, ev_for, ev_par, ev_prC, ev_prD, ev_prE, ev_pot, ev_potK, forL_nil, ev_bodyO, ev_forT_nx, ev_forT_ct, ev_forT_bk, ev_forT_rt, ev_argp0, ev_argp, ev_apC, ev_apD, ev_pass, ev_paN_d, ev_paN_s, ev_paN_nl, ev_call, ev_callM, ev_caO, ev_caF, ev_pm0, ev_pm_d, ev_pm_s, ev_conM, ev_bm0, ev_bm_s, ev_bm_d, ev_so0, ev_so_d, ev_so_s, ev_mv_fz, ev_mv_ol, ev_mv_od, ev_mv_rs, ev_callK, ev_ckC, ev_ckK, List.getElem?_cons_zero, List.getElem?_cons_succ, List.set_cons_zero, List.set_cons_succ, List.getD_cons_zero, List.getD_cons_succ, List.map_cons, List.map_nil, List.cons_append, List.nil_append, List.length_cons, List.length_nil, Nat.reduceAdd, Nat.zero_add, Option.join_some, Option.join_none, distinct, List.contains_cons, List.contains_nil, Nat.reduceBEq, Bool.or_false, Bool.or_self, Bool.not_false, Bool.not_true, Bool.and_true, Bool.and_self, Option.some.injEq, iD, bD, subD, absD, max2D, min2D, int1D, negD, cmpD, lenL, lenT, tupL, tupT, lisL, lisT, addD_int, neD_int, eqD_int, eqD_str, neD_str, beq_self_eq_true, List.length_map])
theorem over_same : m__law_over = m_over := rfl
theorem distance_same : m__law_distance = m_distance := rfl
theorem lower_same : m__law_lower = m_lower := rfl
theorem upper_same : m__law_upper = m_upper := rfl
theorem stepped_same : m__law_stepped = m_stepped := rfl
theorem times_same : m__law_times = m_times := rfl
def ab (x : Int) : Int := if x < 0 then -x else x
def mn (x y : Int) : Int := if y < x then y else x
def mx (x y : Int) : Int := if y > x then y else x
def dist (a b : List Int) : Int := ((a.zip b).map fun p => ab (p.1 - p.2)).sum
def low (a b : List Int) : List Int := (a.zip b).map fun p => mn p.1 p.2
def upp (a b : List Int) : List Int := (a.zip b).map fun p => mx p.1 p.2
def tms (a b : List Int) : Int := ((a.zip b).map fun p => p.1 * p.2).sum
def ovr (a b : List Int) : List Nat := (List.range a.length).filter fun i => decide (b.getD i 0 < a.getD i 0)
theorem distance_ok (a b : List Int) : m_distance [.fz (pt a), .fz (pt b)] = .ok (.fz (.int (dist a b))) [some (.fz (pt a)), some (.fz (pt b))] := by
  refine run_rt (st := [some _, some _, none, none]) (m' := [some _, some _, none, none]) rfl rfl rfl ?_
  unfold g_distance
  trivial
  rw [zip_eq, compL_mapOf _ _ (fun p => .int (ab (p.1 - p.2))) fun p _ => ?_]
  · trivial
    rw [show (List.map (fun p : Int × Int => PyData.int (ab (p.1 - p.2))) (a.zip b)) = ((a.zip b).map fun p => ab (p.1 - p.2)).map .int by rw [List.map_map]; rfl, sum_ints]
    trivial
    rfl
  · trivial
    rfl
theorem lower_ok (a b : List Int) : m_lower [.fz (pt a), .fz (pt b)] = .ok (.fz (pt (low a b))) [some (.fz (pt a)), some (.fz (pt b))] := by
  refine run_rt (st := [some _, some _, none, none]) (m' := [some _, some _, none, none]) rfl rfl rfl ?_
  unfold g_lower
  trivial
  rw [zip_eq, compL_mapOf _ _ (fun p => .int (mn p.1 p.2)) fun p _ => ?_]
  · trivial
    rw [show (List.map (fun p : Int × Int => PyData.int (mn p.1 p.2)) (a.zip b)) = (low a b).map .int by unfold low; rw [List.map_map]; rfl]
  · trivial
    rfl
theorem upper_ok (a b : List Int) : m_upper [.fz (pt a), .fz (pt b)] = .ok (.fz (pt (upp a b))) [some (.fz (pt a)), some (.fz (pt b))] := by
  refine run_rt (st := [some _, some _, none, none]) (m' := [some _, some _, none, none]) rfl rfl rfl ?_
  unfold g_upper
  trivial
  rw [zip_eq, compL_mapOf _ _ (fun p => .int (mx p.1 p.2)) fun p _ => ?_]
  · trivial
    rw [show (List.map (fun p : Int × Int => PyData.int (mx p.1 p.2)) (a.zip b)) = (upp a b).map .int by unfold upp; rw [List.map_map]; rfl]
  · trivial
    rfl
theorem times_ok {B : Int} (a b : List Int) (hb : Bd B b) (hB : B < 1000000000000000000) : m_times [.fz (pt a), .fz (pt b)] = .ok (.fz (.int (tms a b))) [some (.fz (pt a)), some (.fz (pt b))] := by
  refine run_rt (st := [some _, some _, none, none]) (m' := [some _, some _, none, none]) rfl rfl rfl ?_
  unfold g_times
  trivial
  rw [zip_eq, compL_mapOf _ _ (fun p => .int (p.1 * p.2)) fun p hp => ?_]
  · trivial
    rw [show (List.map (fun p : Int × Int => PyData.int (p.1 * p.2)) (a.zip b)) = ((a.zip b).map fun p => p.1 * p.2).map .int by rw [List.map_map]; rfl, sum_ints]
    trivial
    rfl
  · have h := hb p.2 (List.of_mem_zip hp).2
    trivial
    rw [mulD_r (smallI_of (by omega) (by omega))]
    trivial
theorem getD_at {a : List Int} {i : Nat} (h : i < a.length) : (a.map PyData.int)[i]? = some (.int (a.getD i 0)) := by
  rw [List.getElem?_map, List.getElem?_eq_getElem h, List.getD_eq_getElem?_getD, List.getElem?_eq_getElem h]; rfl
theorem over_ok (a b : List Int) (h : a.length = b.length) (hl : a.length ≤ 1000) : m_over [.fz (pt a), .fz (pt b)] = .ok (.fz (pt ((ovr a b).map fun (i : Nat) => (i : Int)))) [some (.fz (pt a)), some (.fz (pt b))] := by
  refine run_rt (st := [some _, some _, none]) (m' := [some _, some _, none]) rfl rfl rfl ?_
  unfold g_over
  trivial
  rw [ev_irK (okRg_nat (by omega)), rangeD_nat]
  trivial
  rw [compL_filterOf _ (fun i => decide (b.getD i 0 < a.getD i 0)) _ (fun (i : Nat) => .int (i : Int)) fun i hi => ?_]
  · trivial
    simp only [pt, ovr, List.map_map]
    rfl
  · have hi : i < a.length := List.mem_range.mp hi
    trivial
    rw [ix_tuple (getD_at hi)]
    trivial
    rw [ix_tuple (getD_at (h ▸ hi))]
    trivial
    by_cases hc : b.getD i 0 < a.getD i 0
    · rw [decide_eq_true hc]; trivial; rfl
    · rw [decide_eq_false hc]; trivial; rfl
def stp (a : List Int) (u d : List Int) : List Int := a.zipIdx.map fun p => p.1 + (if (u.any fun z => z == (p.2 : Int)) = true then 1 else 0) - (if (d.any fun z => z == (p.2 : Int)) = true then 1 else 0)
theorem stepped_ok (a u d : List Int) : m_stepped [.fz (pt a), .fz (pt u), .fz (pt d)] = .ok (.fz (pt (stp a u d))) [some (.fz (pt a)), some (.fz (pt u)), some (.fz (pt d))] := by
  refine run_rt (st := [some _, some _, some _, none, none]) (m' := [some _, some _, some _, none, none]) rfl rfl rfl ?_
  unfold g_stepped
  trivial
  rw [enum_eq, compL_mapOf _ _ (fun p => .int (p.1 + (if (u.any fun z => z == (p.2 : Int)) = true then 1 else 0) - (if (d.any fun z => z == (p.2 : Int)) = true then 1 else 0))) fun p _ => ?_]
  · trivial
    simp only [pt, stp, List.map_map]
    rfl
  · trivial
    rw [in_pt]
    trivial
    rw [in_pt]
    trivial
theorem one_ok {mv : Mv} (hp : PotA mv) (ns : List Int) (h0 : ns ≠ []) (hl : ns.length ≤ 1000) : ∃ n mv', m__law_one [mv, .fz (.list (ns.map .int))] = .ok (.fz (.int n)) [some mv', some (.fz (.list (ns.map .int)))] ∧ PotA mv' ∧ n ∈ ns := by
  have h1 : 0 < ns.length := List.length_pos_iff.mpr h0
  obtain ⟨c, a, b, rfl, hc⟩ := id hp
  obtain ⟨v, mv', e, hp', h2, h3⟩ := potA_draw hp (many := ns.length) (by omega)
  have h3 := h3 (by omega)
  obtain ⟨k, rfl⟩ := Int.eq_ofNat_of_zero_le h2
  have hk : k < ns.length := by omega
  refine ⟨ns.getD k 0, mv', ?_, hp', ?_⟩
  · refine run_rt (st := [some _, some _]) (m' := [some _, some _]) rfl rfl rfl ?_
    unfold g__law_one
    trivial
    rw [e]
    trivial
    rw [ix_list (getD_at hk)]
    trivial
  · rw [List.getD_eq_getElem?_getD, List.getElem?_eq_getElem hk]; exact List.getElem_mem _
theorem from_ok {mv : Mv} (hp : PotA mv) (lo hi : Int) (h : lo ≤ hi) (h2 : hi - lo < 1000000000) : ∃ n mv', m__law_from [mv, .fz (.int lo), .fz (.int hi)] = .ok (.fz (.int n)) [some mv', some (.fz (.int lo)), some (.fz (.int hi))] ∧ PotA mv' ∧ lo ≤ n ∧ n ≤ hi := by
  obtain ⟨v, mv', e, hp', h3, h4⟩ := potA_draw hp (many := hi - lo + 1) (by omega)
  have h4 := h4 (by omega)
  obtain ⟨c, a, b, rfl, hc⟩ := id hp
  refine ⟨lo + v, mv', ?_, hp', by omega, by omega⟩
  refine run_rt (st := [some _, some _, some _]) (m' := [some _, some _, some _]) rfl rfl rfl ?_
  unfold g__law_from
  trivial
  rw [e]
  trivial
/-- a comprehension of points drawn -/
theorem draws_ok {mv : Mv} (hp : PotA mv) (B : Int) (hB : 0 ≤ B) (hB2 : B < 100000) (n : Nat) (d1 : Mv) {F : Ev Rv}
    (hF : ∀ (x : PyData) (mv : Mv), PotA mv → ∃ k mv', F [some mv, some d1, some (.fz x)] = .ok (.d (.int k)) [some mv', some d1, some (.fz x)] ∧ PotA mv' ∧ -B ≤ k ∧ k ≤ B) :
    ∃ ns mv', compL [2] (tgName 2) yesT (frzE F) ((List.range n).map fun (i : Nat) => PyData.int (i : Int)) [] [some mv, some d1, none] = .ok (ns.map .int) [some mv', some d1, none] ∧ PotA mv' ∧ ns.length = n ∧ Bd B ns := by
  obtain ⟨ys, m', e, ⟨mv', hm, hp'⟩, hl, hy⟩ := compL_all (own := [2]) (bt := tgName 2) (tst := yesT) (e := frzE F) (fun m => ∃ mv', m = [some mv', some d1, none] ∧ PotA mv') (fun y => ∃ k : Int, y = .int k ∧ -B ≤ k ∧ k ≤ B) (ds := (List.range n).map fun (i : Nat) => PyData.int (i : Int)) (m := [some mv, some d1, none])
    (fun d hd m ⟨mv1, hm, hp1⟩ => by
      subst hm
      obtain ⟨k, mv2, e2, hp2, h1, h2⟩ := hF d mv1 hp1
      refine ⟨.int k, [some mv2, some d1, none], ?_, ⟨mv2, rfl, hp2⟩, k, rfl, h1, h2⟩
      trivial
      rw [e2]
      trivial) ⟨mv, rfl, hp⟩
  subst hm
  obtain ⟨ns, rfl⟩ : ∃ ns : List Int, ys = ns.map .int := by
    clear e hl
    induction ys with
    | nil => exact ⟨[], rfl⟩
    | cons y ys ih =>
      obtain ⟨k, rfl, _⟩ := hy y (List.mem_cons_self ..)
      obtain ⟨ns, rfl⟩ := ih fun z hz => hy z (List.mem_cons_of_mem _ hz)
      exact ⟨k :: ns, rfl⟩
  refine ⟨ns, mv', e, hp', by simpa using hl, fun k hk => ?_⟩
  obtain ⟨k', e', h1, h2⟩ := hy (.int k) (List.mem_map_of_mem hk)
  cases e'
  exact ⟨h1, h2⟩
theorem far_ok {mv : Mv} (hp : PotA mv) (n : Nat) (hn : n ≤ 1000) : ∃ ns mv', m__law_far_point [mv, .fz (.int n)] = .ok (.fz (pt ns)) [some mv', some (.fz (.int n))] ∧ PotA mv' ∧ ns.length = n ∧ Bd 20 ns := by
  obtain ⟨v, mv1, e, hp1, h3, h4⟩ := potA_draw hp (many := 2) (by omega)
  obtain ⟨c, a, b, rfl, hc⟩ := id hp
  obtain ⟨c1, a1, b1, rfl, hc1⟩ := id hp1
  by_cases hv : v = 0
  · subst hv
    obtain ⟨ns, mv', e2, hp2, hl, hb⟩ := draws_ok hp1 20 (by omega) (by omega) n (.fz (.int n)) (F := callE m__law_from [slotE 0, op1E negD (dataE (.int 20)), dataE (.int 20)]) fun x mv hp => by
      obtain ⟨k, mv', e, hp', h1, h2⟩ := from_ok hp (-20) 20 (by omega) (by omega)
      obtain ⟨c, a, b, rfl, hc⟩ := id hp
      refine ⟨k, mv', ?_, hp', h1, h2⟩
      trivial
      rw [e]
      trivial
    refine ⟨ns, mv', ?_, hp2, hl, hb⟩
    refine run_rt (st := [some _, some _, none]) (m' := [some _, some _, none]) rfl rfl rfl ?_
    unfold g__law_far_point
    trivial
    rw [e]
    trivial
    rw [ev_irK (okRg_nat (by omega)), rangeD_nat]
    trivial
    rw [e2]
    trivial
  · obtain ⟨ns, mv', e2, hp2, hl, hb⟩ := draws_ok hp1 3 (by omega) (by omega) n (.fz (.int n)) (F := callE m__law_from [slotE 0, op1E negD (dataE (.int 3)), dataE (.int 3)]) fun x mv hp => by
      obtain ⟨k, mv', e, hp', h1, h2⟩ := from_ok hp (-3) 3 (by omega) (by omega)
      obtain ⟨c, a, b, rfl, hc⟩ := id hp
      refine ⟨k, mv', ?_, hp', h1, h2⟩
      trivial
      rw [e]
      trivial
    refine ⟨ns, mv', ?_, hp2, hl, hb.mono (by omega)⟩
    refine run_rt (st := [some _, some _, none]) (m' := [some _, some _, none]) rfl rfl rfl ?_
    unfold g__law_far_point
    trivial
    rw [e]
    trivial
    rw [show (v == 0) = false by simpa using hv]
    trivial
    rw [ev_irK (okRg_nat (by omega)), rangeD_nat]
    trivial
    rw [e2]
    trivial
theorem prices_ok {mv : Mv} (hp : PotA mv) (n : Nat) (hn : n ≤ 1000) : ∃ ns mv', m__law_some_prices [mv, .fz (.int n)] = .ok (.fz (pt ns)) [some mv', some (.fz (.int n))] ∧ PotA mv' ∧ ns.length = n ∧ Bd 10000 ns := by
  obtain ⟨most, mv1, e, hp1, hm⟩ := one_ok hp [2, 5, 40, 10000] (by decide) (by decide)
  have hm : 0 ≤ most ∧ most ≤ 10000 := by
    simp only [List.mem_cons, List.not_mem_nil, or_false] at hm
    omega
  obtain ⟨c, a, b, rfl, hc⟩ := id hp
  obtain ⟨ns, mv', e2, hp2, hl, hb⟩ := draws_gen (fun mv => [some mv, some (.fz (.int n)), some (.fz (.int most)), none]) PyData.int (fun k => -10000 ≤ k ∧ k ≤ 10000) (own := [3]) (bt := tgName 3) (tst := yesT) (e := frzE (callE m__law_from [slotE 0, op1E negD (slotE 2), slotE 2]))
    (ds := (List.range n).map fun (i : Nat) => PyData.int (i : Int)) hp1 fun d hd mv hp => by
      obtain ⟨k, mv', e, hp', h1, h2⟩ := from_ok hp (-most) most (by omega) (by omega)
      obtain ⟨c, a, b, rfl, hc⟩ := id hp
      refine ⟨k, mv', ?_, hp', by omega, by omega⟩
      trivial
      rw [e]
      trivial
  obtain ⟨c1, a1, b1, rfl, hc1⟩ := id hp1
  refine ⟨ns, mv', ?_, hp2, by simpa using hl, hb⟩
  refine run_rt (st := [some _, some _, none, none]) (m' := [some _, some _, some (.fz (.int most)), none]) rfl rfl rfl ?_
  unfold g__law_some_prices
  trivial
  rw [show [PyData.int 2, .int 5, .int 40, .int 10000] = [2, 5, 40, 10000].map PyData.int from rfl, e]
  trivial
  rw [ev_irK (okRg_nat (by omega)), rangeD_nat]
  trivial
  rw [e2]
  trivial
/-! ### the reckoning -/
theorem split_sum : ∀ (a b : List Int), a.length = b.length → ((ovr a b).map fun i => a.getD i 0 - b.getD i 0).sum + ((ovr b a).map fun i => b.getD i 0 - a.getD i 0).sum = dist a b := by
  intro a
  induction a with
  | nil =>
    intro b h
    have : b = [] := by cases b; rfl; cases h
    subst this; rfl
  | cons x a ih =>
    intro b h
    cases b with
    | nil => cases h
    | cons y b =>
      have h' : a.length = b.length := by simpa using h
      have ih := ih b h'
      have st : ∀ (x y : Int) (a b : List Int), ovr (x :: a) (y :: b) = (if y < x then [0] else []) ++ (ovr a b).map (· + 1) := by
        intro x y a b
        unfold ovr
        rw [List.length_cons, List.range_succ_eq_map, List.filter_cons, List.filter_map]
        simp only [List.getD_cons_zero]
        by_cases hc : y < x
        · rw [if_pos (by simpa using hc), if_pos hc]; rfl
        · rw [if_neg (by simpa using hc), if_neg hc]; rfl
      rw [st, st]
      simp only [List.map_append, List.sum_append, List.map_map]
      have e1 : ((ovr a b).map ((fun i => (x :: a).getD i 0 - (y :: b).getD i 0) ∘ (· + 1))) = (ovr a b).map fun i => a.getD i 0 - b.getD i 0 := rfl
      have e2 : ((ovr b a).map ((fun i => (y :: b).getD i 0 - (x :: a).getD i 0) ∘ (· + 1))) = (ovr b a).map fun i => b.getD i 0 - a.getD i 0 := rfl
      rw [e1, e2]
      have e3 : dist (x :: a) (y :: b) = ab (x - y) + dist a b := by
        unfold dist; rw [List.zip_cons_cons, List.map_cons, List.sum_cons]
      rw [e3, ← ih]
      unfold ab
      by_cases h1 : y < x
      · rw [if_pos h1, if_neg (show ¬ x < y by omega), if_neg (show ¬ x - y < 0 by omega)]
        simp
        omega
      · by_cases h2 : x < y
        · rw [if_neg h1, if_pos h2, if_pos (show x - y < 0 by omega)]
          simp
          omega
        · rw [if_neg h1, if_neg h2, if_neg (show ¬ x - y < 0 by omega)]
          simp
          omega
theorem zip_low_upp : ∀ (a b : List Int), dist (low a b) (upp a b) = dist a b := by
  intro a
  induction a with
  | nil => intro b; rfl
  | cons x a ih =>
    intro b
    cases b with
    | nil => rfl
    | cons y b =>
      have e : ∀ (x y : Int) (a b : List Int), dist (x :: a) (y :: b) = ab (x - y) + dist a b := by
        intro x y a b
        unfold dist; rw [List.zip_cons_cons, List.map_cons, List.sum_cons]
      have e1 : low (x :: a) (y :: b) = mn x y :: low a b := rfl
      have e2 : upp (x :: a) (y :: b) = mx x y :: upp a b := rfl
      rw [e1, e2, e, e, ih]
      congr 1
      unfold ab mn mx
      repeat' split
      all_goals omega
theorem times_low_upp : ∀ (p a b : List Int), a.length = b.length → tms p (low a b) + tms p (upp a b) = tms p a + tms p b := by
  intro p
  induction p with
  | nil => intro a b _; rfl
  | cons q p ih =>
    intro a b h
    cases a with
    | nil => cases b with
      | nil => rfl
      | cons y b => cases h
    | cons x a =>
      cases b with
      | nil => cases h
      | cons y b =>
        have e : ∀ (x y : Int) (a b : List Int), tms (x :: a) (y :: b) = x * y + tms a b := by
          intro x y a b
          unfold tms; rw [List.zip_cons_cons, List.map_cons, List.sum_cons]
        have e1 : low (x :: a) (y :: b) = mn x y :: low a b := rfl
        have e2 : upp (x :: a) (y :: b) = mx x y :: upp a b := rfl
        have ih := ih a b (by simpa using h)
        rw [e1, e2, e, e, e, e]
        unfold mn mx
        by_cases h1 : y < x
        · rw [if_pos h1, if_neg (show ¬ y > x by omega)]; omega
        · by_cases h2 : y > x
          · rw [if_neg h1, if_pos h2]; omega
          · rw [if_neg h1, if_neg h2]
            have : x = y := by omega
            subst this
            omega
theorem bd_low {B : Int} {a b : List Int} (ha : Bd B a) (hb : Bd B b) : Bd B (low a b) := fun n hn => by
  obtain ⟨p, hp, rfl⟩ := List.mem_map.mp hn
  have h1 := ha p.1 (List.of_mem_zip hp).1
  have h2 := hb p.2 (List.of_mem_zip hp).2
  show -B ≤ mn p.1 p.2 ∧ mn p.1 p.2 ≤ B
  unfold mn; split <;> omega
theorem bd_upp {B : Int} {a b : List Int} (ha : Bd B a) (hb : Bd B b) : Bd B (upp a b) := fun n hn => by
  obtain ⟨p, hp, rfl⟩ := List.mem_map.mp hn
  have h1 := ha p.1 (List.of_mem_zip hp).1
  have h2 := hb p.2 (List.of_mem_zip hp).2
  show -B ≤ mx p.1 p.2 ∧ mx p.1 p.2 ≤ B
  unfold mx; split <;> omega
theorem bd_ovr {a b : List Int} : Bd a.length ((ovr a b).map fun (i : Nat) => (i : Int)) := fun n hn => by
  obtain ⟨i, hi, rfl⟩ := List.mem_map.mp hn
  have : i < a.length := List.mem_range.mp (List.mem_filter.mp hi).1
  omega
theorem len_ovr (a b : List Int) : (ovr a b).length ≤ a.length := by
  unfold ovr
  exact Nat.le_trans (List.length_filter_le _ _) (by simp)
theorem dist_bd {B : Int} {a b : List Int} (ha : Bd B a) (hb : Bd B b) (hB : 0 ≤ B) (hl : a.length ≤ 1000) : 0 ≤ dist a b ∧ dist a b ≤ 2 * B * 1000 := by
  have h : ∀ (a b : List Int), Bd B a → Bd B b → 0 ≤ dist a b ∧ dist a b ≤ 2 * B * a.length := by
    intro a
    induction a with
    | nil => intro b _ _; exact ⟨Int.le_refl _, by show (0 : Int) ≤ _; simp⟩
    | cons x a ih =>
      intro b h1 h2
      cases b with
      | nil => exact ⟨Int.le_refl _, by show (0 : Int) ≤ _; exact Int.mul_nonneg (by omega) (by omega)⟩
      | cons y b =>
        have e3 : dist (x :: a) (y :: b) = ab (x - y) + dist a b := by
          unfold dist; rw [List.zip_cons_cons, List.map_cons, List.sum_cons]
        have z := ih b (fun n hn => h1 n (List.mem_cons_of_mem _ hn)) (fun n hn => h2 n (List.mem_cons_of_mem _ hn))
        have z1 := h1 x (List.mem_cons_self ..)
        have z2 := h2 y (List.mem_cons_self ..)
        have e4 : 2 * B * ((x :: a).length : Int) = 2 * B * (a.length : Int) + 2 * B := by
          rw [List.length_cons]; push_cast; rw [Int.mul_add, Int.mul_one]
        rw [e3, e4]
        unfold ab
        split <;> omega
  have h1 := h a b ha hb
  refine ⟨h1.1, Int.le_trans h1.2 (Int.mul_le_mul_of_nonneg_left (by omega) (by omega))⟩
theorem points_right {mv : Mv} (hp : PotA mv) (a b : List Int) (hl : a.length = b.length) (hn : a.length ≤ 10) (ha : Bd 10000 a) (hb : Bd 10000 b) :
    m__law_are_points_right [mv, .fz (pt a), .fz (pt b)] = .ok (.fz (.bool true)) [some mv, some (.fz (pt a)), some (.fz (pt b))] := by
  obtain ⟨c, x, y, rfl, hc⟩ := id hp
  have sa : Sz (pt a) 1 11 := (sz_pt fun n hn => ha.at hn (by omega)).mono (by omega) (by omega)
  have sb : Sz (pt b) 1 11 := (sz_pt fun n hn => hb.at hn (by omega)).mono (by omega) (by omega)
  have hd := dist_bd ha hb (by omega) (by omega)
  have la := len_ovr a b
  have so : Sz (pt ((ovr a b).map fun (i : Nat) => (i : Int))) 1 11 := (sz_pt fun n hn => (bd_ovr (a := a) (b := b)).at hn (by omega)).mono (by omega) (by rw [List.length_map]; omega)
  have sd : Sz (.int (dist a b)) 1 11 := (sz_int (natAbs_ok (by omega) (by omega))).mono (by omega) (by omega)
  have ll : (low a b).length ≤ 10 := by unfold low; rw [List.length_map, List.length_zip]; omega
  have lu : (upp a b).length ≤ 10 := by unfold upp; rw [List.length_map, List.length_zip]; omega
  have sl : Sz (pt (low a b)) 1 11 := (sz_pt fun n hn => (bd_low ha hb).at hn (by omega)).mono (by omega) (by omega)
  have su : Sz (pt (upp a b)) 1 11 := (sz_pt fun n hn => (bd_upp ha hb).at hn (by omega)).mono (by omega) (by omega)
  have f1 : Fine (.list [pt a, pt b]) := (sz_list (dp := 1) (c := 11) (by simp only [List.forall_mem_cons]; exact ⟨sa, sb, by simp⟩)).fine (by omega) (by simp)
  have f2 : Fine (.list [pt ((ovr a b).map fun (i : Nat) => (i : Int)), .int (dist a b), pt (low a b), pt (upp a b)]) := (sz_list (dp := 1) (c := 11) (by simp only [List.forall_mem_cons]; exact ⟨so, sd, sl, su, by simp⟩)).fine (by omega) (by simp)
  refine (run_ev (st := [some _, some _, some _, none, none, none, none, none, none]) rfl rfl rfl).trans ?_
  unfold g__law_are_points_right
  trivial
  rw [over_same, distance_same, lower_same, upper_same]
  have hs := split_sum a b hl
  have hz := zip_low_upp a b
  repeat (first | rw [repr_ok f1] | rw [repr_ok f2] | rw [over_ok a b hl (by omega)] | rw [distance_ok a b] | rw [lower_ok a b] | rw [upper_ok a b]); trivial
  rw [addD_list (by simp)]
  trivial
  repeat (first | rw [repr_ok f1] | rw [repr_ok f2] | rw [over_ok a b hl (by omega)] | rw [distance_ok a b] | rw [lower_ok a b] | rw [upper_ok a b]); trivial
  rw [compL_mapOf _ _ (fun (i : Int) => .int (a.getD i.toNat 0 - b.getD i.toNat 0)) fun i hi => ?c1]
  case c1 =>
    obtain ⟨k, hk, rfl⟩ := List.mem_map.mp hi
    have hk1 : k < a.length := List.mem_range.mp (List.mem_filter.mp hk).1
    trivial
    rw [ix_tuple (getD_at hk1)]
    trivial
    rw [ix_tuple (getD_at (hl ▸ hk1))]
    trivial
    rfl
  trivial
  rw [over_ok b a hl.symm (by omega)]
  trivial
  rw [compL_mapOf _ _ (fun (i : Int) => .int (b.getD i.toNat 0 - a.getD i.toNat 0)) fun i hi => ?c2]
  case c2 =>
    obtain ⟨k, hk, rfl⟩ := List.mem_map.mp hi
    have hk1 : k < b.length := List.mem_range.mp (List.mem_filter.mp hk).1
    trivial
    rw [ix_tuple (getD_at hk1)]
    trivial
    rw [ix_tuple (getD_at (hl.symm ▸ hk1))]
    trivial
    rfl
  trivial
  rw [addD_list (by simp only [List.length_map]; have := len_ovr a b; have := len_ovr b a; omega)]
  trivial
  rw [show (List.map (fun (i : Int) => PyData.int (a.getD i.toNat 0 - b.getD i.toNat 0)) ((ovr a b).map fun (i : Nat) => (i : Int)) ++ List.map (fun (i : Int) => PyData.int (b.getD i.toNat 0 - a.getD i.toNat 0)) ((ovr b a).map fun (i : Nat) => (i : Int))) =
    (((ovr a b).map fun i => a.getD i 0 - b.getD i 0) ++ ((ovr b a).map fun i => b.getD i 0 - a.getD i 0)).map PyData.int by
      rw [List.map_append, List.map_map, List.map_map, List.map_map, List.map_map]; rfl, sum_ints, List.sum_append, hs]
  trivial
  repeat (first | rw [repr_ok f1] | rw [repr_ok f2] | rw [over_ok a b hl (by omega)] | rw [distance_ok a b] | rw [lower_ok a b] | rw [upper_ok a b] | rw [distance_ok (low a b) (upp a b), hz]); trivial
  rw [show (PyData.int 1) = .int ((1 : Nat) : Int) from rfl, ix_list (i := 1) (d := .int (dist a b)) rfl]
  trivial
  repeat (first | rw [repr_ok f1] | rw [repr_ok f2] | rw [over_ok a b hl (by omega)] | rw [distance_ok a b] | rw [lower_ok a b] | rw [upper_ok a b] | rw [distance_ok (low a b) (upp a b), hz]); trivial
  rfl
theorem mul_bd {B x y : Int} (hB : 0 ≤ B) (hx : -B ≤ x ∧ x ≤ B) (hy : -B ≤ y ∧ y ≤ B) : -(B * B) ≤ x * y ∧ x * y ≤ B * B := by
  have h1 : 0 ≤ (B - x) * (B - y) := Int.mul_nonneg (by omega) (by omega)
  have h2 : 0 ≤ (B + x) * (B + y) := Int.mul_nonneg (by omega) (by omega)
  have h3 : 0 ≤ (B - x) * (B + y) := Int.mul_nonneg (by omega) (by omega)
  have h4 : 0 ≤ (B + x) * (B - y) := Int.mul_nonneg (by omega) (by omega)
  have e1 : (B - x) * (B - y) = B * B - B * y - x * B + x * y := by rw [Int.sub_mul, Int.mul_sub, Int.mul_sub]; omega
  have e2 : (B + x) * (B + y) = B * B + B * y + x * B + x * y := by rw [Int.add_mul, Int.mul_add, Int.mul_add]; omega
  have e3 : (B - x) * (B + y) = B * B + B * y - x * B - x * y := by rw [Int.sub_mul, Int.mul_add, Int.mul_add]; omega
  have e4 : (B + x) * (B - y) = B * B - B * y + x * B - x * y := by rw [Int.add_mul, Int.mul_sub, Int.mul_sub]; omega
  omega
theorem tms_bd {p a : List Int} (hp : Bd 10000 p) (ha : Bd 10000 a) (hl : a.length ≤ 10) : -1000000000 ≤ tms p a ∧ tms p a ≤ 1000000000 := by
  have h : Bd 100000000 ((p.zip a).map fun q => q.1 * q.2) := fun n hn => by
    obtain ⟨q, hq, rfl⟩ := List.mem_map.mp hn
    have := mul_bd (B := 10000) (by omega) (hp q.1 (List.of_mem_zip hq).1) (ha q.2 (List.of_mem_zip hq).2)
    omega
  have h2 := bd_sum (B := 100000000) (by omega) h
  have h3 : ((p.zip a).map fun q => q.1 * q.2).length ≤ 10 := by rw [List.length_map, List.length_zip]; omega
  have h4 : (100000000 : Int) * (((p.zip a).map fun q => q.1 * q.2).length : Int) ≤ 100000000 * 10 := Int.mul_le_mul_of_nonneg_left (by omega) (by omega)
  unfold tms
  omega
theorem stp_bd {B : Int} {a u d : List Int} (ha : Bd B a) : Bd (B + 1) (stp a u d) := fun n hn => by
  obtain ⟨p, hp, rfl⟩ := List.mem_map.mp hn
  have hp1 : p.1 ∈ a := by
    obtain ⟨_, _, h⟩ := List.mem_zipIdx hp
    rw [h]; exact List.getElem_mem _
  have h1 := ha p.1 hp1
  show -(B + 1) ≤ p.1 + (if _ then 1 else 0) - (if _ then 1 else 0) ∧ p.1 + (if _ then 1 else 0) - (if _ then 1 else 0) ≤ B + 1
  repeat' split
  all_goals omega
theorem stp_len {a u d : List Int} : (stp a u d).length = a.length := by unfold stp; simp
/-- a comprehension of places drawn -/
theorem places_ok {mv : Mv} (hp : PotA mv) (S : Mv → Sm) (n : Nat) (hn : n ≤ 1000)
    (hS : ∀ (x : PyData) (mv : Mv), PotA mv → ∀ (v : Int) (mv' : Mv), drawFA [mv, .fz (.int 2)] = .ok (.fz (.int v)) [some mv', some (.fz (.int 2))] → compStep [9] (tgName 9) (boolE (op2E eqD (callE drawFA [slotE 0, dataE (.int 2)]) (dataE (.int 0)))) (frzE (slotE 9)) x (S mv) = .ok (if (v == 0) = true then some x else none) (S mv')) :
    ∃ (ns : List Int) (mv' : Mv), compL [9] (tgName 9) (boolE (op2E eqD (callE drawFA [slotE 0, dataE (.int 2)]) (dataE (.int 0)))) (frzE (slotE 9)) ((List.range n).map fun (i : Nat) => PyData.int (i : Int)) [] (S mv) = .ok (ns.map .int) (S mv') ∧ PotA mv' := by
  obtain ⟨ks, mv', e, hp', _, _⟩ := draws_some (acc := []) S PyData.int (fun _ => True) (own := [9]) (bt := tgName 9) (tst := boolE (op2E eqD (callE drawFA [slotE 0, dataE (.int 2)]) (dataE (.int 0)))) (e := frzE (slotE 9)) (ds := (List.range n).map fun (i : Nat) => PyData.int (i : Int)) hp fun d hd mv hp => by
    obtain ⟨i, _, rfl⟩ := List.mem_map.mp hd
    obtain ⟨v, mv', e, hp', _, _⟩ := potA_draw hp (many := 2) (by omega)
    refine ⟨if (v == 0) = true then some (i : Int) else none, mv', ?_, hp', fun _ _ => trivial⟩
    rw [hS _ mv hp v mv' e]
    split <;> rfl
  exact ⟨ks, mv', by simpa using e, hp'⟩
theorem steps_right {mv : Mv} (hp : PotA mv) (a p b : List Int) (hl : a.length = b.length) (hlp : p.length ≤ 10) (hn : a.length ≤ 10) (ha : Bd 10000 a) (hb : Bd 10000 b) (hq : Bd 10000 p) :
    ∃ mv', m__law_are_steps_right [mv, .fz (pt a), .fz (pt p), .fz (pt b)] = .ok (.fz (.bool true)) [some mv', some (.fz (pt a)), some (.fz (pt p)), some (.fz (pt b))] ∧ PotA mv' := by
  obtain ⟨us, mv1, e1, hp1⟩ := places_ok hp (fun mv => [some mv, some (.fz (pt a)), some (.fz (pt p)), some (.fz (pt b)), some (.fz (.int a.length)), none, none, none, none, none]) a.length (by omega) fun x mv hp v mv' e => by
    obtain ⟨c, y, z, rfl, hc⟩ := id hp
    trivial
    rw [e]
    trivial
    cases hv : (v == 0) <;> trivial <;> rfl
  obtain ⟨ds, mv2, e2, hp2⟩ := places_ok hp1 (fun mv => [some mv, some (.fz (pt a)), some (.fz (pt p)), some (.fz (pt b)), some (.fz (.int a.length)), some (.fz (pt us)), none, none, none, none]) a.length (by omega) fun x mv hp v mv' e => by
    obtain ⟨c, y, z, rfl, hc⟩ := id hp
    trivial
    rw [e]
    trivial
    cases hv : (v == 0) <;> trivial <;> rfl
  obtain ⟨c, x, y, rfl, hc⟩ := id hp
  refine ⟨mv2, ?_, hp2⟩
  have ht := times_low_upp p a b hl
  have t1 := times_ok p a ha (by omega)
  have t2 := times_ok p b hb (by omega)
  have t3 := times_ok p (low a b) (bd_low ha hb) (by omega)
  have t4 := times_ok p (upp a b) (bd_upp ha hb) (by omega)
  have b1 := tms_bd hq ha hn
  have b2 := tms_bd hq hb (by omega)
  have ss : Sz (pt (stp a us ds)) 1 11 := (sz_pt fun n hn => (stp_bd ha).at hn (by omega)).mono (by omega) (by rw [stp_len]; omega)
  have st : Sz (.int (tms p a)) 1 11 := (sz_int (natAbs_ok (by omega) (by omega))).mono (by omega) (by omega)
  have f1 : Fine (.list [pt (stp a us ds), .int (tms p a)]) := (sz_list (dp := 1) (c := 11) (by simp only [List.forall_mem_cons]; exact ⟨ss, st, by simp⟩)).fine (by omega) (by simp)
  have f2 : Fine (.int (tms p a + tms p b)) := (sz_int (natAbs_ok (by omega) (by omega))).fine (by omega) (by omega)
  refine (run_ev (st := [some _, some _, some _, some _, none, none, none, none, none, none]) rfl rfl rfl).trans ?_
  unfold g__law_are_steps_right
  trivial
  rw [stepped_same, times_same, ev_irK (okRg_nat (by omega)), rangeD_nat]
  trivial
  rw [e1]
  trivial
  rw [ev_irK (okRg_nat (by omega)), rangeD_nat]
  trivial

  rw [e2]
  trivial
  repeat (first | rw [repr_ok f1] | rw [repr_ok f2] | rw [stepped_ok] | rw [t1] | rw [t2] | rw [t3] | rw [t4] | rw [lower_ok] | rw [upper_ok]); trivial
  rw [ht]
  repeat (first | rw [repr_ok f1] | rw [repr_ok f2] | rw [stepped_ok] | rw [t1] | rw [t2] | rw [t3] | rw [t4] | rw [lower_ok] | rw [upper_ok]); trivial
  rw [show (PyData.int 1) = .int ((1 : Nat) : Int) from rfl, ix_list (i := 1) (d := .int (tms p a)) rfl]
  trivial
  repeat (first | rw [repr_ok f1] | rw [repr_ok f2] | rw [stepped_ok] | rw [t1] | rw [t2] | rw [t3] | rw [t4] | rw [lower_ok] | rw [upper_ok]); trivial
  rfl
theorem pot_ok (ns : List Int) (h : ns.length ≤ 63) : ∃ mv, m__law_pot [.fz (.list (ns.map .int))] = .ok mv [some (.fz (.list (ns.map .int)))] ∧ PotA mv := by
  have hc : cutP (ns.map PyData.int) none (some 63) = ((ns.drop (HT.sIx ns.length 0 none)).take (HT.sIx ns.length ns.length (some 63) - HT.sIx ns.length 0 none)).map .int := by
    unfold cutP; rw [List.length_map, List.map_take, List.map_drop]
  generalize hL : (ns.drop (HT.sIx ns.length 0 none)).take (HT.sIx ns.length ns.length (some 63) - HT.sIx ns.length 0 none) = L at hc
  have hl : L.length ≤ 63 := by rw [← hL, List.length_take, List.length_drop]; omega
  obtain ⟨m1, e1, x1, o1, rfl⟩ := forL_inv (t := tgName 3) (g := setS 2 (op2E modD (op2E addD (op2E addD (op2E mulD (slotE 2) (dataE (.int 69069))) (slotE 3)) (dataE (.int 11))) (dataE (.int 4294967291)))) (ds := L.map fun (x : Int) => PyData.int (2 * ab x + (if (decide (x < 0)) = true then 1 else 0)))
    (fun _ m => ∃ (x : Int) (o : Option Mv), m = [some (.fz (.list (ns.map .int))), some (.fz (.list (L.map fun (x : Int) => PyData.int (2 * ab x + (if (decide (x < 0)) = true then 1 else 0))))), some (.fz (.int x)), o]) (i := 0) (m := [some (.fz (.list (ns.map .int))), some (.fz (.list (L.map fun (x : Int) => PyData.int (2 * ab x + (if (decide (x < 0)) = true then 1 else 0))))), some (.fz (.int (16244 + 61 * ns.length))), none])
    (fun j d m hd ⟨x, o, hm⟩ => by
      subst hm
      have := List.mem_of_getElem? hd
      obtain ⟨z, _, rfl⟩ := List.mem_map.mp this
      refine ⟨.nx, _, ?_, .inl rfl, (x * 69069 + (2 * ab z + (if (decide (z < 0)) = true then 1 else 0)) + 11) % 4294967291, some (.fz (.int (2 * ab z + (if (decide (z < 0)) = true then 1 else 0)))), rfl⟩
      trivial
      rw [mulD_r (smallI_of (by omega) (by omega))]
      trivial
      rw [modD_ok (by omega)]
      trivial) ⟨_, _, rfl⟩
  refine ⟨.rs 0 ((L.map fun (x : Int) => 2 * ab x + (if (decide (x < 0)) = true then 1 else 0)).filter fun x => decide (1000000000000 < x)) x1 0, ?_, _, _, _, rfl, ?_⟩
  · refine (run_ev (st := [some _, none, none, none]) rfl rfl rfl).trans ?_
    unfold g__law_pot
    trivial
    rw [show sliceD (.list (ns.map .int)) none (some 63) = some (.nl (L.map .int)) by rw [← hc]; rfl]
    trivial
    rw [compL_mapOf _ _ (fun (x : Int) => .int (2 * ab x + (if (decide (x < 0)) = true then 1 else 0))) fun x _ => ?c1]
    case c1 =>
      trivial
      rw [mulD_l (smallI_of (by omega) (by omega))]
      trivial
      rfl
    trivial
    rw [mulD_l (smallI_of (by omega) (by omega))]
    trivial
    rw [e1]
    trivial
    rw [show (L.map fun (x : Int) => PyData.int (2 * ab x + (if (decide (x < 0)) = true then 1 else 0))) = (L.map fun (x : Int) => 2 * ab x + (if (decide (x < 0)) = true then 1 else 0)).map .int by rw [List.map_map]; rfl]
    rw [compL_filterOf _ (fun (x : Int) => decide (1000000000000 < x)) _ (fun x => .int x) fun x _ => ?c2]
    case c2 =>
      trivial
      rw [show powD (.int 10) (.int 12) = some (.d (.int 1000000000000)) from rfl]
      trivial
      cases hx : decide (1000000000000 < x) <;> trivial <;> rfl
    trivial
    rfl
  · exact Nat.le_trans (List.length_filter_le _ _) (by rw [List.length_map]; omega)
theorem law_is : LawIs m_law 63 := fun ns hn => by
  obtain ⟨mv, e0, hp0⟩ := pot_ok ns hn
  obtain ⟨c, a, b, rfl, hc⟩ := id hp0
  obtain ⟨m1, e1, mv1, o2, o3, o4, o5, o6, o7, rfl, hp1⟩ := forL_goes (t := tgName 2) (g := (seqS (setS 3 (op2E addD (dataE (.int 1)) (callE drawFA [(slotE 1), (dataE (.int 4))]))) (seqS (parS 4 5 (callE m__law_far_point [(slotE 1), (slotE 3)]) (callE m__law_far_point [(slotE 1), (slotE 3)])) (seqS (parS 6 7 (callE m__law_some_prices [(slotE 1), (slotE 3)]) (callE m__law_some_prices [(slotE 1), (slotE 3)])) (seqS (ifS (boolE (op2E eqD (slotE 2) (dataE (.int 0)))) (setS 5 (slotE 4)) skipS) (seqS (ifS (orT (notT (testE (callE m__law_are_points_right [(slotE 1), (slotE 4), (slotE 5)]))) (notT (testE (callE m__law_are_points_right [(slotE 1), (slotE 6), (slotE 7)])))) (retS (dataE (.bool false))) skipS) (ifS (orT (notT (testE (callE m__law_are_steps_right [(slotE 1), (slotE 4), (slotE 6), (slotE 5)]))) (notT (testE (callE m__law_are_steps_right [(slotE 1), (slotE 6), (slotE 7), (slotE 4)])))) (retS (dataE (.bool false))) skipS)))))))
    (ds := (List.range 12).map fun (i : Nat) => PyData.int (i : Int)) (fun _ m => ∃ (mv : Mv) (o2 o3 o4 o5 o6 o7 : Option Mv), m = [some (.fz (.list (ns.map .int))), some mv, o2, o3, o4, o5, o6, o7] ∧ PotA mv) (m := [some (.fz (.list (ns.map .int))), some (.rs 0 c a b), none, none, none, none, none, none])
    (fun j d m hd ⟨mv, o2, o3, o4, o5, o6, o7, hm, hp⟩ => by
      subst hm
      obtain ⟨k, _, rfl⟩ := List.mem_map.mp (List.mem_of_getElem? hd)
      obtain ⟨v, mv1, e1, hp1, h1, h2⟩ := potA_draw hp (many := 4) (by omega)
      have h2 := h2 (by omega)
      obtain ⟨n, hn⟩ : ∃ n : Nat, 1 + v = (n : Int) := ⟨(1 + v).toNat, by omega⟩
      obtain ⟨p1, mv2, e2, hp2, l1, b1⟩ := far_ok hp1 n (by omega)
      obtain ⟨p2, mv3, e3, hp3, l2, b2⟩ := far_ok hp2 n (by omega)
      obtain ⟨q1, mv4, e4, hp4, l3, b3⟩ := prices_ok hp3 n (by omega)
      obtain ⟨q2, mv5, e5, hp5, l4, b4⟩ := prices_ok hp4 n (by omega)
      have b1 := b1.mono (show (20 : Int) ≤ 10000 by omega)
      have b2 := b2.mono (show (20 : Int) ≤ 10000 by omega)
      cases hk : ((k : Int) == 0)
      case' true =>
        obtain ⟨mv6, e6, hp6⟩ := steps_right hp5 p1 q1 p1 (by omega) (by omega) (by omega) b1 b1 b3
        have g1 := points_right hp5 p1 p1 (by omega) (by omega) b1 b1
      case' false =>
        obtain ⟨mv6, e6, hp6⟩ := steps_right hp5 p1 q1 p2 (by omega) (by omega) (by omega) b1 b2 b3
        have g1 := points_right hp5 p1 p2 (by omega) (by omega) b1 b2
      all_goals
        obtain ⟨mv7, e7, hp7⟩ := steps_right hp6 q1 q2 p1 (by omega) (by omega) (by omega) b3 b1 b4
        have g2 := points_right hp5 q1 q2 (by omega) (by omega) b3 b4
        obtain ⟨c1, x1, y1, rfl, _⟩ := id hp
        obtain ⟨c2, x2, y2, rfl, _⟩ := id hp1
        obtain ⟨c3, x3, y3, rfl, _⟩ := id hp2
        obtain ⟨c4, x4, y4, rfl, _⟩ := id hp3
        obtain ⟨c5, x5, y5, rfl, _⟩ := id hp4
        obtain ⟨c6, x6, y6, rfl, _⟩ := id hp5
        obtain ⟨c7, x7, y7, rfl, _⟩ := id hp6
        trivial
        rw [e1]
        trivial
        rw [hn, e2]
        trivial
        rw [e3]
        trivial
        rw [e4]
        trivial
        rw [e5]
        trivial
        rw [hk]
        trivial
        rw [g1]
        trivial
        rw [show truth (.bool true) = some true from rfl]
        trivial
        rw [g2]
        trivial
        rw [show truth (.bool true) = some true from rfl]
        trivial
        rw [e6]
        trivial
        rw [show truth (.bool true) = some true from rfl]
        trivial
        rw [e7]
        trivial
        rw [show truth (.bool true) = some true from rfl]
        trivial
        exact .nx ⟨_, _, _, _, _, _, _, rfl, hp7⟩) ⟨_, _, _, _, _, _, _, rfl, hp0⟩
  suffices h : Gives (.fz (.bool true)) (m_law [.fz (.list (ns.map .int))]) by
    generalize m_law [.fz (.list (ns.map .int))] = r at h
    cases h
    exact ⟨_, rfl⟩
  rw [show m_law [.fz (.list (ns.map .int))] = _ from run_ev (st := [some _, none, none, none, none, none, none, none]) rfl rfl rfl]
  unfold g_law
  trivial
  rw [e0]
  trivial
  rw [ev_irK (show okRg 0 12 = true from rfl), show rangeD 0 12 = (List.range 12).map fun (i : Nat) => PyData.int (i : Int) from rangeD_nat 12]
  trivial
  rw [e1]
  trivial
  exact .mk
end LawP

open PySem PySem.W PyProof.Rows
set_option maxHeartbeats 0 in
theorem PySem.Challenge.cw_wholehills_k01_whole_points_holds : PySem.Challenge.rw_wholehills_k01_whole_points.Holds := by
  w_on; o_law; k_head; (case hw => w_witness2)
  k_fill
  refine PyE.walk_G (l := PySem.Challenge.rw_wholehills_k01_whole_points) (n := 63) (k := 4) (x := "script") (xr := LawP.xr0) (f := LawP.m_law) rfl (by decide) rfl ⟨rfl, by decide, by decide⟩ (fun w h Y => PySem.W.kIn_of Y) LawP.law_is ?F
  case F =>
    intro w mg fa h KX G hmg
    refine' LawP.all_mk KX G hmg ?a0 ?l0 ?c0 ?k0 ?a1 ?l1 ?c1 ?k1 ?a2 ?l2 ?c2 ?k2 ?a3 ?l3 ?c3 ?k3 ?a4 ?l4 ?c4 ?k4 ?a5 ?l5 ?c5 ?k5 ?a6 ?l6 ?c6 ?k6 ?a7 ?l7 ?c7 ?k7 ?a8 ?l8 ?c8 ?k8 ?a9 ?l9 ?c9 ?k9 ?a10 ?l10 ?c10 ?k10 ?a11 ?l11 ?c11 ?k11 ?a12 ?l12 ?c12 ?k12 ?a13 ?l13 ?c13 ?k13 ?a14 ?l14 ?c14 ?k14 ?a15 ?l15 ?c15 ?k15 ?a16 ?l16 ?c16 ?k16 ?a17 ?l17 ?c17 ?k17 ?a18 ?l18 ?c18 ?k18 ?a19 ?l19 ?c19 ?k19 ?a20 ?l20 ?c20 ?k20 ?z_abs ?z_enumerate ?z_int ?z_len ?z_max ?z_min ?z_range ?z_repr ?z_sum ?z_tuple ?z_zip
    (case a0 => k_is); (case l0 => k_is); (case c0 => k_is); (case k0 => k_is); (case a1 => k_is); (case l1 => k_is)
    (case c1 => k_is); (case k1 => k_is); (case a2 => k_is); (case l2 => k_is); (case c2 => k_is); (case k2 => k_is)
    (case a3 => k_is); (case l3 => k_is); (case c3 => k_is); (case k3 => k_is); (case a4 => k_is); (case l4 => k_is)
    (case c4 => k_is); (case k4 => k_is); (case a5 => k_is); (case l5 => k_is); (case c5 => k_is); (case k5 => k_is)
    (case a6 => k_is); (case l6 => k_is); (case c6 => k_is); (case k6 => k_is); (case a7 => k_is); (case l7 => k_is)
    (case c7 => k_is); (case k7 => k_is); (case a8 => k_is); (case l8 => k_is); (case c8 => k_is); (case k8 => k_is)
    (case a9 => k_is); (case l9 => k_is); (case c9 => k_is); (case k9 => k_is); (case a10 => k_is); (case l10 => k_is)
    (case c10 => k_is); (case k10 => k_is); (case a11 => k_is); (case l11 => k_is); (case c11 => k_is); (case k11 => k_is)
    (case a12 => k_is); (case l12 => k_is); (case c12 => k_is); (case k12 => k_is); (case a13 => k_is); (case l13 => k_is)
    (case c13 => k_is); (case k13 => k_is); (case a14 => k_is); (case l14 => k_is); (case c14 => k_is); (case k14 => k_is)
    (case a15 => k_is); (case l15 => k_is); (case c15 => k_is); (case k15 => k_is); (case a16 => k_is); (case l16 => k_is)
    (case c16 => k_is); (case k16 => k_is); (case a17 => k_is); (case l17 => k_is); (case c17 => k_is); (case k17 => k_is)
    (case a18 => k_is); (case l18 => k_is); (case c18 => k_is); (case k18 => k_is); (case a19 => k_is); (case l19 => k_is)
    (case c19 => k_is); (case k19 => k_is); (case a20 => k_is); (case l20 => k_is); (case c20 => k_is); (case k20 => k_is)
    (case z_abs => k_is); (case z_enumerate => k_is); (case z_int => k_is); (case z_len => k_is); (case z_max => k_is); (case z_min => k_is)
    (case z_range => k_is); (case z_repr => k_is); (case z_sum => k_is); (case z_tuple => k_is); (case z_zip => k_is)
