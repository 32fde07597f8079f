import PyProof.Rows.All
import PySem.Challenge.RW_sharedboard_k01_matrices
import Wide.All
import OpenK.AllK
import Wide.FinOn
import HandS.ForMost
import HandS.Wide
import HandS.IsInst
import HandS.Defaults
import HandS.Head0
import HandS.Head1
import HandS.Head2
import HandS.HeadEnd
import HandS.HeadHook1
import HandS.HeadHook2
set_option Elab.async false
set_option linter.all false
set_option autoImplicit false
set_option maxRecDepth 100000
set_option maxHeartbeats 4000000
/-! DL: a layer of plain data over the hand layer: values as trees, no heap in sight. -/
namespace DL
open PySem PySem.Spec PyProof.Rows L2

/-- plain data -/
inductive D where
  | non | bl (b : Bool) | int (i : Int) | str (s : Str) | lst (ds : List D) | tup (ds : List D)
  deriving Inhabited

/-- at the stable heap S the value denotes the data -/
inductive Den (S : Hp) : V → D → Prop
  | non : Den S .non .non
  | bl (b : Bool) : Den S (.bl b) (.bl b)
  | int (i : Int) : Den S (.int i) (.int i)
  | str (s : Str) : Den S (.str s) (.str s)
  | lst {a : Addr} {xs : List V} {ds : List D} (h : S a = some (.lst xs)) (hl : xs.length = ds.length) (hs : ∀ (i : Nat) x d, xs[i]? = some x → ds[i]? = some d → Den S x d) : Den S (.ref a) (.lst ds)
  | tup {a : Addr} {xs : List V} {ds : List D} (h : S a = some (.tup xs)) (hl : xs.length = ds.length) (hs : ∀ (i : Nat) x d, xs[i]? = some x → ds[i]? = some d → Den S x d) : Den S (.ref a) (.tup ds)

def DenL (S : Hp) (xs : List V) (ds : List D) : Prop := xs.length = ds.length ∧ ∀ (i : Nat) x d, xs[i]? = some x → ds[i]? = some d → Den S x d

section
variable {S S' : Hp} {v x : V} {d : D} {xs ys : List V} {ds es : List D}
theorem Den.mono (h : Den S v d) (e : Same S S') : Den S' v d := by
  induction h with
  | non => exact .non
  | bl b => exact .bl b
  | int i => exact .int i
  | str s => exact .str s
  | lst h hl hs ih => exact .lst (e _ _ h) hl fun i x d h1 h2 => ih i x d h1 h2
  | tup h hl hs ih => exact .tup (e _ _ h) hl fun i x d h1 h2 => ih i x d h1 h2
theorem DenL.mono (h : DenL S xs ds) (e : Same S S') : DenL S' xs ds := ⟨h.1, fun i x d h1 h2 => (h.2 i x d h1 h2).mono e⟩
theorem DenL.nil : DenL S [] [] := ⟨rfl, fun i x d h => by simp at h⟩
theorem DenL.cons (h : Den S x d) (t : DenL S xs ds) : DenL S (x :: xs) (d :: ds) := by
  refine ⟨by rw [List.length_cons, List.length_cons, t.1], fun i y e h1 h2 => ?_⟩
  cases i with
  | zero =>
    rw [List.getElem?_cons_zero] at h1 h2
    cases h1; cases h2
    exact h
  | succ i =>
    rw [List.getElem?_cons_succ] at h1 h2
    exact t.2 i y e h1 h2
theorem DenL.tail (t : DenL S (x :: xs) (d :: ds)) : DenL S xs ds := ⟨by have := t.1; simpa using this, fun i y e h1 h2 => t.2 (i + 1) y e (by simpa using h1) (by simpa using h2)⟩
theorem DenL.head (t : DenL S (x :: xs) (d :: ds)) : Den S x d := t.2 0 x d rfl rfl
theorem DenL.nil_inv (h : DenL S xs []) : xs = [] := List.length_eq_zero_iff.mp h.1
theorem DenL.cons_inv {d : D} {ds : List D} (h : DenL S xs (d :: ds)) : ∃ x r, xs = x :: r ∧ Den S x d ∧ DenL S r ds := by
  cases xs with
  | nil => have := h.1; simp at this
  | cons x r => exact ⟨x, r, rfl, h.head, h.tail⟩
theorem DenL.append (h : DenL S xs ds) (k : DenL S ys es) : DenL S (xs ++ ys) (ds ++ es) := by
  refine ⟨by rw [List.length_append, List.length_append, h.1, k.1], fun i y e h1 h2 => ?_⟩
  by_cases hi : i < xs.length
  · rw [List.getElem?_append_left hi] at h1
    rw [List.getElem?_append_left (by rw [← h.1]; exact hi)] at h2
    exact h.2 i y e h1 h2
  · rw [List.getElem?_append_right (by omega)] at h1
    rw [List.getElem?_append_right (by rw [← h.1]; omega), ← h.1] at h2
    exact k.2 _ y e h1 h2
theorem DenL.snoc (h : DenL S xs ds) (k : Den S v d) : DenL S (xs ++ [v]) (ds ++ [d]) := h.append (.cons k .nil)
theorem DenL.get (h : DenL S xs ds) {i : Nat} {d : D} (e : ds[i]? = some d) : ∃ x, xs[i]? = some x ∧ Den S x d := by
  have hi : i < ds.length := (List.getElem?_eq_some_iff.mp e).1
  have hx : i < xs.length := by rw [h.1]; exact hi
  exact ⟨xs[i], List.getElem?_eq_getElem hx, h.2 i _ _ (List.getElem?_eq_getElem hx) e⟩
theorem DenL.getV (h : DenL S xs ds) {i : Nat} {x : V} (e : xs[i]? = some x) : ∃ d, ds[i]? = some d ∧ Den S x d := by
  have hi : i < xs.length := (List.getElem?_eq_some_iff.mp e).1
  have hx : i < ds.length := by rw [← h.1]; exact hi
  exact ⟨ds[i], List.getElem?_eq_getElem hx, h.2 i _ _ e (List.getElem?_eq_getElem hx)⟩
theorem DenL.take (h : DenL S xs ds) (n : Nat) : DenL S (xs.take n) (ds.take n) := by
  refine ⟨by rw [List.length_take, List.length_take, h.1], fun i y e h1 h2 => ?_⟩
  rw [List.getElem?_take] at h1 h2
  split at h1
  · rename_i hi
    rw [if_pos hi] at h2
    exact h.2 i y e h1 h2
  · cases h1
theorem DenL.drop (h : DenL S xs ds) (n : Nat) : DenL S (xs.drop n) (ds.drop n) := by
  refine ⟨by rw [List.length_drop, List.length_drop, h.1], fun i y e h1 h2 => ?_⟩
  rw [List.getElem?_drop] at h1 h2
  exact h.2 _ y e h1 h2
theorem DenL.set (h : DenL S xs ds) (k : Den S v d) (j : Nat) : DenL S (xs.set j v) (ds.set j d) := by
  refine ⟨by rw [List.length_set, List.length_set, h.1], fun i y e h1 h2 => ?_⟩
  by_cases hi : j = i
  · subst hi
    by_cases hj : j < xs.length
    · rw [List.getElem?_set_self hj] at h1
      rw [List.getElem?_set_self (by rw [← h.1]; exact hj)] at h2
      cases h1; cases h2
      exact k
    · rw [List.getElem?_eq_none (by rw [List.length_set]; omega)] at h1
      cases h1
  · rw [List.getElem?_set_ne hi] at h1 h2
    exact h.2 i y e h1 h2
theorem DenL.ints : ∀ (ns : List Int), DenL S (ns.map V.int) (ns.map D.int)
  | [] => .nil
  | n :: r => .cons (.int n) (DenL.ints r)
theorem DenL.ints_inv : ∀ {ns : List Int} {xs : List V}, DenL S xs (ns.map D.int) → xs = ns.map V.int
  | [], _, h => h.nil_inv
  | n :: r, xs, h => by
    obtain ⟨x, t, rfl, h1, h2⟩ := DenL.cons_inv (d := .int n) (ds := r.map D.int) h
    cases h1
    rw [DenL.ints_inv h2]
    rfl
theorem DenL.bls_inv : ∀ {ns : List Bool} {xs : List V}, DenL S xs (ns.map D.bl) → xs = ns.map V.bl
  | [], _, h => h.nil_inv
  | n :: r, xs, h => by
    obtain ⟨x, t, rfl, h1, h2⟩ := DenL.cons_inv (d := .bl n) (ds := r.map D.bl) h
    cases h1
    rw [DenL.bls_inv h2]
    rfl
theorem Den.ofL {a : Addr} (h : S a = some (.lst xs)) (k : DenL S xs ds) : Den S (.ref a) (.lst ds) := .lst h k.1 k.2
theorem Den.ofT {a : Addr} (h : S a = some (.tup xs)) (k : DenL S xs ds) : Den S (.ref a) (.tup ds) := .tup h k.1 k.2
theorem Den.lst_inv (h : Den S v (.lst ds)) : ∃ a xs, v = .ref a ∧ S a = some (.lst xs) ∧ DenL S xs ds := by
  cases h with
  | lst h hl hs => exact ⟨_, _, rfl, h, hl, hs⟩
theorem Den.tup_inv (h : Den S v (.tup ds)) : ∃ a xs, v = .ref a ∧ S a = some (.tup xs) ∧ DenL S xs ds := by
  cases h with
  | tup h hl hs => exact ⟨_, _, rfl, h, hl, hs⟩
end

/-! ### the state: the slots' data over the stable heap S, the real heap H -/
/-- the entry: the heap, the stable heap, the caller's lists that may change -/
structure Bs where
  H0 : Hp
  S0 : Hp
  mu : List Addr
  fr : List (Addr × HO) := []
/-- what a slot holds: unknown; data; a list of one's own (m: the caller's), by its items; the script -/
inductive Sl where
  | any | val (d : D) | own (m : Bool) (ds : List D) | scr (ns : List Int)
def OwnOk (B : Bs) (m : Bool) (p : Addr) : Prop := if m = true then p ∈ B.mu else B.H0 p = none
def SlOk (K : PySem.W.Frag) (B : Bs) (S H : Hp) (o : Option (Option V)) : Sl → Prop
  | .any => True
  | .val d => ∃ v, o = some (some v) ∧ Den S v d
  | .own m ds => ∃ p xs, o = some (some (.ref p)) ∧ S p = none ∧ H p = some (.lst xs) ∧ DenL S xs ds ∧ OwnOk B m p
  | .scr ns => ∃ a, o = some (some (.ref a)) ∧ SqL K S a (ns.map V.int)
structure Rel (K : PySem.W.Frag) (B : Bs) (S H : Hp) (σ : L2.St) (γ : List Sl) : Prop where
  same : Same S H
  keep : ∀ a o, B.H0 a = some o → a ∉ B.mu → H a = some o
  muk : ∀ a, a ∈ B.mu → B.S0 a = none ∧ (∃ o, B.H0 a = some o) ∧ ∃ xs, H a = some (.lst xs)
  grow : Same B.S0 S
  ext : ∀ a o, S a = some o → B.S0 a = some o ∨ B.H0 a = none
  len : σ.length = γ.length
  sl : ∀ (i : Nat) s, γ[i]? = some s → SlOk K B S H σ[i]? s
  sep : ∀ (i j : Nat) p m m' ds ds', i ≠ j → γ[i]? = some (.own m ds) → γ[j]? = some (.own m' ds') → σ[i]? = some (some (.ref p)) → σ[j]? = some (some (.ref p)) → False
  frm : ∀ p o, (p, o) ∈ B.fr → H p = some o ∧ S p = none ∧ B.H0 p = none
  frs : ∀ p o, (p, o) ∈ B.fr → ∀ (i : Nat) m ds, γ[i]? = some (.own m ds) → σ[i]? ≠ some (some (.ref p))
section
variable {K : PySem.W.Frag} {B : Bs} {S S' H H' : Hp} {σ : L2.St} {γ : List Sl} {p : Addr} {o : HO}
theorem Rel.fresh0 (R : Rel K B S H σ γ) (h : H p = none) : B.H0 p = none := by
  cases e : B.H0 p with
  | none => rfl
  | some o =>
    by_cases hm : p ∈ B.mu
    · obtain ⟨_, _, xs, e2⟩ := R.muk p hm
      rw [h] at e2; cases e2
    · rw [R.keep p o e hm] at h; cases h
theorem Rel.freshS (R : Rel K B S H σ γ) (h : H p = none) : S p = none := R.same.free h
theorem Rel.ownNe (R : Rel K B S H σ γ) (h : H p = none) {i : Nat} {m ds} (e : γ[i]? = some (.own m ds)) : σ[i]? ≠ some (some (.ref p)) := fun q => by
  obtain ⟨p', xs, e1, _, e2, _⟩ := R.sl i _ e
  rw [q] at e1; cases e1
  rw [h] at e2; cases e2
theorem Same.upd {S H : Hp} (e : Same S H) (h : H p = none) : Same S (upd H p o) := fun b x q => by
  rw [upd_ne (ne_of_none (e b x q) h)]
  exact e b x q
theorem Same.updS {S H : Hp} (e : Same S H) (h : S p = none) : Same S (L2.upd H p o) := fun b x q => by
  rw [upd_ne (ne_of_none q h)]
  exact e b x q
theorem Same.updB {S H : Hp} (e : Same S H) : Same (L2.upd S p o) (L2.upd H p o) := fun b x q => by
  by_cases hb : b = p
  · subst hb; rw [upd_same] at q ⊢; exact q
  · rw [upd_ne hb] at q ⊢; exact e b x q
theorem Same.updL {S H : Hp} (e : Same S H) (h : H p = some o) : Same (L2.upd S p o) H := fun b x q => by
  by_cases hb : b = p
  · subst hb; rw [upd_same] at q; cases q; exact h
  · rw [upd_ne hb] at q; exact e b x q
/-- the slots over a grown stable heap and a heap where one's own lists stand as they stood -/
theorem SlOk.mono {o : Option (Option V)} {s : Sl} (h : SlOk K B S H o s) (e : Same S S') (hS : ∀ p, o = some (some (.ref p)) → (∃ m ds, s = .own m ds) → S p = none → S' p = none) (hH : ∀ p xs, o = some (some (.ref p)) → (∃ m ds, s = .own m ds) → H p = some (.lst xs) → H' p = some (.lst xs)) : SlOk K B S' H' o s := by
  cases s with
  | any => trivial
  | val d => obtain ⟨v, e1, e2⟩ := h; exact ⟨v, e1, e2.mono e⟩
  | own m ds => obtain ⟨p, xs, e1, e2, e3, e4, e5⟩ := h; exact ⟨p, xs, e1, hS p e1 ⟨_, _, rfl⟩ e2, hH p xs e1 ⟨_, _, rfl⟩ e3, e4.mono e, e5⟩
  | scr ns => obtain ⟨a, e1, e2⟩ := h; exact ⟨a, e1, e.seq e2⟩
/-- a new stable object -/
theorem Rel.new (R : Rel K B S H σ γ) (h : H p = none) : Rel K B (upd S p o) (upd H p o) σ γ where
  same := Same.updB R.same
  keep := fun a x e hm => by rw [upd_ne (ne_of_none (R.keep a x e hm) h)]; exact R.keep a x e hm
  muk := fun a ha => by
    obtain ⟨h1, h2, xs, h3⟩ := R.muk a ha
    exact ⟨h1, h2, xs, by rw [upd_ne (ne_of_none h3 h)]; exact h3⟩
  grow := fun a x e => by rw [upd_ne (ne_of_none (R.grow a x e) (R.freshS h))]; exact R.grow a x e
  ext := fun a x e => by
    by_cases ha : a = p
    · subst ha; exact .inr (R.fresh0 h)
    · rw [upd_ne ha] at e; exact R.ext a x e
  len := R.len
  sl := fun i s e => (R.sl i s e).mono (Same.upd (Same.refl S) (R.freshS h)) (fun q e1 ⟨m, ds, e2⟩ e3 => by
    subst e2
    rw [upd_ne (fun z => R.ownNe h e (by rw [e1, z]))]; exact e3) (fun q xs e1 _ e3 => by rw [upd_ne (ne_of_none e3 h)]; exact e3)
  sep := R.sep
  frm := fun a u hu => by
    obtain ⟨h1, h2, h3⟩ := R.frm a u hu
    exact ⟨by rw [upd_ne (ne_of_none h1 h)]; exact h1, by rw [upd_ne (ne_of_none h1 h)]; exact h2, h3⟩
  frs := R.frs
/-- a new object, kept out of the stable heap -/
theorem Rel.newOut (R : Rel K B S H σ γ) (h : H p = none) : Rel K B S (upd H p o) σ γ where
  same := Same.upd R.same h
  keep := fun a x e hm => by rw [upd_ne (ne_of_none (R.keep a x e hm) h)]; exact R.keep a x e hm
  muk := fun a ha => by
    obtain ⟨h1, h2, xs, h3⟩ := R.muk a ha
    exact ⟨h1, h2, xs, by rw [upd_ne (ne_of_none h3 h)]; exact h3⟩
  grow := R.grow
  ext := R.ext
  len := R.len
  sl := fun i s e => (R.sl i s e).mono (Same.refl S) (fun _ _ _ e3 => e3) (fun q xs e1 _ e3 => by rw [upd_ne (ne_of_none e3 h)]; exact e3)
  sep := R.sep
  frm := fun a u hu => by
    obtain ⟨h1, h2, h3⟩ := R.frm a u hu
    exact ⟨by rw [upd_ne (ne_of_none h1 h)]; exact h1, h2, h3⟩
  frs := R.frs
def NoOwn (B : Bs) (σ : L2.St) (γ : List Sl) (p : Addr) : Prop := (∀ (i : Nat) m ds, γ[i]? = some (.own m ds) → σ[i]? ≠ some (some (.ref p))) ∧ ∀ o, (p, o) ∉ B.fr
theorem Rel.noOwn (R : Rel K B S H σ γ) (h : H p = none) : NoOwn B σ γ p := ⟨fun i m ds e => R.ownNe h e, fun o ho => by
  obtain ⟨h1, _⟩ := R.frm p o ho
  rw [h] at h1; cases h1⟩
/-- an object of one's own becomes stable -/
theorem Rel.freeze (R : Rel K B S H σ γ) (h : H p = some o) (hS : S p = none) (h0 : B.H0 p = none) (hn : NoOwn B σ γ p) : Rel K B (upd S p o) H σ γ where
  same := Same.updL R.same h
  keep := R.keep
  muk := R.muk
  grow := fun a x e => by rw [upd_ne (ne_of_none (R.grow a x e) hS)]; exact R.grow a x e
  ext := fun a x e => by
    by_cases ha : a = p
    · subst ha; exact .inr h0
    · rw [upd_ne ha] at e; exact R.ext a x e
  len := R.len
  sl := fun i s e => (R.sl i s e).mono (Same.upd (Same.refl S) hS) (fun q e1 ⟨m, ds, e2⟩ e3 => by
    subst e2
    rw [upd_ne (fun z => hn.1 i m ds e (by rw [e1, z]))]; exact e3) (fun q xs e1 _ e3 => e3)
  sep := R.sep
  frm := fun a u hu => by
    obtain ⟨h1, h2, h3⟩ := R.frm a u hu
    exact ⟨h1, by rw [upd_ne (fun z => hn.2 u (by rw [← z]; exact hu))]; exact h2, h3⟩
  frs := R.frs
theorem set_get {α : Type} {l : List α} {i : Nat} {x y : α} (h : l[i]? = some x) (j : Nat) : (l.set i y)[j]? = if j = i then some y else l[j]? := by
  by_cases e : j = i
  · subst e
    rw [if_pos rfl, List.getElem?_set_self (List.getElem?_eq_some_iff.mp h).1]
  · rw [if_neg e, List.getElem?_set_ne (fun z => e z.symm)]
/-- a slot is set to something that is no list of one's own -/
theorem Rel.set (R : Rel K B S H σ γ) {i : Nat} {v : V} {s : Sl} (hs : SlOk K B S H (some (some v)) s) (hn : ∀ m ds, s ≠ .own m ds) : Rel K B S H (σ.set i (some v)) (γ.set i s) := by
  by_cases hi : i < γ.length
  case neg =>
    have hl := R.len
    rw [List.set_eq_of_length_le (l := γ) (by omega), List.set_eq_of_length_le (l := σ) (by omega)]
    exact R
  obtain ⟨s0, e0⟩ : ∃ s0, γ[i]? = some s0 := ⟨_, List.getElem?_eq_getElem hi⟩
  obtain ⟨v0, f0⟩ : ∃ s0, σ[i]? = some s0 := ⟨_, List.getElem?_eq_getElem (by rw [R.len]; exact hi)⟩
  refine ⟨R.same, R.keep, R.muk, R.grow, R.ext, by rw [List.length_set, List.length_set, R.len], fun j t e => ?_, fun j k p m m' ds ds' hjk e1 e2 e3 e4 => ?_, R.frm, fun p o hp j m ds e1 e3 => ?_⟩
  · rw [set_get e0] at e
    rw [set_get f0]
    by_cases hj : j = i
    · rw [if_pos hj] at e ⊢
      cases e
      exact hs
    · rw [if_neg hj] at e ⊢
      exact R.sl j t e
  · rw [set_get e0] at e1 e2
    rw [set_get f0] at e3 e4
    by_cases hj : j = i
    · rw [if_pos hj] at e1
      exact hn _ _ (Option.some.inj e1)
    · by_cases hk : k = i
      · rw [if_pos hk] at e2
        exact hn _ _ (Option.some.inj e2)
      · rw [if_neg hj] at e1 e3
        rw [if_neg hk] at e2 e4
        exact R.sep j k p m m' ds ds' hjk e1 e2 e3 e4
  · rw [set_get e0] at e1
    rw [set_get f0] at e3
    by_cases hj : j = i
    · rw [if_pos hj] at e1
      exact hn _ _ (Option.some.inj e1)
    · rw [if_neg hj] at e1 e3
      exact R.frs p o hp j m ds e1 e3
/-- a slot is set to a new list of one's own -/
theorem Rel.setOwn (R : Rel K B S H σ γ) {i : Nat} {xs : List V} {ds : List D} (h1 : S p = none) (h2 : B.H0 p = none) (h3 : H p = some (.lst xs)) (h4 : DenL S xs ds) (hn : NoOwn B σ γ p) : Rel K B S H (σ.set i (some (.ref p))) (γ.set i (.own false ds)) := by
  by_cases hi : i < γ.length
  case neg =>
    have hl := R.len
    rw [List.set_eq_of_length_le (l := γ) (by omega), List.set_eq_of_length_le (l := σ) (by omega)]
    exact R
  obtain ⟨s0, e0⟩ : ∃ s0, γ[i]? = some s0 := ⟨_, List.getElem?_eq_getElem hi⟩
  obtain ⟨v0, f0⟩ : ∃ s0, σ[i]? = some s0 := ⟨_, List.getElem?_eq_getElem (by rw [R.len]; exact hi)⟩
  refine ⟨R.same, R.keep, R.muk, R.grow, R.ext, by rw [List.length_set, List.length_set, R.len], fun j t e => ?_, fun j k q m m' es es' hjk e1 e2 e3 e4 => ?_, R.frm, fun q o hq j m es e1 e3 => ?_⟩
  · rw [set_get e0] at e
    rw [set_get f0]
    by_cases hj : j = i
    · rw [if_pos hj] at e ⊢
      cases e
      exact ⟨p, xs, rfl, h1, h3, h4, h2⟩
    · rw [if_neg hj] at e ⊢
      exact R.sl j t e
  · rw [set_get e0] at e1 e2
    rw [set_get f0] at e3 e4
    by_cases hj : j = i
    · by_cases hk : k = i
      · exact hjk (hj.trans hk.symm)
      · rw [if_pos hj] at e3
        rw [if_neg hk] at e2 e4
        cases e3
        exact hn.1 k _ _ e2 e4
    · rw [if_neg hj] at e1 e3
      by_cases hk : k = i
      · rw [if_pos hk] at e4
        cases e4
        exact hn.1 j _ _ e1 e3
      · rw [if_neg hk] at e2 e4
        exact R.sep j k q m m' es es' hjk e1 e2 e3 e4
  · rw [set_get e0] at e1
    rw [set_get f0] at e3
    by_cases hj : j = i
    · rw [if_pos hj] at e3
      cases e3
      exact hn.2 o hq
    · rw [if_neg hj] at e1 e3
      exact R.frs q o hq j m es e1 e3
/-- a list of one's own is changed -/
theorem Rel.chg (R : Rel K B S H σ γ) {i : Nat} {m : Bool} {xs' : List V} {ds ds' : List D} (hg : γ[i]? = some (.own m ds)) (hσ : σ[i]? = some (some (.ref p))) (hd : DenL S xs' ds') : Rel K B S (upd H p (.lst xs')) σ (γ.set i (.own m ds')) := by
  obtain ⟨q, ys, e1, e2, e3, e4, e5⟩ := R.sl i _ hg
  rw [hσ] at e1
  cases e1
  refine ⟨Same.updS R.same e2, fun a x e hm => ?_, fun a ha => ?_, R.grow, R.ext, by rw [List.length_set]; exact R.len, fun j t e => ?_, fun j k q m1 m2 es es' hjk h1 h2 h3 h4 => ?_, fun q o hq => ?_, fun q o hq j m1 es h1 h3 => ?_⟩
  · by_cases hap : a = p
    · subst hap
      unfold OwnOk at e5
      cases m with
      | true => exact absurd e5 hm
      | false =>
        have e5' : B.H0 a = none := e5
        rw [e] at e5'; cases e5'
    · rw [upd_ne hap]; exact R.keep a x e hm
  · obtain ⟨h1, h2, zs, h3⟩ := R.muk a ha
    by_cases hap : a = p
    · subst hap; exact ⟨h1, h2, _, upd_same⟩
    · exact ⟨h1, h2, zs, by rw [upd_ne hap]; exact h3⟩
  · rw [set_get hg] at e
    by_cases hj : j = i
    · rw [if_pos hj] at e
      cases e
      rw [hj]
      exact ⟨p, xs', hσ, e2, upd_same, hd, e5⟩
    · rw [if_neg hj] at e
      refine (R.sl j t e).mono (Same.refl S) (fun _ _ _ z => z) (fun q zs f1 ⟨m1, es, f2⟩ f3 => ?_)
      subst f2
      rw [upd_ne (fun z => R.sep j i p m1 m es ds hj e hg (by rw [f1, z]) hσ)]
      exact f3
  · have own : ∀ {l : Nat} {m' es}, (γ.set i (.own m ds'))[l]? = some (.own m' es) → ∃ m'' es', γ[l]? = some (.own m'' es') := fun {l m' es} h => by
      rw [set_get hg] at h
      by_cases hl : l = i
      · subst hl; exact ⟨m, ds, hg⟩
      · rw [if_neg hl] at h; exact ⟨_, _, h⟩
    obtain ⟨_, _, g1⟩ := own h1
    obtain ⟨_, _, g2⟩ := own h2
    exact R.sep j k q _ _ _ _ hjk g1 g2 h3 h4
  · obtain ⟨f1, f2, f3⟩ := R.frm q o hq
    exact ⟨by rw [upd_ne (fun z => R.frs q o hq i m ds hg (by rw [z]; exact hσ))]; exact f1, f2, f3⟩
  · rw [set_get hg] at h1
    by_cases hj : j = i
    · subst hj; exact R.frs q o hq j m ds hg h3
    · rw [if_neg hj] at h1; exact R.frs q o hq j _ _ h1 h3
theorem Rel.lt (R : Rel K B S H σ γ) {i : Nat} {s : Sl} (h : γ[i]? = some s) : i < γ.length := (List.getElem?_eq_some_iff.mp h).1
/-- a slot is forgotten -/
theorem Rel.drop (R : Rel K B S H σ γ) {i : Nat} : Rel K B S H σ (γ.set i .any) := by
  by_cases hi : i < γ.length
  · have e0 : γ[i]? = some γ[i] := List.getElem?_eq_getElem hi
    refine ⟨R.same, R.keep, R.muk, R.grow, R.ext, by rw [List.length_set]; exact R.len, fun j t e => ?_, fun j k p m m' ds ds' hjk e1 e2 => ?_, R.frm, fun q o hq j m es e1 e3 => ?_⟩
    · rw [set_get e0] at e
      by_cases hj : j = i
      · rw [if_pos hj] at e; cases e; trivial
      · rw [if_neg hj] at e; exact R.sl j t e
    · rw [set_get e0] at e1 e2
      by_cases hj : j = i
      · rw [if_pos hj] at e1; cases e1
      · by_cases hk : k = i
        · rw [if_pos hk] at e2; cases e2
        · rw [if_neg hj] at e1
          rw [if_neg hk] at e2
          exact R.sep j k p m m' ds ds' hjk e1 e2
    · rw [set_get e0] at e1
      by_cases hj : j = i
      · rw [if_pos hj] at e1; cases e1
      · rw [if_neg hj] at e1; exact R.frs q o hq j m es e1 e3
  · rw [List.set_eq_of_length_le (by omega)]; exact R
/-- a list of one's own becomes a value -/
theorem Rel.val (R : Rel K B S H σ γ) {i : Nat} {ds : List D} (hg : γ[i]? = some (.own false ds)) : ∃ S' p, σ[i]? = some (some (.ref p)) ∧ Same S S' ∧ Rel K B S' H σ (γ.set i (.val (.lst ds))) ∧ Den S' (.ref p) (.lst ds) := by
  obtain ⟨p, xs, e1, e2, e3, e4, e5⟩ := R.sl i _ hg
  have hS : Same S (upd S p (.lst xs)) := Same.upd (Same.refl S) e2
  have R1 : Rel K B S H σ (γ.set i .any) := R.drop
  have hn : NoOwn B σ (γ.set i .any) p := by
    refine ⟨fun j m es h q => ?_, fun o ho => R.frs p o ho i _ _ hg e1⟩
    rw [set_get hg] at h
    by_cases hj : j = i
    · rw [if_pos hj] at h; cases h
    · rw [if_neg hj] at h
      exact R.sep j i p _ _ _ _ hj h hg q e1
  have R2 := R1.freeze (o := .lst xs) e3 e2 e5 hn
  have dn : Den (upd S p (.lst xs)) (.ref p) (.lst ds) := .ofL upd_same (e4.mono hS)
  refine ⟨_, p, e1, hS, ?_, dn⟩
  refine ⟨R2.same, R2.keep, R2.muk, R2.grow, R2.ext, by rw [List.length_set]; exact R.len, fun j t e => ?_, fun j k q m m' es es' hjk h1 h2 h3 h4 => ?_, R2.frm, fun q o hq j m es h1 h3 => ?_⟩
  · rw [set_get hg] at e
    by_cases hj : j = i
    · rw [if_pos hj] at e; cases e; rw [hj]; exact ⟨_, e1, dn⟩
    · rw [if_neg hj] at e; exact R2.sl j t (by rw [set_get hg, if_neg hj]; exact e)
  · rw [set_get hg] at h1 h2
    by_cases hj : j = i
    · rw [if_pos hj] at h1; cases h1
    · by_cases hk : k = i
      · rw [if_pos hk] at h2; cases h2
      · rw [if_neg hj] at h1
        rw [if_neg hk] at h2
        exact R.sep j k q _ _ _ _ hjk h1 h2 h3 h4
  · rw [set_get hg] at h1
    by_cases hj : j = i
    · rw [if_pos hj] at h1; cases h1
    · rw [if_neg hj] at h1; exact R.frs q o hq j m es h1 h3
end
end DL
set_option Elab.async false
set_option linter.all false
set_option autoImplicit false
set_option maxRecDepth 100000
set_option maxHeartbeats 4000000
/-! DL2: judgements over the data: expressions, tests, arguments, iterators, targets, statements. -/
namespace DL
open PySem PySem.Spec PyProof.Rows L2

abbrev WE := List Sl → (D → List Sl → Prop) → Prop
abbrev WF := List Sl → (List D → List Sl → Prop) → Prop
abbrev WT := List Sl → (Bool → List Sl → Prop) → Prop
abbrev WA := List Sl → (List D → List Sl → Prop) → Prop
abbrev WO := List Sl → (Option Int → List Sl → Prop) → Prop
/-- monotone -/
def Mo {α : Type} (w : List Sl → (α → List Sl → Prop) → Prop) : Prop := ∀ γ (P P' : α → List Sl → Prop), (∀ d γ', P d γ' → P' d γ') → w γ P → w γ P'

structure SE (K : PySem.W.Frag) (t : TE) (w : WE) : Prop where
  mono : Mo w
  run : ∀ B S H σ γ (Q : VK), Rel K B S H σ γ → w γ (fun d γ' => ∀ v S' H', Rel K B S' H' σ γ' → Same S S' → Den S' v d → Q v H') → t σ H Q
/-- a new list -/
structure SF (K : PySem.W.Frag) (t : TE) (w : WF) : Prop where
  mono : Mo w
  run : ∀ B S H σ γ (Q : VK), Rel K B S H σ γ → w γ (fun ds γ' => ∀ p xs S' H', Rel K B S' H' σ γ' → Same S S' → S' p = none → B.H0 p = none → H' p = some (.lst xs) → DenL S' xs ds → NoOwn B σ γ' p → Q (.ref p) H') → t σ H Q
structure ST (K : PySem.W.Frag) (t : TT) (w : WT) : Prop where
  mono : Mo w
  run : ∀ B S H σ γ (Q : Bool → Hp → Prop), Rel K B S H σ γ → w γ (fun b γ' => ∀ S' H', Rel K B S' H' σ γ' → Same S S' → Q b H') → t σ H Q
structure SA (K : PySem.W.Frag) (t : TA) (w : WA) : Prop where
  mono : Mo w
  run : ∀ B S H σ γ (Q : List V → Hp → Prop), Rel K B S H σ γ → w γ (fun ds γ' => ∀ vs S' H', Rel K B S' H' σ γ' → Same S S' → DenL S' vs ds → Q vs H') → t σ H Q
structure SO (K : PySem.W.Frag) (t : TO) (w : WO) : Prop where
  mono : Mo w
  run : ∀ B S H σ γ (Q : Option Int → Hp → Prop), Rel K B S H σ γ → w γ (fun o γ' => ∀ S' H', Rel K B S' H' σ γ' → Same S S' → Q o H') → t σ H Q

structure DE (X : Cx) (e : Expr) (t : TE) (w : WE) : Prop where
  pe : PE X e t
  se : SE X.K t w
structure DF (X : Cx) (e : Expr) (t : TE) (w : WF) : Prop where
  pe : PE X e t
  sf : SF X.K t w
structure DT (X : Cx) (e : Expr) (t : TT) (w : WT) : Prop where
  pt : PT X e t
  st : ST X.K t w
/-- and, or within tests -/
structure DW (X : Cx) (e : Expr) (t : TT) (w : WT) : Prop where
  pw : PW X e t
  st : ST X.K t w
structure DA (X : Cx) (es : List Expr) (t : TA) (w : WA) : Prop where
  pa : PA X es t
  sa : SA X.K t w
structure DO (X : Cx) (e : Option Expr) (t : TO) (w : WO) : Prop where
  po : PO X e t
  so : SO X.K t w

section
variable {X : Cx} {K : PySem.W.Frag} {a b c e : Expr} {ta tb tc te : TE} {wa wb wc we : WE} {pos : Pos}
theorem DW.dt {t : TT} {w : WT} (h : DW X e t w) : DT X e t w := ⟨h.pw.pt, h.st⟩

/-! ### names, constants -/
def dVar (i : Nat) : WE := fun γ Q => (∃ d, γ[i]? = some (.val d) ∧ Q d γ) ∨ (∃ ds, γ[i]? = some (.own false ds) ∧ Q (.lst ds) (γ.set i (.val (.lst ds))))
theorem se_var {i : Nat} : SE K (tVar i) (dVar i) := by
  refine ⟨fun γ P P' h q => ?_, fun B S H σ γ Q R h => ?_⟩
  · rcases q with ⟨d, e, q⟩ | ⟨ds, e, q⟩
    · exact .inl ⟨d, e, h _ _ q⟩
    · exact .inr ⟨ds, e, h _ _ q⟩
  · rcases h with ⟨d, e, q⟩ | ⟨ds, e, q⟩
    · obtain ⟨v, e1, e2⟩ := R.sl i _ e
      exact ⟨v, e1, q v S H R (Same.refl S) e2⟩
    · obtain ⟨S', p, e1, e2, R', dn⟩ := R.val e
      exact ⟨.ref p, e1, q _ S' H R' e2 dn⟩
theorem de_var (i : Nat) {x : Str} (hN : X.N[i]? = some x := by rfl) (hv : Vis X.env.scope x := by first | exact Or.inl rfl | exact Or.inr (Or.inl rfl) | exact Or.inr (Or.inr rfl)) (hd : (x == ("__debug__" : Str)) = false := by decide)
    (hcd : (x == ("__classdict__" : Str)) = false := by decide) : DE X (.Name x pos) (tVar i) (dVar i) := ⟨pe_var hN hv hd hcd, se_var⟩
def dC (d : D) : WE := fun γ Q => Q d γ
theorem se_c {v : V} {d : D} (h : ∀ S, Den S v d) : SE K (tC v) (dC d) := ⟨fun γ P P' h q => h _ _ q, fun B S H σ γ Q R q => q v S H R (Same.refl S) (h S)⟩
theorem de_int {i : Int} {j} : DE X (.Constant (.int i) j pos) (tC (.int i)) (dC (.int i)) := ⟨pe_int, se_c fun _ => .int i⟩
theorem de_bl {i : Bool} {j} : DE X (.Constant (.bool i) j pos) (tC (.bl i)) (dC (.bl i)) := ⟨pe_bl, se_c fun _ => .bl i⟩
theorem de_non {j} : DE X (.Constant .none j pos) (tC .non) (dC .non) := ⟨pe_non, se_c fun _ => .non⟩
theorem de_str {x : Str} {j} : DE X (.Constant (.str x) j pos) (tC (.str x)) (dC (.str x)) := ⟨pe_str, se_c fun _ => .str x⟩
/-- a new list taken as a value -/
def dV (w : WF) : WE := fun γ Q => w γ fun ds γ' => Q (.lst ds) γ'
theorem se_of {t : TE} {w : WF} (h : SF K t w) : SE K t (dV w) := by
  refine ⟨fun γ P P' k q => h.mono γ _ _ (fun d γ' x => k _ _ x) q, fun B S H σ γ Q R q => ?_⟩
  refine h.run B S H σ γ Q R (h.mono γ _ _ (fun ds γ' k p xs S' H' R' e e1 e2 e3 e4 e5 => ?_) q)
  have e6 : Same S' (upd S' p (.lst xs)) := Same.upd (Same.refl S') e1
  exact k (.ref p) (upd S' p (.lst xs)) H' (R'.freeze e3 e1 e2 e5) (e.trans e6) (.ofL upd_same (e4.mono e6))
theorem DF.v {t : TE} {w : WF} (h : DF X e t w) : DE X e t (dV w) := ⟨h.pe, se_of h.sf⟩

/-! ### operators -/
/-- an operation's rule by values and what it is on data -/
structure OpS (r : R2) (f : D → D → (D → Prop) → Prop) : Prop where
  mono : ∀ x y (P P' : D → Prop), (∀ d, P d → P' d) → f x y P → f x y P'
  run : ∀ K B S H σ γ (Q : VK) v u x y, Rel K B S H σ γ → Den S v x → Den S u y → f x y (fun d => ∀ z S' H', Rel K B S' H' σ γ → Same S S' → Den S' z d → Q z H') → r v u H Q
def dOp (f : D → D → (D → Prop) → Prop) (wa wb : WE) : WE := fun γ Q => wa γ fun x γ1 => wb γ1 fun y γ2 => f x y fun d => Q d γ2
theorem se_op {r : R2} {f : D → D → (D → Prop) → Prop} (ho : OpS r f) (ha : SE K ta wa) (hb : SE K tb wb) : SE K (tOp r ta tb) (dOp f wa wb) := by
  refine ⟨fun γ P P' k q => ha.mono γ _ _ (fun x γ1 q => hb.mono γ1 _ _ (fun y γ2 q => ho.mono x y _ _ (fun d q => k _ _ q) q) q) q, fun B S H σ γ Q R q => ?_⟩
  refine ha.run B S H σ γ _ R (ha.mono γ _ _ (fun x γ1 q v S1 H1 R1 e1 d1 => ?_) q)
  refine hb.run B S1 H1 σ γ1 _ R1 (hb.mono γ1 _ _ (fun y γ2 q u S2 H2 R2 e2 d2 => ?_) q)
  exact ho.run K B S2 H2 σ γ2 Q v u x y R2 (d1.mono e2) d2 (ho.mono _ _ _ _ (fun d q z S' H' R' e d' => q z S' H' R' ((e1.trans e2).trans e) d') q)
theorem de_op {op : Operator} {r : R2} {f : D → D → (D → Prop) → Prop} (h : OpR X (binaryOp op) r) (ho : OpS r f) (ha : DE X a ta wa) (hb : DE X b tb wb) : DE X (.BinOp a op b pos) (tOp r ta tb) (dOp f wa wb) := ⟨pe_op h ha.pe hb.pe, se_op ho ha.se hb.se⟩
theorem de_cmp {op : CmpOp} {r : R2} {f : D → D → (D → Prop) → Prop} (h : OpR X (compareOp op) r) (ho : OpS r f) (ha : DE X a ta wa) (hb : DE X b tb wb) (hm : behindInMarks op b = false) : DE X (.Compare a [op] [b] pos) (tOp r ta tb) (dOp f wa wb) := ⟨pe_cmpR h ha.pe hb.pe hm, se_op ho ha.se hb.se⟩
/-- ints to a datum, under a condition -/
def dI (C : Int → Int → Prop) (g : Int → Int → D) (x y : D) (Q : D → Prop) : Prop := ∃ i j, x = .int i ∧ y = .int j ∧ C i j ∧ Q (g i j)
def dI0 (g : Int → Int → D) (x y : D) (Q : D → Prop) : Prop := ∃ i j, x = .int i ∧ y = .int j ∧ Q (g i j)
theorem ops_I {C : Int → Int → Prop} {g : Int → Int → V} {h : Int → Int → D} (e : ∀ S i j, Den S (g i j) (h i j)) : OpS (rI C g) (dI C h) := by
  refine ⟨fun x y P P' k q => ?_, fun K B S H σ γ Q v u x y R d1 d2 q => ?_⟩
  · obtain ⟨i, j, e1, e2, c, q⟩ := q
    exact ⟨i, j, e1, e2, c, k _ q⟩
  · obtain ⟨i, j, e1, e2, c, q⟩ := q
    subst e1; subst e2
    cases d1; cases d2
    exact ⟨i, j, rfl, rfl, c, q _ S H R (Same.refl S) (e S i j)⟩
theorem ops_I0 {g : Int → Int → V} {h : Int → Int → D} (e : ∀ S i j, Den S (g i j) (h i j)) : OpS (rI0 g) (dI0 h) := by
  refine ⟨fun x y P P' k q => ?_, fun K B S H σ γ Q v u x y R d1 d2 q => ?_⟩
  · obtain ⟨i, j, e1, e2, q⟩ := q
    exact ⟨i, j, e1, e2, k _ q⟩
  · obtain ⟨i, j, e1, e2, q⟩ := q
    subst e1; subst e2
    cases d1; cases d2
    exact ⟨i, j, rfl, rfl, q _ S H R (Same.refl S) (e S i j)⟩
abbrev dAdd := dOp (dI0 fun i j => .int (i + j))
abbrev dSub := dOp (dI0 fun i j => .int (i - j))
abbrev dMul := dOp (dI CMul fun i j => .int (i * j))
abbrev dMulW := dOp (dI CMulW fun i j => .int (i * j))
abbrev dFdv := dOp (dI CDivW fun i j => .int (i / j))
abbrev dMod := dOp (dI (fun _ j => 0 < j) fun i j => .int (i % j))
abbrev dPow := dOp (dI CPow fun i j => .int (i ^ j.toNat))
abbrev dLt := dOp (dI0 fun i j => .bl (decide (i < j)))
abbrev dLe := dOp (dI0 fun i j => .bl (decide (i ≤ j)))
abbrev dGt := dOp (dI0 fun i j => .bl (decide (j < i)))
abbrev dGe := dOp (dI0 fun i j => .bl (decide (j ≤ i)))
theorem de_add (ha : DE X a ta wa) (hb : DE X b tb wb) : DE X (.BinOp a .Add b pos) (tOp (rI0 fun i j => .int (i + j)) ta tb) (dAdd wa wb) := de_op op_add (ops_I0 fun _ _ _ => .int _) ha hb
theorem de_sub (ha : DE X a ta wa) (hb : DE X b tb wb) : DE X (.BinOp a .Sub b pos) (tOp (rI0 fun i j => .int (i - j)) ta tb) (dSub wa wb) := de_op op_sub (ops_I0 fun _ _ _ => .int _) ha hb
theorem de_mul (ha : DE X a ta wa) (hb : DE X b tb wb) : DE X (.BinOp a .Mult b pos) (tOp (rI CMul fun i j => .int (i * j)) ta tb) (dMul wa wb) := de_op op_mul (ops_I fun _ _ _ => .int _) ha hb
theorem de_mulW (ha : DE X a ta wa) (hb : DE X b tb wb) : DE X (.BinOp a .Mult b pos) (tOp (rI CMulW fun i j => .int (i * j)) ta tb) (dMulW wa wb) := de_op op_mulW (ops_I fun _ _ _ => .int _) ha hb
theorem de_fdv (ha : DE X a ta wa) (hb : DE X b tb wb) : DE X (.BinOp a .FloorDiv b pos) (tOp (rI CDivW fun i j => .int (i / j)) ta tb) (dFdv wa wb) := de_op op_fdivW (ops_I fun _ _ _ => .int _) ha hb
theorem de_mod (ha : DE X a ta wa) (hb : DE X b tb wb) : DE X (.BinOp a .Mod b pos) (tOp (rI (fun _ j => 0 < j) fun i j => .int (i % j)) ta tb) (dMod wa wb) := de_op op_mod (ops_I fun _ _ _ => .int _) ha hb
theorem de_pow (ha : DE X a ta wa) (hb : DE X b tb wb) : DE X (.BinOp a .Pow b pos) (tOp (rI CPow fun i j => .int (i ^ j.toNat)) ta tb) (dPow wa wb) := de_op op_pow (ops_I fun _ _ _ => .int _) ha hb
theorem de_lt (ha : DE X a ta wa) (hb : DE X b tb wb) : DE X (.Compare a [.Lt] [b] pos) (tOp (rI0 fun i j => .bl (decide (i < j))) ta tb) (dLt wa wb) := de_cmp op_lt (ops_I0 fun _ _ _ => .bl _) ha hb (nomark _)
theorem de_le (ha : DE X a ta wa) (hb : DE X b tb wb) : DE X (.Compare a [.LtE] [b] pos) (tOp (rI0 fun i j => .bl (decide (i ≤ j))) ta tb) (dLe wa wb) := de_cmp op_le (ops_I0 fun _ _ _ => .bl _) ha hb (nomark _)
theorem de_gt (ha : DE X a ta wa) (hb : DE X b tb wb) : DE X (.Compare a [.Gt] [b] pos) (tOp (rI0 fun i j => .bl (decide (j < i))) ta tb) (dGt wa wb) := de_cmp op_gt (ops_I0 fun _ _ _ => .bl _) ha hb (nomark _)
theorem de_ge (ha : DE X a ta wa) (hb : DE X b tb wb) : DE X (.Compare a [.GtE] [b] pos) (tOp (rI0 fun i j => .bl (decide (j ≤ i))) ta tb) (dGe wa wb) := de_cmp op_ge (ops_I0 fun _ _ _ => .bl _) ha hb (nomark _)
/-- == of scalars: None, bools, ints, texts -/
def scalD : D → Option V
  | .non => some .non | .bl b => some (.bl b) | .int i => some (.int i) | .str s => some (.str s) | _ => none
theorem scalD_den {S : Hp} {d : D} {v u : V} (h : Den S v d) (e : scalD d = some u) : v = u := by
  cases h <;> first | (cases e; rfl) | cases e
def dSc (neg : Bool) (x y : D) (Q : D → Prop) : Prop := ∃ v u, scalD x = some v ∧ scalD y = some u ∧ scal v u = true ∧ Q (.bl (if neg then !decide (v = u) else decide (v = u)))
theorem ops_eq : OpS rEq (dSc false) := by
  refine ⟨fun x y P P' k q => ?_, fun K B S H σ γ Q v u x y R d1 d2 q => ?_⟩
  · obtain ⟨i, j, e1, e2, c, q⟩ := q
    exact ⟨i, j, e1, e2, c, k _ q⟩
  · obtain ⟨i, j, e1, e2, c, q⟩ := q
    rw [scalD_den d1 e1, scalD_den d2 e2]
    exact ⟨c, q _ S H R (Same.refl S) (.bl _)⟩
theorem ops_ne : OpS rNe (dSc true) := by
  refine ⟨fun x y P P' k q => ?_, fun K B S H σ γ Q v u x y R d1 d2 q => ?_⟩
  · obtain ⟨i, j, e1, e2, c, q⟩ := q
    exact ⟨i, j, e1, e2, c, k _ q⟩
  · obtain ⟨i, j, e1, e2, c, q⟩ := q
    rw [scalD_den d1 e1, scalD_den d2 e2]
    exact ⟨c, q _ S H R (Same.refl S) (.bl _)⟩
abbrev dEq := dOp (dSc false)
abbrev dNe := dOp (dSc true)
theorem de_eq (ha : DE X a ta wa) (hb : DE X b tb wb) : DE X (.Compare a [.Eq] [b] pos) (tOp rEq ta tb) (dEq wa wb) := de_cmp op_eq ops_eq ha hb (nomark _)
theorem de_ne (ha : DE X a ta wa) (hb : DE X b tb wb) : DE X (.Compare a [.NotEq] [b] pos) (tOp rNe ta tb) (dNe wa wb) := de_cmp op_ne ops_ne ha hb (nomark _)
/-- is None, is not None -/
def dIsN (neg : Bool) (x y : D) (Q : D → Prop) : Prop := y = .non ∧ Q (.bl (match x with | .non => !neg | _ => neg))
theorem ops_isN : OpS (fun x y H Q => y = .non ∧ Q (.bl (decide (x = .non))) H) (dIsN false) := by
  refine ⟨fun x y P P' k q => ⟨q.1, k _ q.2⟩, fun K B S H σ γ Q v u x y R d1 d2 q => ?_⟩
  obtain ⟨e, q⟩ := q
  subst e
  cases d2
  refine ⟨rfl, q _ S H R (Same.refl S) ?_⟩
  cases d1 <;> exact .bl _
theorem ops_notN : OpS (fun x y H Q => y = .non ∧ Q (.bl (!decide (x = .non))) H) (dIsN true) := by
  refine ⟨fun x y P P' k q => ⟨q.1, k _ q.2⟩, fun K B S H σ γ Q v u x y R d1 d2 q => ?_⟩
  obtain ⟨e, q⟩ := q
  subst e
  cases d2
  refine ⟨rfl, q _ S H R (Same.refl S) ?_⟩
  cases d1 <;> exact .bl _
theorem de_isN {j pos'} (ha : DE X a ta wa) : DE X (.Compare a [.Is] [.Constant .none j pos'] pos) (tOp (fun x y H Q => y = .non ∧ Q (.bl (decide (x = .non))) H) ta (tC .non)) (dOp (dIsN false) wa (dC .non)) := de_cmp op_isN ops_isN ha de_non (nomark _)
theorem de_notN {j pos'} (ha : DE X a ta wa) : DE X (.Compare a [.IsNot] [.Constant .none j pos'] pos) (tOp (fun x y H Q => y = .non ∧ Q (.bl (!decide (x = .non))) H) ta (tC .non)) (dOp (dIsN true) wa (dC .non)) := de_cmp op_notN ops_notN ha de_non (nomark _)
/-- - x -/
def dNeg (wa : WE) : WE := fun γ Q => wa γ fun x γ1 => ∃ i, x = .int i ∧ Q (.int (-i)) γ1
theorem de_neg (ha : DE X a ta wa) : DE X (.UnaryOp .USub a pos) (tUn (rU fun i => .int (-i)) ta) (dNeg wa) := by
  refine ⟨pe_un un_neg ha.pe, fun γ P P' k q => ha.se.mono γ _ _ (fun x γ1 ⟨i, e, q⟩ => ⟨i, e, k _ _ q⟩) q, fun B S H σ γ Q R q => ?_⟩
  refine ha.se.run B S H σ γ _ R (ha.se.mono γ _ _ (fun x γ1 ⟨i, e, q⟩ v S1 H1 R1 e1 d1 => ?_) q)
  subst e
  cases d1
  exact ⟨i, rfl, q _ S1 H1 R1 e1 (.int _)⟩

/-! ### tests -/
/-- a value's truth -/
def truD : D → Bool
  | .non => false | .bl b => b | .int i => i != 0 | .str s => (s.length : Int) != 0 | .lst ds => !ds.isEmpty | .tup ds => !ds.isEmpty
def okT : D → Prop
  | .str s => s.length ≤ sizeLine | _ => True
def dTr (wa : WE) : WT := fun γ Q => wa γ fun x γ1 => okT x ∧ Q (truD x) γ1
theorem isEmpty_len {α β : Type} {xs : List α} {ds : List β} (h : xs.length = ds.length) : xs.isEmpty = ds.isEmpty := by
  cases xs <;> cases ds <;> simp_all
theorem truV_of {H S : Hp} {v : V} {d : D} (h : Den S v d) (e : Same S H) (ok : okT d) : TruV K v H (truD d) := by
  cases h with
  | non => rfl
  | bl b => rfl
  | int i => rfl
  | str s => exact ⟨ok, rfl⟩
  | lst h hl hs => exact .inl ⟨_, SqL.of (e _ _ h), by show (!_) = _; rw [isEmpty_len hl]⟩
  | tup h hl hs => exact .inr (.inl ⟨_, SqT.of (e _ _ h), by show (!_) = _; rw [isEmpty_len hl]⟩)
theorem dt_tr (K' : PySem.W.Frag) (ha : DE X a ta wa) (he : ∀ whole, isTrue a X.env whole = (do let v ← whole; standAt a.pos; holding [v] (truthy v)) := by intro _; rfl) (hK : X.K = K' := by rfl) : DT X a (fun σ H Q => ta σ H fun x H' => ∃ k, TruV K' x H' k ∧ Q k H') (dTr wa) := by
  subst hK
  refine ⟨pt_truth ha.pe he, fun γ P P' k q => ha.se.mono γ _ _ (fun x γ1 ⟨e, q⟩ => ⟨e, k _ _ q⟩) q, fun B S H σ γ Q R q => ?_⟩
  refine ha.se.run B S H σ γ _ R (ha.se.mono γ _ _ (fun x γ1 ⟨ok, q⟩ v S1 H1 R1 e1 d1 => ?_) q)
  exact ⟨_, truV_of d1 R1.same ok, q S1 H1 R1 e1⟩
/-- a comparison as a test -/
def dB (wa : WE) : WT := fun γ Q => wa γ fun x γ1 => ∃ b, x = .bl b ∧ Q b γ1
theorem st_test (ha : SE K ta wa) : ST K (tTest ta) (dB wa) := by
  refine ⟨fun γ P P' k q => ha.mono γ _ _ (fun x γ1 ⟨i, e, q⟩ => ⟨i, e, k _ _ q⟩) q, fun B S H σ γ Q R q => ?_⟩
  refine ha.run B S H σ γ _ R (ha.mono γ _ _ (fun x γ1 ⟨i, e, q⟩ v S1 H1 R1 e1 d1 => ?_) q)
  subst e
  cases d1
  exact ⟨i, rfl, q S1 H1 R1 e1⟩
theorem dt_cmp {op : CmpOp} {r : R2} {f : D → D → (D → Prop) → Prop} (h : OpR X (compareOp op) r) (ho : OpS r f) (ha : DE X a ta wa) (hb : DE X b tb wb) (hm : behindInMarks op b = false) : DT X (.Compare a [op] [b] pos) (tTest (tOp r ta tb)) (dB (dOp f wa wb)) := ⟨pt_cmpR h ha.pe hb.pe hm, st_test (se_op ho ha.se hb.se)⟩
theorem dt_eq (ha : DE X a ta wa) (hb : DE X b tb wb) : DT X (.Compare a [.Eq] [b] pos) (tTest (tOp rEq ta tb)) (dB (dEq wa wb)) := dt_cmp op_eq ops_eq ha hb (nomark _)
theorem dt_ne (ha : DE X a ta wa) (hb : DE X b tb wb) : DT X (.Compare a [.NotEq] [b] pos) (tTest (tOp rNe ta tb)) (dB (dNe wa wb)) := dt_cmp op_ne ops_ne ha hb (nomark _)
theorem dt_lt (ha : DE X a ta wa) (hb : DE X b tb wb) : DT X (.Compare a [.Lt] [b] pos) (tTest (tOp (rI0 fun i j => .bl (decide (i < j))) ta tb)) (dB (dLt wa wb)) := dt_cmp op_lt (ops_I0 fun _ _ _ => .bl _) ha hb (nomark _)
theorem dt_le (ha : DE X a ta wa) (hb : DE X b tb wb) : DT X (.Compare a [.LtE] [b] pos) (tTest (tOp (rI0 fun i j => .bl (decide (i ≤ j))) ta tb)) (dB (dLe wa wb)) := dt_cmp op_le (ops_I0 fun _ _ _ => .bl _) ha hb (nomark _)
theorem dt_gt (ha : DE X a ta wa) (hb : DE X b tb wb) : DT X (.Compare a [.Gt] [b] pos) (tTest (tOp (rI0 fun i j => .bl (decide (j < i))) ta tb)) (dB (dGt wa wb)) := dt_cmp op_gt (ops_I0 fun _ _ _ => .bl _) ha hb (nomark _)
theorem dt_ge (ha : DE X a ta wa) (hb : DE X b tb wb) : DT X (.Compare a [.GtE] [b] pos) (tTest (tOp (rI0 fun i j => .bl (decide (j ≤ i))) ta tb)) (dB (dGe wa wb)) := dt_cmp op_ge (ops_I0 fun _ _ _ => .bl _) ha hb (nomark _)
theorem dt_isN {j pos'} (ha : DE X a ta wa) : DT X (.Compare a [.Is] [.Constant .none j pos'] pos) (tTest (tOp (fun x y H Q => y = .non ∧ Q (.bl (decide (x = .non))) H) ta (tC .non))) (dB (dOp (dIsN false) wa (dC .non))) := dt_cmp op_isN ops_isN ha de_non (nomark _)
theorem dt_notN {j pos'} (ha : DE X a ta wa) : DT X (.Compare a [.IsNot] [.Constant .none j pos'] pos) (tTest (tOp (fun x y H Q => y = .non ∧ Q (.bl (!decide (x = .non))) H) ta (tC .non))) (dB (dOp (dIsN true) wa (dC .non))) := dt_cmp op_notN ops_notN ha de_non (nomark _)
variable {t u : TT} {w w' : WT} {rest : List Expr}
def dAnd (w w' : WT) : WT := fun γ Q => w γ fun c γ1 => if c = true then w' γ1 Q else Q false γ1
def dOr (w w' : WT) : WT := fun γ Q => w γ fun c γ1 => if c = true then Q true γ1 else w' γ1 Q
def dNot (w : WT) : WT := fun γ Q => w γ fun c γ1 => Q (!c) γ1
theorem Mo.ite {α : Type} {w w' : List Sl → (α → List Sl → Prop) → Prop} (h : Mo w) (h' : Mo w') {γ} {P P' : α → List Sl → Prop} {c : Bool} (k : ∀ d γ', P d γ' → P' d γ') (q : if c = true then w γ P else w' γ P) : if c = true then w γ P' else w' γ P' := by
  cases c with
  | true => exact h γ _ _ k q
  | false => exact h' γ _ _ k q
theorem dw_and1 (h : DT X a t w) : DW X (.BoolOp .And [a] pos) t w := ⟨pw_and1 h.pt, h.st⟩
theorem dw_or1 (h : DT X a t w) : DW X (.BoolOp .Or [a] pos) t w := ⟨pw_or1 h.pt, h.st⟩
theorem dw_and (h : DT X a t w) (h' : DW X (.BoolOp .And (b :: rest) pos) u w') : DW X (.BoolOp .And (a :: b :: rest) pos) (tAnd t u) (dAnd w w') := by
  refine ⟨pw_and h.pt h'.pw, fun γ P P' k q => h.st.mono γ _ _ (fun c γ1 q => ?_) q, fun B S H σ γ Q R q => ?_⟩
  · cases c with
    | true => exact h'.st.mono γ1 _ _ k q
    | false => exact k _ _ q
  · refine h.st.run B S H σ γ _ R (h.st.mono γ _ _ (fun c γ1 q S1 H1 R1 e1 => ?_) q)
    cases c with
    | true => exact h'.st.run B S1 H1 σ γ1 _ R1 (h'.st.mono γ1 _ _ (fun b γ2 q S' H' R' e => q S' H' R' (e1.trans e)) q)
    | false => exact q S1 H1 R1 e1
theorem dw_or (h : DT X a t w) (h' : DW X (.BoolOp .Or (b :: rest) pos) u w') : DW X (.BoolOp .Or (a :: b :: rest) pos) (tOr t u) (dOr w w') := by
  refine ⟨pw_or h.pt h'.pw, fun γ P P' k q => h.st.mono γ _ _ (fun c γ1 q => ?_) q, fun B S H σ γ Q R q => ?_⟩
  · cases c with
    | true => exact k _ _ q
    | false => exact h'.st.mono γ1 _ _ k q
  · refine h.st.run B S H σ γ _ R (h.st.mono γ _ _ (fun c γ1 q S1 H1 R1 e1 => ?_) q)
    cases c with
    | true => exact q S1 H1 R1 e1
    | false => exact h'.st.run B S1 H1 σ γ1 _ R1 (h'.st.mono γ1 _ _ (fun b γ2 q S' H' R' e => q S' H' R' (e1.trans e)) q)
theorem dt_not (h : DT X a t w) : DT X (.UnaryOp .Not a pos) (tNot t) (dNot w) :=
  ⟨pt_not h.pt, fun γ P P' k q => h.st.mono γ _ _ (fun c γ1 q => k _ _ q) q, fun B S H σ γ Q R q => h.st.run B S H σ γ _ R q⟩
/-- .. as values (of bools) -/
def dAndV (wa wb : WE) : WE := fun γ Q => wa γ fun x γ1 => ∃ c, x = .bl c ∧ if c = true then wb γ1 Q else Q (.bl false) γ1
def dOrV (wa wb : WE) : WE := fun γ Q => wa γ fun x γ1 => ∃ c, x = .bl c ∧ if c = true then Q (.bl true) γ1 else wb γ1 Q
def dNotV (wa : WE) : WE := fun γ Q => wa γ fun x γ1 => ∃ c, x = .bl c ∧ Q (.bl (!c)) γ1
theorem de_one {op} (h : DE X a ta wa) : DE X (.BoolOp op [a] pos) ta wa := ⟨pe_one h.pe, h.se⟩
theorem de_and (h : DE X a ta wa) (h' : DE X (.BoolOp .And (b :: rest) pos) tb wb) : DE X (.BoolOp .And (a :: b :: rest) pos) (tAndV ta tb) (dAndV wa wb) := by
  refine ⟨L2.pe_and h.pe h'.pe, fun γ P P' k q => h.se.mono γ _ _ (fun x γ1 ⟨c, e, q⟩ => ⟨c, e, Mo.ite (w' := fun γ (Q : D → List Sl → Prop) => Q (D.bl false) γ) h'.se.mono (fun _ _ _ k q => k _ _ q) k q⟩) q, fun B S H σ γ Q R q => ?_⟩
  · refine h.se.run B S H σ γ _ R (h.se.mono γ _ _ (fun x γ1 ⟨c, e, q⟩ v S1 H1 R1 e1 d1 => ?_) q)
    subst e
    cases d1
    refine ⟨c, rfl, ?_⟩
    cases c with
    | true => exact h'.se.run B S1 H1 σ γ1 _ R1 (h'.se.mono γ1 _ _ (fun b γ2 q v S' H' R' e => q v S' H' R' (e1.trans e)) q)
    | false => exact q _ S1 H1 R1 e1 (.bl _)
theorem de_or (h : DE X a ta wa) (h' : DE X (.BoolOp .Or (b :: rest) pos) tb wb) : DE X (.BoolOp .Or (a :: b :: rest) pos) (tOrV ta tb) (dOrV wa wb) := by
  refine ⟨L2.pe_or h.pe h'.pe, fun γ P P' k q => h.se.mono γ _ _ (fun x γ1 ⟨c, e, q⟩ => ⟨c, e, Mo.ite (w := fun γ (Q : D → List Sl → Prop) => Q (D.bl true) γ) (fun _ _ _ k q => k _ _ q) h'.se.mono k q⟩) q, fun B S H σ γ Q R q => ?_⟩
  · refine h.se.run B S H σ γ _ R (h.se.mono γ _ _ (fun x γ1 ⟨c, e, q⟩ v S1 H1 R1 e1 d1 => ?_) q)
    subst e
    cases d1
    refine ⟨c, rfl, ?_⟩
    cases c with
    | true => exact q _ S1 H1 R1 e1 (.bl _)
    | false => exact h'.se.run B S1 H1 σ γ1 _ R1 (h'.se.mono γ1 _ _ (fun b γ2 q v S' H' R' e => q v S' H' R' (e1.trans e)) q)
theorem de_not (h : DE X a ta wa) : DE X (.UnaryOp .Not a pos) (tNotV ta) (dNotV wa) := by
  refine ⟨L2.pe_not h.pe, fun γ P P' k q => h.se.mono γ _ _ (fun x γ1 ⟨c, e, q⟩ => ⟨c, e, k _ _ q⟩) q, fun B S H σ γ Q R q => ?_⟩
  refine h.se.run B S H σ γ _ R (h.se.mono γ _ _ (fun x γ1 ⟨c, e, q⟩ v S1 H1 R1 e1 d1 => ?_) q)
  subst e
  cases d1
  exact ⟨c, rfl, q _ S1 H1 R1 e1 (.bl _)⟩
/-- a if c else b -/
def dIfE (w : WT) (wa wb : WE) : WE := fun γ Q => w γ fun c γ1 => if c = true then wa γ1 Q else wb γ1 Q
theorem de_if (h : DT X c t w) (ha : DE X a ta wa) (hb : DE X b tb wb) : DE X (.IfExp c a b pos) (tIf t ta tb) (dIfE w wa wb) := by
  refine ⟨pe_ifExp h.pt ha.pe hb.pe, fun γ P P' k q => h.st.mono γ _ _ (fun c γ1 q => Mo.ite ha.se.mono hb.se.mono k q) q, fun B S H σ γ Q R q => ?_⟩
  refine h.st.run B S H σ γ _ R (h.st.mono γ _ _ (fun c γ1 q S1 H1 R1 e1 => ?_) q)
  cases c with
  | true => exact ha.se.run B S1 H1 σ γ1 _ R1 (ha.se.mono γ1 _ _ (fun b γ2 q v S' H' R' e => q v S' H' R' (e1.trans e)) q)
  | false => exact hb.se.run B S1 H1 σ γ1 _ R1 (hb.se.mono γ1 _ _ (fun b γ2 q v S' H' R' e => q v S' H' R' (e1.trans e)) q)
end

/-! ### argument lists, displays -/
section
variable {X : Cx} {K : PySem.W.Frag} {e : Expr} {es : List Expr} {te : TE} {we : WE} {t : TA} {w : WA} {pos : Pos}
def dNil : WA := fun γ Q => Q [] γ
def dCons (we : WE) (w : WA) : WA := fun γ Q => we γ fun x γ1 => w γ1 fun ds γ2 => Q (x :: ds) γ2
theorem da_nil : DA X [] tNil dNil := ⟨pa_nil, fun γ P P' k q => k _ _ q, fun B S H σ γ Q R q => q [] S H R (Same.refl S) .nil⟩
theorem da_cons (he : DE X e te we) (h : DA X es t w) (hs : starEach (e :: es) X.env = (false, eval e X.env) :: starEach es X.env := by rfl) : DA X (e :: es) (tCons te t) (dCons we w) := by
  refine ⟨pa_cons he.pe h.pa hs, fun γ P P' k q => he.se.mono γ _ _ (fun x γ1 q => h.sa.mono γ1 _ _ (fun ds γ2 q => k _ _ q) q) q, fun B S H σ γ Q R q => ?_⟩
  refine he.se.run B S H σ γ _ R (he.se.mono γ _ _ (fun x γ1 q v S1 H1 R1 e1 d1 => ?_) q)
  exact h.sa.run B S1 H1 σ γ1 _ R1 (h.sa.mono γ1 _ _ (fun ds γ2 q vs S2 H2 R2 e2 d2 => q _ S2 H2 R2 (e1.trans e2) (.cons (d1.mono e2) d2)) q)
def dTup (w : WA) : WE := fun γ Q => w γ fun ds γ1 => ds.length ≤ sizeLine ∧ Q (.tup ds) γ1
theorem de_tup {x1} (h : DA X es t w) : DE X (.Tuple es x1 pos) (tTup t) (dTup w) := by
  refine ⟨pe_tup h.pa, fun γ P P' k q => h.sa.mono γ _ _ (fun x γ1 q => ⟨q.1, k _ _ q.2⟩) q, fun B S H σ γ Q R q => ?_⟩
  refine h.sa.run B S H σ γ _ R (h.sa.mono γ _ _ (fun x γ1 q vs S1 H1 R1 e1 d1 => ⟨by rw [d1.1]; exact q.1, fun p hp => ?_⟩) q)
  have e2 : Same S1 (upd S1 p (.tup vs)) := Same.upd (Same.refl S1) (R1.freshS hp)
  exact q.2 _ _ _ (R1.new hp) (e1.trans e2) (.ofT upd_same (d1.mono e2))
def dLst (w : WA) : WF := fun γ Q => w γ fun ds γ1 => ds.length ≤ sizeLine ∧ Q ds γ1
theorem df_lst (h : DA X es t w) : DF X (.List es pos) (tLst t) (dLst w) := by
  refine ⟨pe_lst h.pa, fun γ P P' k q => h.sa.mono γ _ _ (fun x γ1 q => ⟨q.1, k _ _ q.2⟩) q, fun B S H σ γ Q R q => ?_⟩
  refine h.sa.run B S H σ γ _ R (h.sa.mono γ _ _ (fun x γ1 q vs S1 H1 R1 e1 d1 => ⟨by rw [d1.1]; exact q.1, fun p hp => ?_⟩) q)
  exact q.2 p vs S1 _ (R1.newOut hp) e1 (R1.freshS hp) (R1.fresh0 hp) upd_same d1 (R1.noOwn hp)
end
end DL
set_option Elab.async false
set_option linter.all false
set_option autoImplicit false
set_option maxRecDepth 100000
set_option maxHeartbeats 4000000
/-! DL3: subscripts, slices, calls, iterators, comprehensions. -/
namespace DL
open PySem PySem.Spec PyProof.Rows L2

section
variable {X : Cx} {K : PySem.W.Frag} {a b c e : Expr} {ta tb tc te : TE} {wa wb wc we : WE} {pos : Pos}
/-! ### x[i] -/
def rIxLT (K : PySem.W.Frag) : R2 := fun x y H Q => rIxL K x y H Q ∨ rIxT K x y H Q
theorem ix_LT : IxR X (rIxLT X.K) := IxR.or ix_list ix_tup
def itemD (x y : D) (Q : D → Prop) : Prop := ∃ i d, y = .int i ∧ ((∃ ds, x = .lst ds ∧ atI ds i = some d) ∨ (∃ ds, x = .tup ds ∧ atI ds i = some d)) ∧ Q d
theorem DenL.atI {S : Hp} {xs : List V} {ds : List D} {i : Int} {d : D} (h : DenL S xs ds) (e : atI ds i = some d) : ∃ v, atI xs i = some v ∧ Den S v d := by
  unfold L2.atI at e ⊢
  rw [h.1]
  cases q : ixN ds.length i with
  | none => rw [q] at e; cases e
  | some j =>
    rw [q] at e
    exact h.get e
theorem se_ix {ta tb : TE} {wa wb : WE} (ha : SE K ta wa) (hb : SE K tb wb) : SE K (tOp (rIxLT K) ta tb) (dOp itemD wa wb) := by
  refine ⟨fun γ P P' k q => ha.mono γ _ _ (fun x γ1 q => hb.mono γ1 _ _ (fun y γ2 ⟨i, d, e1, e2, q⟩ => ⟨i, d, e1, e2, k _ _ q⟩) q) q, fun B S H σ γ Q R q => ?_⟩
  refine ha.run B S H σ γ _ R (ha.mono γ _ _ (fun x γ1 q1 v S1 H1 R1 e1 d1 => ?_) q)
  refine hb.run B S1 H1 σ γ1 _ R1 (hb.mono γ1 _ _ (fun y γ2 q2 u S2 H2 R2 e2 d2 => ?_) q1)
  obtain ⟨i, d, f1, f2, q3⟩ := q2
  clear q1
  subst f1
  cases d2
  rcases f2 with ⟨ds, f2, f3⟩ | ⟨ds, f2, f3⟩
  · subst f2
    obtain ⟨a, xs, g1, g2, g3⟩ := d1.lst_inv
    subst g1
    obtain ⟨z, g4, g5⟩ := g3.atI f3
    exact .inl ⟨a, xs, i, z, rfl, rfl, SqL.of (R2.same _ _ (e2 _ _ g2)), g4, q3 z S2 H2 R2 (e1.trans e2) (g5.mono e2)⟩
  · subst f2
    obtain ⟨a, xs, g1, g2, g3⟩ := d1.tup_inv
    subst g1
    obtain ⟨z, g4, g5⟩ := g3.atI f3
    exact .inr ⟨a, xs, i, z, rfl, rfl, SqT.of (R2.same _ _ (e2 _ _ g2)), g4, q3 z S2 H2 R2 (e1.trans e2) (g5.mono e2)⟩
theorem de_ix (K' : PySem.W.Frag) (ha : DE X a ta wa) (hb : DE X b tb wb) (hs : PlainIx b := by exact fun _ _ => rfl) (hK : X.K = K' := by rfl) : DE X (.Subscript a b pos) (tOp (rIxLT K') ta tb) (dOp itemD wa wb) := by
  subst hK
  exact ⟨pe_ix ix_LT ha.pe hb.pe hs, se_ix ha.se hb.se⟩
/-- an item of a list of one's own, at a name -/
def dIxO (i : Nat) (wb : WE) : WE := fun γ Q => (∃ m ds, γ[i]? = some (.own m ds)) ∧ wb γ fun y γ1 => ∃ k m ds d, y = .int k ∧ γ1[i]? = some (.own m ds) ∧ atI ds k = some d ∧ Q d γ1
theorem de_ixO (K' : PySem.W.Frag) (i : Nat) {x : Str} {px : Pos} (hb : DE X b tb wb) (hN : X.N[i]? = some x := by rfl) (hv : Vis X.env.scope x := by first | exact Or.inl rfl | exact Or.inr (Or.inl rfl) | exact Or.inr (Or.inr rfl)) (hd : (x == ("__debug__" : Str)) = false := by decide)
    (hcd : (x == ("__classdict__" : Str)) = false := by decide) (hs : PlainIx b := by exact fun _ _ => rfl) (hK : X.K = K' := by rfl) : DE X (.Subscript (.Name x px) b pos) (tOp (rIxLT K') (tVar i) tb) (dIxO i wb) := by
  subst hK
  refine ⟨pe_ix ix_LT (pe_var hN hv hd hcd) hb.pe hs, fun γ P P' k q => ⟨q.1, hb.se.mono γ _ _ (fun y γ1 ⟨n, m, ds, d, e1, e2, e3, q⟩ => ⟨n, m, ds, d, e1, e2, e3, k _ _ q⟩) q.2⟩, fun B S H σ γ Q R q => ?_⟩
  obtain ⟨⟨m0, ds0, e0⟩, q⟩ := q
  obtain ⟨p0, xs0, g0, _⟩ := R.sl i _ e0
  refine ⟨_, g0, ?_⟩
  refine hb.se.run B S H σ γ _ R (hb.se.mono γ _ _ (fun y γ1 q u S1 H1 R1 e1 d1 => ?_) q)
  obtain ⟨n, m, ds, d, f1, f2, f3, q⟩ := q
  subst f1
  cases d1
  obtain ⟨p, xs, g1, g2, g3, g4, g5⟩ := R1.sl i _ f2
  rw [g0] at g1
  cases g1
  obtain ⟨z, g6, g7⟩ := g4.atI f3
  exact .inl ⟨p0, xs, n, z, rfl, rfl, SqL.of g3, g6, q z S1 H1 R1 e1 g7⟩

/-! ### slices of lists -/
def dNoPart : WO := fun γ Q => Q none γ
def dPart (w : WE) : WO := fun γ Q => w γ fun x γ1 => ∃ i, x = .int i ∧ Q (some i) γ1
theorem do_none : DO X none tNoPart dNoPart := ⟨po_none, fun γ P P' k q => k _ _ q, fun B S H σ γ Q R q => q S H R (Same.refl S)⟩
theorem do_some (h : DE X e te we) : DO X (some e) (tPart te) (dPart we) := by
  refine ⟨po_some h.pe, fun γ P P' k q => h.se.mono γ _ _ (fun x γ1 ⟨i, e, q⟩ => ⟨i, e, k _ _ q⟩) q, fun B S H σ γ Q R q => ?_⟩
  refine h.se.run B S H σ γ _ R (h.se.mono γ _ _ (fun x γ1 ⟨i, e, q⟩ u S1 H1 R1 e1 d1 => ?_) q)
  subst e
  cases d1
  exact ⟨i, rfl, q S1 H1 R1 e1⟩
def cutL (xs : List D) (lo hi : Option Int) : List D := (xs.drop (HT.sIx xs.length 0 lo)).take (HT.sIx xs.length xs.length hi - HT.sIx xs.length 0 lo)
theorem DenL.cut {S : Hp} {xs : List V} {ds : List D} (h : DenL S xs ds) (lo hi : Option Int) : DenL S (cutV xs lo hi) (cutL ds lo hi) := by
  unfold cutV cutL
  rw [h.1]
  exact (h.drop _).take _
def dSl (wa : WE) (wl wh : WO) : WF := fun γ Q => wa γ fun x γ1 => wl γ1 fun l γ2 => wh γ2 fun h γ3 => ∃ ds, x = .lst ds ∧ Q (cutL ds l h) γ3
theorem df_sl (K' : PySem.W.Frag) {lo hi : Option Expr} {tl th : TO} {wl wh : WO} {p2 : Pos} (ha : DE X a ta wa) (hl : DO X lo tl wl) (hh : DO X hi th wh) (hK : X.K = K' := by rfl) : DF X (.Subscript a (.Slice lo hi none p2) pos) (tSl (rSlL K') ta tl th) (dSl wa wl wh) := by
  subst hK
  refine ⟨pe_slice sl_list ha.pe hl.po hh.po, fun γ P P' k q => ha.se.mono γ _ _ (fun x γ1 q => hl.so.mono γ1 _ _ (fun l γ2 q => hh.so.mono γ2 _ _ (fun h γ3 ⟨ds, e, q⟩ => ⟨ds, e, k _ _ q⟩) q) q) q, fun B S H σ γ Q R q => ?_⟩
  refine ha.se.run B S H σ γ _ R (ha.se.mono γ _ _ (fun x γ1 q1 v S1 H1 R1 e1 d1 => ?_) q)
  refine hl.so.run B S1 H1 σ γ1 _ R1 (hl.so.mono γ1 _ _ (fun l γ2 q2 S2 H2 R2 e2 => ?_) q1)
  refine hh.so.run B S2 H2 σ γ2 _ R2 (hh.so.mono γ2 _ _ (fun h γ3 q3 S3 H3 R3 e3 => ?_) q2)
  obtain ⟨ds, e, q4⟩ := q3
  clear q1 q2
  subst e
  obtain ⟨p, xs, g1, g2, g3⟩ := d1.lst_inv
  subst g1
  refine ⟨p, xs, rfl, SqL.of (R3.same _ _ (e3 _ _ (e2 _ _ g2))), fun p' hp => ?_⟩
  exact q4 p' _ S3 _ (R3.newOut hp) (e1.trans (e2.trans e3)) (R3.freshS hp) (R3.fresh0 hp) upd_same ((g3.cut l h).mono (e2.trans e3)) (R3.noOwn hp)
/-- a slice of the script -/
def dSlS (i : Nat) (wl wh : WO) : WF := fun γ Q => (∃ ns, γ[i]? = some (.scr ns)) ∧ wl γ fun l γ2 => wh γ2 fun h γ3 => ∃ ns, γ3[i]? = some (.scr ns) ∧ Q (cutL (ns.map D.int) l h) γ3
theorem df_slS (K' : PySem.W.Frag) (i : Nat) {x : Str} {px : Pos} {lo hi : Option Expr} {tl th : TO} {wl wh : WO} {p2 : Pos} (hl : DO X lo tl wl) (hh : DO X hi th wh) (hN : X.N[i]? = some x := by rfl) (hv : Vis X.env.scope x := by first | exact Or.inl rfl | exact Or.inr (Or.inl rfl) | exact Or.inr (Or.inr rfl)) (hd : (x == ("__debug__" : Str)) = false := by decide)
    (hcd : (x == ("__classdict__" : Str)) = false := by decide) (hK : X.K = K' := by rfl) : DF X (.Subscript (.Name x px) (.Slice lo hi none p2) pos) (tSl (rSlL K') (tVar i) tl th) (dSlS i wl wh) := by
  subst hK
  refine ⟨pe_slice sl_list (pe_var hN hv hd hcd) hl.po hh.po, fun γ P P' k q => ⟨q.1, hl.so.mono γ _ _ (fun l γ2 q => hh.so.mono γ2 _ _ (fun h γ3 ⟨ds, e, q⟩ => ⟨ds, e, k _ _ q⟩) q) q.2⟩, fun B S H σ γ Q R q => ?_⟩
  obtain ⟨⟨ns0, e0⟩, q⟩ := q
  obtain ⟨a0, g0, _⟩ := R.sl i _ e0
  refine ⟨_, g0, ?_⟩
  refine hl.so.run B S H σ γ _ R (hl.so.mono γ _ _ (fun l γ2 q S2 H2 R2 e2 => ?_) q)
  refine hh.so.run B S2 H2 σ γ2 _ R2 (hh.so.mono γ2 _ _ (fun h γ3 q S3 H3 R3 e3 => ?_) q)
  obtain ⟨ns, e, q⟩ := q
  obtain ⟨a1, g1, g2⟩ := R3.sl i _ e
  rw [g0] at g1
  cases g1
  refine ⟨a0, _, rfl, R3.same.seq g2, fun p' hp => ?_⟩
  exact q p' _ S3 _ (R3.newOut hp) (e2.trans e3) (R3.freshS hp) (R3.fresh0 hp) upd_same ((DenL.ints ns).cut l h) (R3.noOwn hp)

/-! ### calls of built-ins by values -/
/-- a call's rule by values and what it is on data -/
structure CallS (K : PySem.W.Frag) (r : List V → Hp → VK → Prop) (f : List D → (D → Prop) → Prop) : Prop where
  mono : ∀ ds (P P' : D → Prop), (∀ d, P d → P' d) → f ds P → f ds P'
  run : ∀ B S H σ γ (Q : VK) vs ds, Rel K B S H σ γ → DenL S vs ds → f ds (fun d => ∀ z S' H', Rel K B S' H' σ γ → Same S S' → Den S' z d → Q z H') → r vs H Q
def dCall (f : List D → (D → Prop) → Prop) (w : WA) : WE := fun γ Q => w γ fun ds γ1 => f ds fun d => Q d γ1
theorem se_call {r : List V → Hp → VK → Prop} {f : List D → (D → Prop) → Prop} {t : TA} {w : WA} (h : CallS K r f) (ha : SA K t w) : SE K (tCB r t) (dCall f w) := by
  refine ⟨fun γ P P' k q => ha.mono γ _ _ (fun ds γ1 q => h.mono ds _ _ (fun d q => k _ _ q) q) q, fun B S H σ γ Q R q => ?_⟩
  refine ha.run B S H σ γ _ R (ha.mono γ _ _ (fun ds γ1 q vs S1 H1 R1 e1 d1 => ?_) q)
  exact h.run B S1 H1 σ γ1 Q vs ds R1 d1 (h.mono _ _ _ (fun d q z S' H' R' e d' => q z S' H' R' (e1.trans e) d') q)
variable {x : Str} {es : List Expr} {t : TA} {w : WA} {p : Pos} {nm T : String}
theorem de_callB {r : List V → Hp → VK → Prop} {f : List D → (D → Prop) → Prop} (hs : CallS X.K r f) (hc : CallR X (.builtin nm) r) (hm : X.mg x = none) (hv : bootBuiltins x = some (.builtin nm)) (ha : DA X (e :: es) t w) (hg : Gl X x := by rfl) (hn : x ≠ "__name__" := by decide) (hdb : (x == ("__debug__" : Str)) = false := by decide)
    (he : starEach (e :: es) X.env = (false, eval e X.env) :: starEach es X.env := by rfl) (hpl : (backTo pos (starEach es X.env)).any (·.1) = false := by rfl) : DE X (.Call (.Name x p) (e :: es) [] pos) (tCB r t) (dCall f w) := ⟨pe_callB hc hg hm hv ha.pa hn hdb he hpl, se_call hs ha.sa⟩
theorem de_callTy {r : List V → Hp → VK → Prop} {f : List D → (D → Prop) → Prop} (hs : CallS X.K r f) (hc : CallR X (.type T) r) (hm : X.mg x = none) (hv : bootBuiltins x = some (.type T)) (ha : DA X (e :: es) t w) (hg : Gl X x := by rfl) (hn : x ≠ "__name__" := by decide) (hdb : (x == ("__debug__" : Str)) = false := by decide)
    (he : starEach (e :: es) X.env = (false, eval e X.env) :: starEach es X.env := by rfl) (hpl : (backTo pos (starEach es X.env)).any (·.1) = false := by rfl) : DE X (.Call (.Name x p) (e :: es) [] pos) (tCB r t) (dCall f w) := ⟨pe_callTy hc hg hm hv ha.pa hn hdb he hpl, se_call hs ha.sa⟩
/-- len -/
def lenD (ds : List D) (Q : D → Prop) : Prop := ∃ es, (ds = [.lst es] ∨ ds = [.tup es]) ∧ Q (.int es.length)
theorem DenL.one {S : Hp} {vs : List V} {d : D} (h : DenL S vs [d]) : ∃ v, vs = [v] ∧ Den S v d := by
  obtain ⟨v, r, rfl, h1, h2⟩ := h.cons_inv
  rw [h2.nil_inv]
  exact ⟨v, rfl, h1⟩
theorem DenL.two {S : Hp} {vs : List V} {d d' : D} (h : DenL S vs [d, d']) : ∃ v u, vs = [v, u] ∧ Den S v d ∧ Den S u d' := by
  obtain ⟨v, r, rfl, h1, h2⟩ := h.cons_inv
  obtain ⟨u, rfl, h3⟩ := h2.one
  exact ⟨v, u, rfl, h1, h3⟩
theorem cs_len : CallS K (fun xs H Q => ∃ p ys, xs = [.ref p] ∧ (SqL K H p ys ∨ SqT K H p ys) ∧ Q (.int ys.length) H) lenD := by
  refine ⟨fun ds P P' k ⟨es, e, q⟩ => ⟨es, e, k _ q⟩, fun B S H σ γ Q vs ds R d q => ?_⟩
  obtain ⟨es, e, q⟩ := q
  rcases e with e | e
  · subst e
    obtain ⟨v, rfl, d1⟩ := d.one
    obtain ⟨a, xs, rfl, g2, g3⟩ := d1.lst_inv
    refine ⟨a, xs, rfl, .inl (SqL.of (R.same _ _ g2)), ?_⟩
    rw [g3.1]
    exact q _ S H R (Same.refl S) (.int _)
  · subst e
    obtain ⟨v, rfl, d1⟩ := d.one
    obtain ⟨a, xs, rfl, g2, g3⟩ := d1.tup_inv
    refine ⟨a, xs, rfl, .inr (SqT.of (R.same _ _ g2)), ?_⟩
    rw [g3.1]
    exact q _ S H R (Same.refl S) (.int _)
/-- len of a list of one's own -/
def dLenO (i : Nat) : WE := fun γ Q => ∃ m ds, γ[i]? = some (.own m ds) ∧ Q (.int ds.length) γ
theorem de_lenO (K' : PySem.W.Frag) (i : Nat) (hm : X.mg "len" = none) {x : Str} {px : Pos} (hN : X.N[i]? = some x := by rfl) (hv : Vis X.env.scope x := by first | exact Or.inl rfl | exact Or.inr (Or.inl rfl) | exact Or.inr (Or.inr rfl)) (hd : (x == ("__debug__" : Str)) = false := by decide)
    (hcd : (x == ("__classdict__" : Str)) = false := by decide) (hg : Gl X "len" := by rfl) (hK : X.K = K' := by rfl) : DE X (.Call (.Name "len" p) [.Name x px] [] pos) (tCB (fun xs H Q => ∃ p ys, xs = [.ref p] ∧ (SqL K' H p ys ∨ SqT K' H p ys) ∧ Q (.int ys.length) H) (tCons (tVar i) tNil)) (dLenO i) := by
  subst hK
  refine ⟨pe_callB call_len_seq hg hm PySem.boot_len (pa_cons (pe_var hN hv hd hcd) pa_nil), fun γ P P' k ⟨m, ds, e, q⟩ => ⟨m, ds, e, k _ _ q⟩, fun B S H σ γ Q R q => ?_⟩
  obtain ⟨m, ds, e, q⟩ := q
  obtain ⟨p, xs, g1, g2, g3, g4, g5⟩ := R.sl i _ e
  refine ⟨_, g1, p, xs, rfl, .inl (SqL.of g3), ?_⟩
  rw [g4.1]
  exact q _ S H R (Same.refl S) (.int _)
/-- sum of ints -/
def sumD (ds : List D) (Q : D → Prop) : Prop := ∃ ns : List Int, ds = [.lst (ns.map D.int)] ∧ Q (.int ns.sum)
theorem cs_sum : CallS K (rSum K) sumD := by
  refine ⟨fun ds P P' k ⟨es, e, q⟩ => ⟨es, e, k _ q⟩, fun B S H σ γ Q vs ds R d q => ?_⟩
  obtain ⟨ns, e, q⟩ := q
  subst e
  obtain ⟨v, rfl, d1⟩ := d.one
  obtain ⟨a, xs, rfl, g2, g3⟩ := d1.lst_inv
  have e := g3.ints_inv
  subst e
  exact ⟨a, ns, rfl, SqL.of (R.same _ _ g2), q _ S H R (Same.refl S) (.int _)⟩
/-- all, any of bools -/
def allD (ds : List D) (Q : D → Prop) : Prop := ∃ bs : List Bool, ds = [.lst (bs.map D.bl)] ∧ Q (.bl (bs.all id))
def anyD (ds : List D) (Q : D → Prop) : Prop := ∃ bs : List Bool, ds = [.lst (bs.map D.bl)] ∧ Q (.bl (bs.any id))
theorem cs_all : CallS K (rAll K) allD := by
  refine ⟨fun ds P P' k ⟨es, e, q⟩ => ⟨es, e, k _ q⟩, fun B S H σ γ Q vs ds R d q => ?_⟩
  obtain ⟨ns, e, q⟩ := q
  subst e
  obtain ⟨v, rfl, d1⟩ := d.one
  obtain ⟨a, xs, rfl, g2, g3⟩ := d1.lst_inv
  have e := g3.bls_inv
  subst e
  exact ⟨a, ns, rfl, SqL.of (R.same _ _ g2), q _ S H R (Same.refl S) (.bl _)⟩
theorem cs_any : CallS K (rAny K) anyD := by
  refine ⟨fun ds P P' k ⟨es, e, q⟩ => ⟨es, e, k _ q⟩, fun B S H σ γ Q vs ds R d q => ?_⟩
  obtain ⟨ns, e, q⟩ := q
  subst e
  obtain ⟨v, rfl, d1⟩ := d.one
  obtain ⟨a, xs, rfl, g2, g3⟩ := d1.lst_inv
  have e := g3.bls_inv
  subst e
  exact ⟨a, ns, rfl, SqL.of (R.same _ _ g2), q _ S H R (Same.refl S) (.bl _)⟩
/-- int(x) of an int or a bool -/
def intD (ds : List D) (Q : D → Prop) : Prop := (∃ i, ds = [.int i] ∧ Q (.int i)) ∨ ∃ b, ds = [.bl b] ∧ Q (.int (if b then 1 else 0))
theorem cs_int : CallS K (fun xs H Q => (∃ i, xs = [.int i] ∧ Q (.int i) H) ∨ ∃ k, xs = [.bl k] ∧ Q (.int (if k then 1 else 0)) H) intD := by
  refine ⟨fun ds P P' k q => ?_, fun B S H σ γ Q vs ds R d q => ?_⟩
  · rcases q with ⟨i, e, q⟩ | ⟨i, e, q⟩
    · exact .inl ⟨i, e, k _ q⟩
    · exact .inr ⟨i, e, k _ q⟩
  · rcases q with ⟨i, e, q⟩ | ⟨i, e, q⟩
    · subst e
      obtain ⟨v, rfl, d1⟩ := d.one
      cases d1
      exact .inl ⟨i, rfl, q _ S H R (Same.refl S) (.int _)⟩
    · subst e
      obtain ⟨v, rfl, d1⟩ := d.one
      cases d1
      exact .inr ⟨i, rfl, q _ S H R (Same.refl S) (.int _)⟩
/-- isinstance(x, T), T a built-in class -/
def tyD : D → String
  | .non => "NoneType" | .bl _ => "bool" | .int _ => "int" | .str _ => "str" | .lst _ => "list" | .tup _ => "tuple"
def isiTab (T : String) (d : D) : Option Bool := kitB (tyD d) T
end
end DL
set_option Elab.async false
set_option linter.all false
set_option autoImplicit false
set_option maxRecDepth 100000
set_option maxHeartbeats 4000000
/-! DL4: iterators, comprehensions, targets, statements. -/
namespace DL
open PySem PySem.Spec PyProof.Rows L2

/-! ### what is walked -/
structure StI (J : It) (S : Hp) (ds : List D) : Prop where
  go : ∀ i H, Same S H → i < ds.length → J.go i H
  stop : ∀ i H, Same S H → ds.length ≤ i → J.stop i H
  yld : ∀ i H x H', Same S H → i < ds.length → J.yld i H x H' → ∃ d, ds[i]? = some d ∧ ((H' = H ∧ Den S x d) ∨ ∃ T xs es, x = .ref T ∧ H T = none ∧ H' = upd H T (.tup xs) ∧ d = .tup es ∧ DenL S xs es)
structure SI (K : PySem.W.Frag) (t : TI) (w : WA) : Prop where
  mono : Mo w
  run : ∀ B S H σ γ (Q : It → Hp → Prop), Rel K B S H σ γ → w γ (fun ds γ' => ∀ J S' H', Rel K B S' H' σ γ' → Same S S' → StI J S' ds → Q J H') → t σ H Q
structure DI (X : Cx) (tg iter : Expr) (t : TI) (w : WA) : Prop where
  pi : PI X tg iter t
  si : SI X.K t w
theorem StI.mono {J : It} {S S' : Hp} {ds : List D} (h : StI J S ds) (e : Same S S') : StI J S' ds :=
  ⟨fun i H e1 hi => h.go i H (e.trans e1) hi, fun i H e1 hi => h.stop i H (e.trans e1) hi, fun i H x H' e1 hi y => by
    obtain ⟨d, hd, q⟩ := h.yld i H x H' (e.trans e1) hi y
    refine ⟨d, hd, ?_⟩
    rcases q with ⟨e2, q⟩ | ⟨T, xs, es, e2, e3, e4, e5, q⟩
    · exact .inl ⟨e2, q.mono e⟩
    · exact .inr ⟨T, xs, es, e2, e3, e4, e5, q.mono e⟩⟩
section
variable {X : Cx} {K : PySem.W.Frag} {tg a b e l : Expr} {ta tb te tl : TE} {wa wb we wl : WE} {pos p : Pos}
theorem sti_list {S : Hp} {a : Addr} {xs : List V} {ds : List D} (h : S a = some (.lst xs)) (hd : DenL S xs ds) : StI (Itl K a) S ds := by
  refine ⟨fun i H e hi => ?_, fun i H e hi => ⟨xs, SqL.of (e _ _ h), by rw [hd.1]; exact hi⟩, fun i H x H' e hi y => ?_⟩
  · have hx : i < xs.length := by rw [hd.1]; exact hi
    exact ⟨xs, xs[i], SqL.of (e _ _ h), List.getElem?_eq_getElem hx⟩
  · obtain ⟨e1, y⟩ := y
    obtain ⟨d, h1, h2⟩ := hd.getV (y xs (SqL.of (e _ _ h)))
    exact ⟨d, h1, .inl ⟨e1, h2⟩⟩
theorem sti_tup {S : Hp} {a : Addr} {xs : List V} {ds : List D} (h : S a = some (.tup xs)) (hd : DenL S xs ds) : StI (Itt K a) S ds := by
  refine ⟨fun i H e hi => ?_, fun i H e hi => ⟨xs, SqT.of (e _ _ h), by rw [hd.1]; exact hi⟩, fun i H x H' e hi y => ?_⟩
  · have hx : i < xs.length := by rw [hd.1]; exact hi
    exact ⟨xs, xs[i], SqT.of (e _ _ h), List.getElem?_eq_getElem hx⟩
  · obtain ⟨e1, y⟩ := y
    obtain ⟨d, h1, h2⟩ := hd.getV (y xs (SqT.of (e _ _ h)))
    exact ⟨d, h1, .inl ⟨e1, h2⟩⟩
/-- a list -/
def dIL (wl : WE) : WA := fun γ Q => wl γ fun x γ1 => ∃ ds, x = .lst ds ∧ Q ds γ1
theorem di_list (K' : PySem.W.Frag) (h : DE X l tl wl) (hK : X.K = K' := by rfl) : DI X tg l (iList K' tl) (dIL wl) := by
  subst hK
  refine ⟨pi_list h.pe, fun γ P P' k q => h.se.mono γ _ _ (fun x γ1 ⟨ds, e, q⟩ => ⟨ds, e, k _ _ q⟩) q, fun B S H σ γ Q R q => ?_⟩
  refine h.se.run B S H σ γ _ R (h.se.mono γ _ _ (fun x γ1 ⟨ds, e, q⟩ v S1 H1 R1 e1 d1 => ?_) q)
  subst e
  obtain ⟨a, xs, rfl, g2, g3⟩ := d1.lst_inv
  exact ⟨a, rfl, ⟨xs, SqL.of (R1.same _ _ g2)⟩, q _ S1 H1 R1 e1 (sti_list g2 g3)⟩
/-- a tuple -/
def dIT (wl : WE) : WA := fun γ Q => wl γ fun x γ1 => ∃ ds, x = .tup ds ∧ Q ds γ1
theorem di_tup (K' : PySem.W.Frag) (h : DE X l tl wl) (hK : X.K = K' := by rfl) : DI X tg l (iTup K' tl) (dIT wl) := by
  subst hK
  refine ⟨pi_tup h.pe, fun γ P P' k q => h.se.mono γ _ _ (fun x γ1 ⟨ds, e, q⟩ => ⟨ds, e, k _ _ q⟩) q, fun B S H σ γ Q R q => ?_⟩
  refine h.se.run B S H σ γ _ R (h.se.mono γ _ _ (fun x γ1 ⟨ds, e, q⟩ v S1 H1 R1 e1 d1 => ?_) q)
  subst e
  obtain ⟨a, xs, rfl, g2, g3⟩ := d1.tup_inv
  exact ⟨a, rfl, ⟨xs, SqT.of (R1.same _ _ g2)⟩, q _ S1 H1 R1 e1 (sti_tup g2 g3)⟩
/-- range(n) -/
def rngD (lo : Int) (n : Nat) : List D := (List.range n).map fun (i : Nat) => .int (lo + (i : Int))
theorem sti_rng {S : Hp} {lo : Int} {n : Nat} : StI (Itr lo n) S (rngD lo n) := by
  have hl : (rngD lo n).length = n := by simp [rngD]
  refine ⟨fun i H e hi => by rw [hl] at hi; exact hi, fun i H e hi => by rw [hl] at hi; exact hi, fun i H x H' e hi y => ?_⟩
  rw [hl] at hi
  obtain ⟨e1, y⟩ := y
  refine ⟨.int (lo + (i : Int)), ?_, .inl ⟨e1, by rw [y]; exact .int _⟩⟩
  simp [rngD, List.getElem?_map, List.getElem?_range hi]
def dIR1 (w : WA) : WA := fun γ Q => w γ fun ds γ1 => ∃ n, ds = [.int n] ∧ (-(2 ^ 62) ≤ n ∧ n < 2 ^ 62) ∧ Q (rngD 0 n.toNat) γ1
theorem di_range1 {t : TA} {w : WA} (hm : X.mg "range" = none) (ha : DA X [a] t w) (hg : Gl X "range" := by rfl) (hs : starEach [a] X.env = [(false, eval a X.env)] := by rfl) : DI X tg (.Call (.Name "range" p) [a] [] pos) (iRng1 t) (dIR1 w) := by
  refine ⟨pi_range1 hg hm ha.pa hs, fun γ P P' k q => ha.sa.mono γ _ _ (fun x γ1 ⟨n, e, c, q⟩ => ⟨n, e, c, k _ _ q⟩) q, fun B S H σ γ Q R q => ?_⟩
  refine ha.sa.run B S H σ γ _ R (ha.sa.mono γ _ _ (fun ds γ1 ⟨n, e, ⟨c1, c2⟩, q⟩ vs S1 H1 R1 e1 d1 => ?_) q)
  subst e
  obtain ⟨v, rfl, d2⟩ := d1.one
  cases d2
  exact ⟨n, rfl, c1, c2, q _ S1 H1 R1 e1 sti_rng⟩
def dIR2 (w : WA) : WA := fun γ Q => w γ fun ds γ1 => ∃ i j, ds = [.int i, .int j] ∧ (-(2 ^ 62) ≤ i ∧ i < 2 ^ 62 ∧ -(2 ^ 62) ≤ j ∧ j < 2 ^ 62) ∧ Q (rngD i (j - i).toNat) γ1
theorem di_range2 {t : TA} {w : WA} (hm : X.mg "range" = none) (ha : DA X [a, b] t w) (hg : Gl X "range" := by rfl) (hs : starEach [a, b] X.env = [(false, eval a X.env), (false, eval b X.env)] := by rfl) (hs2 : starEach [b] X.env = [(false, eval b X.env)] := by rfl) : DI X tg (.Call (.Name "range" p) [a, b] [] pos) (iRng2 t) (dIR2 w) := by
  refine ⟨pi_range2 hg hm ha.pa hs hs2, fun γ P P' k q => ha.sa.mono γ _ _ (fun x γ1 ⟨n, m, e, c, q⟩ => ⟨n, m, e, c, k _ _ q⟩) q, fun B S H σ γ Q R q => ?_⟩
  refine ha.sa.run B S H σ γ _ R (ha.sa.mono γ _ _ (fun ds γ1 ⟨n, m, e, c, q⟩ vs S1 H1 R1 e1 d1 => ?_) q)
  subst e
  obtain ⟨v, u, rfl, d2, d3⟩ := d1.two
  cases d2; cases d3
  exact ⟨n, m, rfl, c, q _ S1 H1 R1 e1 sti_rng⟩
/-- enumerate(list), zip(list, list) -/
def enumD (ds : List D) : List D := ds.zipIdx.map fun q => .tup [.int (q.2 : Nat), q.1]
theorem enumD_len (ds : List D) : (enumD ds).length = ds.length := by simp [enumD]
theorem enumD_get {ds : List D} {i : Nat} {d : D} (h : ds[i]? = some d) : (enumD ds)[i]? = some (.tup [.int (i : Nat), d]) := by
  simp [enumD, List.getElem?_map, List.getElem?_zipIdx, h]
def dIEn (w : WA) : WA := fun γ Q => w γ fun ds γ1 => ∃ es, ds = [.lst es] ∧ Q (enumD es) γ1
theorem di_enum (K' : PySem.W.Frag) {elts : List Expr} {kk : Nat} {tpos : Pos} {t : TA} {w : WA} (hm : X.mg "enumerate" = none) (ha : DA X [e] t w) (hg : Gl X "enumerate" := by rfl) (hs : starEach [e] X.env = [(false, eval e X.env)] := by rfl) (hK : X.K = K' := by rfl) : DI X (.Tuple elts kk tpos) (.Call (.Name "enumerate" p) [e] [] pos) (iEnum K' t) (dIEn w) := by
  subst hK
  refine ⟨pi_enum hg hm ha.pa hs, fun γ P P' k q => ha.sa.mono γ _ _ (fun x γ1 ⟨n, e, q⟩ => ⟨n, e, k _ _ q⟩) q, fun B S H σ γ Q R q => ?_⟩
  refine ha.sa.run B S H σ γ _ R (ha.sa.mono γ _ _ (fun ds γ1 ⟨es, e, q⟩ vs S1 H1 R1 e1 d1 => ?_) q)
  subst e
  obtain ⟨v, rfl, d2⟩ := d1.one
  obtain ⟨a, xs, rfl, g2, g3⟩ := d2.lst_inv
  refine ⟨a, xs, rfl, SqL.of (R1.same _ _ g2), q _ S1 H1 R1 e1 ?_⟩
  refine ⟨fun i H e hi => ?_, fun i H e hi => ⟨xs, SqL.of (e _ _ g2), by rw [g3.1, ← enumD_len]; exact hi⟩, fun i H x H' e hi y => ?_⟩
  · rw [enumD_len] at hi
    have hx : i < xs.length := by rw [g3.1]; exact hi
    exact ⟨xs, xs[i], SqL.of (e _ _ g2), List.getElem?_eq_getElem hx⟩
  · obtain ⟨T, x1, f1, f2, f3, f4⟩ := y
    obtain ⟨d, h1, h2⟩ := g3.getV (f4 xs (SqL.of (e _ _ g2)))
    exact ⟨_, enumD_get h1, .inr ⟨T, _, _, f1, f2, f3, rfl, .cons (.int _) (.cons h2 .nil)⟩⟩
def zipD (xs ys : List D) : List D := List.zipWith (fun a b => .tup [a, b]) xs ys
def dIZ (w : WA) : WA := fun γ Q => w γ fun ds γ1 => ∃ es fs, ds = [.lst es, .lst fs] ∧ Q (zipD es fs) γ1
theorem di_zip (K' : PySem.W.Frag) {e2 : Expr} {elts : List Expr} {kk : Nat} {tpos : Pos} {t : TA} {w : WA} (hm : X.mg "zip" = none) (ha : DA X [e, e2] t w) (hg : Gl X "zip" := by rfl) (hs : starEach [e, e2] X.env = (false, eval e X.env) :: starEach [e2] X.env := by rfl) (hpl : (backTo pos (starEach [e2] X.env)).any (·.1) = false := by rfl) (hK : X.K = K' := by rfl) : DI X (.Tuple elts kk tpos) (.Call (.Name "zip" p) [e, e2] [] pos) (iZip K' t) (dIZ w) := by
  subst hK
  refine ⟨pi_zip hg hm ha.pa hs hpl, fun γ P P' k q => ha.sa.mono γ _ _ (fun x γ1 ⟨n, m, e, q⟩ => ⟨n, m, e, k _ _ q⟩) q, fun B S H σ γ Q R q => ?_⟩
  refine ha.sa.run B S H σ γ _ R (ha.sa.mono γ _ _ (fun ds γ1 ⟨es, fs, e, q⟩ vs S1 H1 R1 e1 d1 => ?_) q)
  subst e
  obtain ⟨v, u, rfl, d2, d3⟩ := d1.two
  obtain ⟨a, xs, rfl, g2, g3⟩ := d2.lst_inv
  obtain ⟨b, ys, rfl, k2, k3⟩ := d3.lst_inv
  refine ⟨a, b, xs, ys, rfl, SqL.of (R1.same _ _ g2), SqL.of (R1.same _ _ k2), q _ S1 H1 R1 e1 ?_⟩
  have hl : (zipD es fs).length = min es.length fs.length := by simp [zipD]
  refine ⟨fun i H e hi => ?_, fun i H e hi => ⟨xs, ys, SqL.of (e _ _ g2), SqL.of (e _ _ k2), by rw [g3.1, k3.1]; omega⟩, fun i H x H' e hi y => ?_⟩
  · have hx : i < xs.length := by rw [g3.1]; omega
    have hy : i < ys.length := by rw [k3.1]; omega
    exact ⟨xs, ys, xs[i], ys[i], SqL.of (e _ _ g2), SqL.of (e _ _ k2), List.getElem?_eq_getElem hx, List.getElem?_eq_getElem hy⟩
  · obtain ⟨T, x1, x2, f1, f2, f3, f4, f5⟩ := y
    obtain ⟨d, h1, h2⟩ := g3.getV (f4 xs (SqL.of (e _ _ g2)))
    obtain ⟨d', h3, h4⟩ := k3.getV (f5 ys (SqL.of (e _ _ k2)))
    refine ⟨.tup [d, d'], ?_, .inr ⟨T, _, _, f1, f2, f3, rfl, .cons h2 (.cons h4 .nil)⟩⟩
    simp [zipD, List.getElem?_zipWith, h1, h3]
/-- the script -/
def dIS (i : Nat) : WA := fun γ Q => ∃ ns, γ[i]? = some (.scr ns) ∧ Q (ns.map D.int) γ
theorem di_scr (K' : PySem.W.Frag) (i : Nat) {x : Str} (hN : X.N[i]? = some x := by rfl) (hv : Vis X.env.scope x := by first | exact Or.inl rfl | exact Or.inr (Or.inl rfl) | exact Or.inr (Or.inr rfl)) (hd : (x == ("__debug__" : Str)) = false := by decide)
    (hcd : (x == ("__classdict__" : Str)) = false := by decide) (hK : X.K = K' := by rfl) : DI X tg (.Name x pos) (iList K' (tVar i)) (dIS i) := by
  subst hK
  refine ⟨pi_list (pe_var hN hv hd hcd), fun γ P P' k ⟨ns, e, q⟩ => ⟨ns, e, k _ _ q⟩, fun B S H σ γ Q R ⟨ns, e, q⟩ => ?_⟩
  obtain ⟨a, g1, g2⟩ := R.sl i _ e
  refine ⟨_, g1, a, rfl, ⟨_, R.same.seq g2⟩, q _ S H R (Same.refl S) ?_⟩
  have hd : DenL S (ns.map V.int) (ns.map D.int) := DenL.ints ns
  refine ⟨fun i H e hi => ?_, fun i H e hi => ⟨_, e.seq g2, by rw [hd.1]; exact hi⟩, fun i H x H' e hi y => ?_⟩
  · have hx : i < (ns.map V.int).length := by rw [hd.1]; exact hi
    exact ⟨_, (ns.map V.int)[i], e.seq g2, List.getElem?_eq_getElem hx⟩
  · obtain ⟨e1, y⟩ := y
    obtain ⟨d, h1, h2⟩ := hd.getV (y _ (e.seq g2))
    exact ⟨d, h1, .inl ⟨e1, h2⟩⟩
end

/-! ### targets -/
abbrev WG := D → List Sl → (List Sl → Prop) → Prop
abbrev WGs := List D → List Sl → (List Sl → Prop) → Prop
structure SG (K : PySem.W.Frag) (g : TG) (w : WG) : Prop where
  mono : ∀ d γ (P P' : List Sl → Prop), (∀ γ', P γ' → P' γ') → w d γ P → w d γ P'
  run : ∀ B S H σ γ v d (Q : L2.St → Hp → Prop), Rel K B S H σ γ → Den S v d → w d γ (fun γ' => ∀ σ', Rel K B S H σ' γ' → Q σ' H) → g v σ H Q
structure SGs (K : PySem.W.Frag) (g : TGs) (w : WGs) : Prop where
  mono : ∀ ds γ (P P' : List Sl → Prop), (∀ γ', P γ' → P' γ') → w ds γ P → w ds γ P'
  run : ∀ B S H σ γ vs ds (Q : L2.St → Hp → Prop), Rel K B S H σ γ → DenL S vs ds → w ds γ (fun γ' => ∀ σ', Rel K B S H σ' γ' → Q σ' H) → g vs σ H Q
/-- only the slots vs are stored -/
def GIn (g : TG) (vs : List Nat) : Prop := ∀ v σ H (Q : L2.St → Hp → Prop), g v σ H Q → g v σ H fun σ' H' => wipe σ' vs = wipe σ vs ∧ Q σ' H'
def GsIn (g : TGs) (vs : List Nat) : Prop := ∀ xs σ H (Q : L2.St → Hp → Prop), g xs σ H Q → g xs σ H fun σ' H' => wipe σ' vs = wipe σ vs ∧ Q σ' H'
structure DG (X : Cx) (tg : Expr) (g : TG) (w : WG) : Prop where
  pg : PG X tg g
  sg : SG X.K g w
structure DGs (X : Cx) (es : List Expr) (g : TGs) (w : WGs) : Prop where
  pg : PGs X es g
  sg : SGs X.K g w
theorem wipe_set {σ : L2.St} {j : Nat} {x : Option V} : ∀ {vs : List Nat}, j ∈ vs → wipe (σ.set j x) vs = wipe σ vs
  | v :: vs, h => by
    show (wipe (σ.set j x) vs).set v none = (wipe σ vs).set v none
    by_cases hj : j ∈ vs
    · rw [wipe_set hj]
    · have e : v = j := by
        rcases List.mem_cons.mp h with h | h
        · exact h.symm
        · exact absurd h hj
      subst e
      have : ∀ (vs : List Nat), v ∉ vs → wipe (σ.set v x) vs = (wipe σ vs).set v x := by
        intro vs
        induction vs with
        | nil => intro _; rfl
        | cons u us ih =>
          intro hv
          show (wipe (σ.set v x) us).set u none = ((wipe σ us).set u none).set v x
          rw [ih (fun z => hv (List.mem_cons_of_mem _ z)), List.set_comm]
          intro z
          exact hv (by rw [z]; exact List.mem_cons_self)
      rw [this vs hj, List.set_set]
section
variable {X : Cx} {K : PySem.W.Frag} {pos : Pos}
def dName (i : Nat) : WG := fun d γ Q => Q (γ.set i (.val d))
theorem dg_name {i : Nat} {x : Str} (hN : X.N.Nodup) (hi : X.N[i]? = some x := by rfl) (hx : Loc X.env.scope x := by first | exact Or.inl rfl | exact Or.inr rfl) (hf : X.fn x = true ∨ X.env.scope.names.lookup x = some .local := by first | exact .inl rfl | exact .inr rfl | assumption) : DG X (.Name x pos) (gName i) (dName i) :=
  ⟨pg_name hN hi hx hf, fun d γ P P' k q => k _ q, fun B S H σ γ v d Q R h q => q _ (R.set ⟨v, rfl, h⟩ fun _ _ z => nomatch z)⟩
theorem gin_name {i : Nat} {vs : List Nat} (h : i ∈ vs) : GIn (gName i) vs := fun v σ H Q q => ⟨wipe_set h, q⟩
def dgNil : WGs := fun ds γ Q => ds = [] ∧ Q γ
def dgCons (w : WG) (w' : WGs) : WGs := fun ds γ Q => ∃ d r, ds = d :: r ∧ w d γ fun γ1 => w' r γ1 Q
theorem dgs_nil : DGs X [] gNil dgNil := ⟨pgs_nil, fun ds γ P P' k q => ⟨q.1, k _ q.2⟩, fun B S H σ γ vs ds Q R h q => by
  obtain ⟨e, q⟩ := q
  subst e
  exact ⟨h.nil_inv, q σ R⟩⟩
theorem dgs_cons {e : Expr} {es : List Expr} {g : TG} {u : TGs} {w : WG} {w' : WGs} (h : DG X e g w) (h' : DGs X es u w') (hs : (assignEach (e :: es) X.env).map (·.2) = assign e X.env :: (assignEach es X.env).map (·.2) := by rfl) : DGs X (e :: es) (gCons g u) (dgCons w w') :=
  ⟨pgs_cons h.pg h'.pg hs, fun ds γ P P' k ⟨d, r, e, q⟩ => ⟨d, r, e, h.sg.mono _ _ _ _ (fun γ1 q => h'.sg.mono _ _ _ _ k q) q⟩, fun B S H σ γ vs ds Q R hd q => by
  obtain ⟨d, r, e, q⟩ := q
  subst e
  obtain ⟨x, t, rfl, h1, h2⟩ := hd.cons_inv
  refine ⟨x, t, rfl, h.sg.run B S H σ γ x d _ R h1 (h.sg.mono _ _ _ _ (fun γ1 q σ1 R1 => ?_) q)⟩
  exact h'.sg.run B S H σ1 γ1 t r _ R1 h2 (h'.sg.mono _ _ _ _ (fun γ2 q σ2 R2 => q σ2 R2) q)⟩
theorem gsin_nil {vs : List Nat} : GsIn gNil vs := fun xs σ H Q q => ⟨q.1, rfl, q.2⟩
theorem gsin_cons {g : TG} {u : TGs} {w : WG} {w' : WGs} {vs : List Nat} (gm : ∀ v σ H (P P' : L2.St → Hp → Prop), (∀ σ' H', P σ' H' → P' σ' H') → g v σ H P → g v σ H P') (um : ∀ v σ H (P P' : L2.St → Hp → Prop), (∀ σ' H', P σ' H' → P' σ' H') → u v σ H P → u v σ H P') (h : GIn g vs) (h' : GsIn u vs) : GsIn (gCons g u) vs := fun xs σ H Q q => by
  obtain ⟨d, r, e, q⟩ := q
  refine ⟨d, r, e, gm _ _ _ _ _ (fun σ1 H1 ⟨e1, q⟩ => ?_) (h _ _ _ _ q)⟩
  exact um _ _ _ _ _ (fun σ2 H2 ⟨e2, q⟩ => ⟨e2.trans e1, q⟩) (h' _ _ _ _ q)
/-- two names -/
theorem gsin_two {i j : Nat} {vs : List Nat} (hi : i ∈ vs) (hj : j ∈ vs) : GsIn (gCons (gName i) (gCons (gName j) gNil)) vs :=
  gsin_cons (w := dName i) (w' := dgNil) (fun v σ H P P' k q => k _ _ q) (fun v σ H P P' k ⟨d, r, e, e2, q⟩ => ⟨d, r, e, e2, k _ _ q⟩) (gin_name hi)
    (gsin_cons (w := dName j) (w' := dgNil) (fun v σ H P P' k q => k _ _ q) (fun v σ H P P' k q => ⟨q.1, k _ _ q.2⟩) (gin_name hj) gsin_nil)
def dgTup (n : Nat) (w : WGs) : WG := fun d γ Q => ∃ ds, d = .tup ds ∧ ds.length = n ∧ w ds γ Q
theorem dg_tup (K' : PySem.W.Frag) {es : List Expr} {k : Nat} {t : TGs} {w : WGs} {n : Nat} (hc : X.calm = true) (h : DGs X es t w)
    (hn : (assignEach es X.env).length = n := by rfl) (hst : (assignEach es X.env).findIdx? (·.1) = none := by rfl) (hK : X.K = K' := by rfl) : DG X (.Tuple es k pos) (gTup K' n t) (dgTup n w) := by
  subst hK
  exact ⟨pg_tup hc h.pg hn hst, fun d γ P P' k ⟨ds, e, l, q⟩ => ⟨ds, e, l, h.sg.mono _ _ _ _ k q⟩, fun B S H σ γ v d Q R hd q => by
  obtain ⟨ds, e, l, q⟩ := q
  subst e
  obtain ⟨a, xs, rfl, g2, g3⟩ := hd.tup_inv
  exact ⟨a, xs, rfl, SqT.of (R.same _ _ g2), g3.1.trans l, h.sg.run B S H σ γ xs ds Q R g3 q⟩⟩
theorem gin_tup {n : Nat} {t : TGs} {vs : List Nat} (h : GsIn t vs) : GIn (gTup K n t) vs := fun v σ H Q ⟨a, xs, e1, e2, e3, q⟩ => ⟨a, xs, e1, e2, e3, h _ _ _ _ q⟩
end

/-! ### comprehensions -/
def wipeG (γ : List Sl) : List Nat → List Sl
  | [] => γ
  | v :: vs => (wipeG γ vs).set v .any
theorem Rel.wipe {K : PySem.W.Frag} {B : Bs} {S H : Hp} {σ : L2.St} {γ : List Sl} (R : Rel K B S H σ γ) : ∀ vs : List Nat, Rel K B S H σ (wipeG γ vs)
  | [] => R
  | v :: vs => (R.wipe vs).drop
theorem wipeG_len (γ : List Sl) : ∀ vs : List Nat, (wipeG γ vs).length = γ.length
  | [] => rfl
  | v :: vs => by unfold wipeG; rw [List.length_set, wipeG_len γ vs]
theorem wipeG_at {γ : List Sl} {j : Nat} (hj : j < γ.length) : ∀ {vs : List Nat}, j ∈ vs → (wipeG γ vs)[j]? = some .any
  | v :: vs, h => by
    unfold wipeG
    by_cases e : v = j
    · subst e; rw [List.getElem?_set_self (by rw [wipeG_len]; exact hj)]
    · rw [List.getElem?_set_ne e]
      exact wipeG_at hj (by rcases List.mem_cons.mp h with h | h; exact absurd h.symm e; exact h)
theorem wipeG_get {γ : List Sl} {j : Nat} : ∀ {vs : List Nat}, j ∉ vs → (wipeG γ vs)[j]? = γ[j]?
  | [], _ => rfl
  | v :: vs, h => by
    unfold wipeG
    rw [List.getElem?_set_ne (fun z => h (by rw [z]; exact List.mem_cons_self)), wipeG_get (fun z => h (List.mem_cons_of_mem _ z))]
theorem wipe_get {σ : L2.St} {j : Nat} : ∀ {vs : List Nat}, j ∉ vs → (L2.wipe σ vs)[j]? = σ[j]?
  | [], _ => rfl
  | v :: vs, h => by
    unfold L2.wipe
    rw [List.getElem?_set_ne (fun z => h (by rw [z]; exact List.mem_cons_self)), wipe_get (fun z => h (List.mem_cons_of_mem _ z))]
/-- other values in slots of which nothing is known -/
theorem Rel.other {K : PySem.W.Frag} {B : Bs} {S H : Hp} {σ σ' : L2.St} {γ : List Sl} (R : Rel K B S H σ γ) (hl : σ'.length = σ.length) (h : ∀ (i : Nat) s, γ[i]? = some s → s ≠ Sl.any → σ'[i]? = σ[i]?) : Rel K B S H σ' γ := by
  refine ⟨R.same, R.keep, R.muk, R.grow, R.ext, hl.trans R.len, fun i s e => ?_, fun i j p m m' ds ds' hij e1 e2 e3 e4 => ?_, R.frm, fun p o hp i m ds e1 e2 => ?_⟩
  · cases s with
    | any => trivial
    | val d => rw [h i _ e (by intro z; cases z)]; exact R.sl i _ e
    | own m ds => rw [h i _ e (by intro z; cases z)]; exact R.sl i _ e
    | scr ns => rw [h i _ e (by intro z; cases z)]; exact R.sl i _ e
  · rw [h i _ e1 (by intro z; cases z)] at e3
    rw [h j _ e2 (by intro z; cases z)] at e4
    exact R.sep i j p m m' ds ds' hij e1 e2 e3 e4
  · rw [h i _ e1 (by intro z; cases z)] at e2
    exact R.frs p o hp i m ds e1 e2
theorem Rel.wiped {K : PySem.W.Frag} {B : Bs} {S H : Hp} {σ : L2.St} {γ : List Sl} {vs : List Nat} (R : Rel K B S H σ γ) (h : ∀ v ∈ vs, ∀ s, γ[v]? = some s → s = .any) : Rel K B S H (L2.wipe σ vs) γ :=
  R.other (wipe_length σ vs) fun i s e hs => wipe_get fun hi => hs (h i hi s e)
theorem Rel.unwiped {K : PySem.W.Frag} {B : Bs} {S H : Hp} {σ : L2.St} {γ : List Sl} {vs : List Nat} (R : Rel K B S H (L2.wipe σ vs) γ) (h : ∀ v ∈ vs, ∀ s, γ[v]? = some s → s = .any) : Rel K B S H σ γ :=
  R.other (wipe_length σ vs).symm fun i s e hs => (wipe_get fun hi => hs (h i hi s e)).symm
theorem wipeG_any {γ : List Sl} {vs : List Nat} : ∀ v ∈ vs, ∀ s, (wipeG γ vs)[v]? = some s → s = .any := fun v hv s e => by
  by_cases hj : v < γ.length
  · rw [wipeG_at hj hv] at e; exact (Option.some.inj e).symm
  · rw [List.getElem?_eq_none (by rw [wipeG_len]; omega)] at e; cases e
/-- a framed object: ahead and behind -/
theorem Rel.frame {K : PySem.W.Frag} {B : Bs} {S H : Hp} {σ : L2.St} {γ : List Sl} {p : Addr} {o : HO} (R : Rel K B S H σ γ) (h1 : H p = some o) (h2 : S p = none) (h3 : B.H0 p = none) (h4 : NoOwn B σ γ p) : Rel K { B with fr := (p, o) :: B.fr } S H σ γ :=
  ⟨R.same, R.keep, R.muk, R.grow, R.ext, R.len, R.sl, R.sep, fun q u hq => by
    rcases List.mem_cons.mp hq with e | hq
    · cases e; exact ⟨h1, h2, h3⟩
    · exact R.frm q u hq, fun q u hq i m ds e => by
    rcases List.mem_cons.mp hq with e' | hq
    · cases e'; exact h4.1 i m ds e
    · exact R.frs q u hq i m ds e⟩
theorem Rel.unframe {K : PySem.W.Frag} {B : Bs} {S H : Hp} {σ : L2.St} {γ : List Sl} {p : Addr} {o : HO} (R : Rel K { B with fr := (p, o) :: B.fr } S H σ γ) : Rel K B S H σ γ ∧ H p = some o ∧ S p = none ∧ B.H0 p = none ∧ ∀ (i : Nat) m ds, γ[i]? = some (.own m ds) → σ[i]? ≠ some (some (.ref p)) :=
  ⟨⟨R.same, R.keep, R.muk, R.grow, R.ext, R.len, R.sl, R.sep, fun q u hq => R.frm q u (List.mem_cons_of_mem _ hq), fun q u hq => R.frs q u (List.mem_cons_of_mem _ hq)⟩, (R.frm p o List.mem_cons_self).1, (R.frm p o List.mem_cons_self).2.1, (R.frm p o List.mem_cons_self).2.2, R.frs p o List.mem_cons_self⟩
/-- an object out of the stable heap, of none of the slots, is changed -/
theorem Rel.out {K : PySem.W.Frag} {B : Bs} {S H : Hp} {σ : L2.St} {γ : List Sl} {p : Addr} {o u : HO} (R : Rel K B S H σ γ) (h1 : H p = some u) (h2 : S p = none) (h3 : B.H0 p = none) (h4 : NoOwn B σ γ p) : Rel K B S (upd H p o) σ γ := by
  have hk : ∀ a x, H a = some x → a ≠ p → upd H p o a = some x := fun a x e n => by rw [upd_ne n]; exact e
  refine ⟨Same.updS R.same h2, fun a x e hm => hk a x (R.keep a x e hm) (ne_of_none e h3), fun a ha => ?_, R.grow, R.ext, R.len, fun i s e => (R.sl i s e).mono (Same.refl S) (fun _ _ _ z => z) (fun q xs e1 ⟨m, ds, e2⟩ e3 => hk q _ e3 (fun z => h4.1 i m ds (by rw [e, e2]) (by rw [e1, z]))), R.sep, fun q x hq => ?_, R.frs⟩
  · obtain ⟨f1, ⟨x, f2⟩, xs, f3⟩ := R.muk a ha
    exact ⟨f1, ⟨x, f2⟩, xs, hk a _ f3 (ne_of_none f2 h3)⟩
  · obtain ⟨f1, f2, f3⟩ := R.frm q x hq
    exact ⟨hk q x f1 (fun z => h4.2 x (by rw [← z]; exact hq)), f2, f3⟩
structure STs (K : PySem.W.Frag) (t : TT) (w : WT) : Prop where
  st : ST K t w
structure DTs (X : Cx) (ifs : List Expr) (t : TT) (w : WT) : Prop where
  pt : PTs X ifs t
  st : ST X.K t w
def dYes : WT := fun γ Q => Q true γ
theorem dts_nil {X : Cx} : DTs X [] tYes dYes := ⟨pts_nil, fun γ P P' k q => k _ _ q, fun B S H σ γ Q R q => q S H R (Same.refl S)⟩
theorem dts_one {X : Cx} {c : Expr} {t : TT} {w : WT} (h : DT X c t w) : DTs X [c] t w := ⟨pts_one h.pt, h.st⟩
def dLc (wi : WA) (wg : WG) (wt : WT) (we : WE) (vs : List Nat) : WF := fun γ Q => wi γ fun ds γ1 => ds.length ≤ sizeLine ∧ (∀ v ∈ vs, ∀ s, γ1[v]? = some s → s = .any) ∧ ∃ I : Nat → List D → List Sl → Prop, I 0 [] γ1 ∧
  (∀ i acc γ d, ds[i]? = some d → I i acc γ → (∀ v ∈ vs, ∀ s, γ[v]? = some s → s = .any) ∧ wg d γ fun γ2 => wt γ2 fun b γ3 => if b = true then we γ3 fun y γ4 => I (i + 1) (acc ++ [y]) (wipeG γ4 vs) else I (i + 1) acc (wipeG γ3 vs)) ∧
  ∀ acc γ, I ds.length acc γ → (∀ v ∈ vs, ∀ s, γ[v]? = some s → s = .any) ∧ Q acc γ
theorem wipe_wipe {σ : L2.St} : ∀ (vs us : List Nat), (∀ v ∈ vs, v ∈ us) → L2.wipe (L2.wipe σ us) vs = L2.wipe σ us
  | [], _, _ => rfl
  | v :: vs, us, h => by
    show (L2.wipe (L2.wipe σ us) vs).set v none = _
    rw [wipe_wipe vs us fun u hu => h u (List.mem_cons_of_mem _ hu)]
    have : ∀ us : List Nat, v ∈ us → (L2.wipe σ us).set v none = L2.wipe σ us := by
      intro us
      induction us with
      | nil => intro z; cases z
      | cons u us ih =>
        intro hv
        show ((L2.wipe σ us).set u none).set v none = (L2.wipe σ us).set u none
        by_cases e : u = v
        · subst e; rw [List.set_set]
        · rw [List.set_comm _ _ e, ih (by rcases List.mem_cons.mp hv with z | z; exact absurd z.symm e; exact z)]
    exact this us (h v List.mem_cons_self)
section
variable {X : Cx} {K : PySem.W.Frag}
theorem sf_lc {ti : TI} {wi : WA} {g : TG} {wg : WG} {tt : TT} {wt : WT} {te : TE} {we : WE} {vs : List Nat} (hi : SI K ti wi) (hg : SG K g wg) (hgi : GIn g vs) (hgm : ∀ v σ H (P P' : L2.St → Hp → Prop), (∀ σ' H', P σ' H' → P' σ' H') → g v σ H P → g v σ H P') (ht : ST K tt wt) (he : SE K te we) : SF K (tLc ti g tt te vs) (dLc wi wg wt we vs) := by
  refine ⟨fun γ P P' k q => hi.mono γ _ _ (fun ds γ1 ⟨hz, ha, I, h0, hs, hd⟩ => ⟨hz, ha, I, h0, hs, fun acc γ q => ⟨(hd acc γ q).1, k _ _ (hd acc γ q).2⟩⟩) q, fun B S H σ γ Q R q => ?_⟩
  refine hi.run B S H σ γ _ R (hi.mono γ _ _ (fun ds γ1 ⟨hz, ha, I, h0, hs, hd⟩ J S1 H1 R1 e1 hJ A hA => ?_) q)
  refine ⟨fun i m H => m = ds.length - i ∧ i ≤ ds.length ∧ ∃ S2 γ2 acc xs, Rel K B S2 H (L2.wipe σ vs) γ2 ∧ Same S1 S2 ∧ I i acc γ2 ∧ acc.length ≤ i ∧ S2 A = none ∧ B.H0 A = none ∧ NoOwn B (L2.wipe σ vs) γ2 A ∧ H A = some (.lst xs) ∧ DenL S2 xs acc, ⟨ds.length, by simp, Nat.zero_le _, S1, γ1, [], [], ?_, Same.refl S1, h0, Nat.le_refl _, R1.freshS hA, R1.fresh0 hA, ?_, upd_same, .nil⟩, ?_⟩
  · exact (R1.newOut hA).wiped ha
  · exact (R1.wiped ha).noOwn hA
  rintro i m H2 ⟨rfl, hi2, S2, γ2, acc, xs, R2, e2, hI, hal, k1, k2, k3, k4, k5⟩
  by_cases hlt : i < ds.length
  · refine .inr ⟨(hJ.mono e2).go i H2 R2.same hlt, fun H' => i + 1 ≤ ds.length ∧ ∃ S3 γ3 acc xs, Rel K B S3 H' (L2.wipe σ vs) γ3 ∧ Same S1 S3 ∧ I (i + 1) acc γ3 ∧ acc.length ≤ i + 1 ∧ S3 A = none ∧ B.H0 A = none ∧ NoOwn B (L2.wipe σ vs) γ3 A ∧ H' A = some (.lst xs) ∧ DenL S3 xs acc, fun H' q => ⟨_, by omega, rfl, q⟩, fun x H' y => ?_⟩
    obtain ⟨d, hdi, hy⟩ := (hJ.mono e2).yld i H2 x H' R2.same hlt y
    obtain ⟨hany, body⟩ := hs i acc γ2 d hdi hI
    -- the item's heap
    have RF := R2.frame k4 k1 k2 k3
    obtain ⟨S3, R3, e3, d3⟩ : ∃ S3, Rel K { B with fr := (A, HO.lst xs) :: B.fr } S3 H' (L2.wipe σ vs) γ2 ∧ Same S2 S3 ∧ Den S3 x d := by
      rcases hy with ⟨f1, f2⟩ | ⟨T, ys, es, f1, f2, f3, f4, f5⟩
      · subst f1; exact ⟨S2, RF, Same.refl S2, f2⟩
      · subst f1 f3 f4
        have e4 : Same S2 (upd S2 T (.tup ys)) := Same.upd (Same.refl S2) (RF.freshS f2)
        exact ⟨_, RF.new f2, e4, .ofT upd_same (f5.mono e4)⟩
    refine hgm _ _ _ _ _ (fun σ4 H4 ⟨w4, q4⟩ => ⟨w4.trans (wipe_wipe vs vs fun _ h => h), q4 (w4.trans (wipe_wipe vs vs fun _ h => h))⟩) (hgi _ _ _ (fun σ4 H4 => L2.wipe σ4 vs = L2.wipe σ vs → tt σ4 H4 _) ?_)
    refine hg.run _ S3 H' _ γ2 x d _ R3 d3 (hg.mono _ _ _ _ (fun γ4 body σ4 R4 w4 => ?_) body)
    refine ht.run _ S3 H' σ4 γ4 _ R4 (ht.mono _ _ _ (fun b γ5 body S5 H5 R5 e5 => ?_) body)
    have back : ∀ {S6 : Hp} {H6 : Hp} {γ6 : List Sl}, Rel K { B with fr := (A, HO.lst xs) :: B.fr } S6 H6 σ4 γ6 → Rel K B S6 H6 (L2.wipe σ vs) (wipeG γ6 vs) ∧ H6 A = some (.lst xs) ∧ S6 A = none ∧ NoOwn B (L2.wipe σ vs) (wipeG γ6 vs) A := fun {S6 H6 γ6} R6 => by
      obtain ⟨U1, U2, U3, U4, U5⟩ := R6.unframe
      have W := (U1.wipe vs).wiped wipeG_any
      rw [w4] at W
      refine ⟨W, U2, U3, fun j m es e f => ?_, k3.2⟩
      have hj : j ∉ vs := fun z => by cases wipeG_any j z _ e
      rw [wipeG_get hj] at e
      rw [← w4, wipe_get hj] at f
      exact U5 j m es e f
    cases b with
    | false =>
      obtain ⟨W, U2, U3, U4⟩ := back R5
      exact ⟨hlt, S5, _, acc, xs, W, e2.trans (e3.trans e5), body, by omega, U3, k2, U4, U2, k5.mono (e3.trans e5)⟩
    | true =>
      refine he.run _ S5 H5 σ4 γ5 _ R5 (he.mono _ _ _ (fun y γ6 body v S6 H6 R6 e6 d6 => ?_) body)
      obtain ⟨W, U2, U3, U4⟩ := back R6
      have e7 : Same S2 S6 := e3.trans (e5.trans e6)
      refine ⟨xs, U2, by rw [k5.1]; omega, hlt, S6, _, acc ++ [y], xs ++ [v], W.out U2 U3 k2 U4, e2.trans e7, body, by rw [List.length_append, List.length_singleton]; omega, U3, k2, U4, upd_same, (k5.mono e7).snoc d6⟩
  · have e : i = ds.length := by omega
    subst e
    obtain ⟨g1, g2⟩ := hd acc γ2 hI
    exact .inl ⟨(hJ.mono e2).stop _ H2 R2.same (Nat.le_refl _), g2 A xs S2 H2 (R2.unwiped g1) (e1.trans e2) k1 k2 k4 k5 ⟨fun j m es e f => by
      have := k3.1 j m es e
      rw [wipe_get (fun hj => nomatch g1 j hj _ e)] at this
      exact this f, k3.2⟩⟩
end
end DL
set_option Elab.async false
set_option linter.all false
set_option autoImplicit false
set_option maxRecDepth 100000
set_option maxHeartbeats 4000000
/-! DL5: comprehensions as expressions, statements, defs by their data, calls. -/
namespace DL
open PySem PySem.Spec PyProof.Rows L2

/-- targets of names and pairs of names do what is wanted monotonically -/
def GMo (g : TG) : Prop := ∀ v σ H (P P' : L2.St → Hp → Prop), (∀ σ' H', P σ' H' → P' σ' H') → g v σ H P → g v σ H P'
def GsMo (g : TGs) : Prop := ∀ v σ H (P P' : L2.St → Hp → Prop), (∀ σ' H', P σ' H' → P' σ' H') → g v σ H P → g v σ H P'
theorem gmo_name {i : Nat} : GMo (gName i) := fun v σ H P P' k q => k _ _ q
theorem gsmo_nil : GsMo gNil := fun v σ H P P' k q => ⟨q.1, k _ _ q.2⟩
theorem gsmo_cons {g : TG} {u : TGs} (h : GMo g) (h' : GsMo u) : GsMo (gCons g u) := fun v σ H P P' k ⟨d, r, e, q⟩ => ⟨d, r, e, h _ _ _ _ _ (fun σ1 H1 q => h' _ _ _ _ _ k q) q⟩
theorem gmo_tup {K : PySem.W.Frag} {n : Nat} {t : TGs} (h : GsMo t) : GMo (gTup K n t) := fun v σ H P P' k ⟨a, xs, e1, e2, e3, q⟩ => ⟨a, xs, e1, e2, e3, h _ _ _ _ _ k q⟩

section
variable {X : Cx} {K : PySem.W.Frag}
theorem df_lc {elt tg iter : Expr} {ifs : List Expr} {scope : Scope} {own : List (Str × Nat)} {pos : Pos} {ti : TI} {wi : WA} {g : TG} {wg : WG} {tt : TT} {wt : WT} {te : TE} {we : WE} (hc : X.calm = true) (hN : X.N.Nodup) (hi : DI X tg iter ti wi) (ok : BlkOk X.N X.env.scope scope own)
    (hg : ∀ (s : Shared) (H : Hp) (C : Addr) (cl : List (Str × Addr)) (fp : List Addr), DG (X.blk s H scope (compEnvC scope cl C X.env) fp) tg g wg) (hgi : GIn g (own.map (·.2))) (hgm : GMo g)
    (ht : ∀ (s : Shared) (H : Hp) (C : Addr) (cl : List (Str × Addr)) (fp : List Addr), DTs (X.blk s H scope (compEnvC scope cl C X.env) fp) ifs tt wt)
    (he : ∀ (s : Shared) (H : Hp) (C : Addr) (cl : List (Str × Addr)) (fp : List Addr), DE (X.blk s H scope (compEnvC scope cl C X.env) fp) elt te we) (hs : ∀ x, foldedSetIterable iter X.env x = pure x := by intro _; rfl) :
    DF X (.ListComp elt [⟨tg, iter, ifs, 0⟩] scope pos) (tLc ti g tt te (own.map (·.2))) (dLc wi wg wt we (own.map (·.2))) :=
  ⟨pe_lc hc hN hi.pi ok (fun s H C cl fp => (hg s H C cl fp).pg) (fun s H C cl fp => (ht s H C cl fp).pt) (fun s H C cl fp => (he s H C cl fp).pe) hs,
   sf_lc hi.si (hg X.s_0 X.H_0 0 [] []).sg hgi hgm (ht X.s_0 X.H_0 0 [] []).st (he X.s_0 X.H_0 0 [] []).se⟩

/-! ### statements -/
inductive Rv where
  | d (d : D) | f (ds : List D)
def Rv.val : Rv → D
  | .d x => x | .f xs => .lst xs
def RvOk (B : Bs) (S H : Hp) (v : V) : Rv → Prop
  | .d d => Den S v d
  | .f ds => ∃ p xs, v = .ref p ∧ S p = none ∧ B.H0 p = none ∧ H p = some (.lst xs) ∧ DenL S xs ds
structure EndsD where
  nx : List Sl → Prop
  rt : Rv → List Sl → Prop
  bk : List Sl → Prop := fun _ => False
  ct : List Sl → Prop := fun _ => False
abbrev WS := EndsD → List Sl → Prop
structure Link (K : PySem.W.Frag) (B : Bs) (S0 : Hp) (Dd : EndsD) (D : Ends) : Prop where
  nx : ∀ S H σ γ, Same S0 S → Rel K B S H σ γ → Dd.nx γ → D.nx σ H
  rt : ∀ S H σ γ v r, Same S0 S → Rel K B S H σ γ → RvOk B S H v r → Dd.rt r γ → D.rt v H
  bk : ∀ S H σ γ, Same S0 S → Rel K B S H σ γ → Dd.bk γ → D.bk σ H
  ct : ∀ S H σ γ, Same S0 S → Rel K B S H σ γ → Dd.ct γ → D.ct σ H
structure SS (K : PySem.W.Frag) (t : TS) (w : WS) : Prop where
  run : ∀ B S0 S H σ γ Dd D, Rel K B S H σ γ → Same S0 S → Link K B S0 Dd D → w Dd γ → t D σ H
structure DS (X : Cx) (st : Stmt) (t : TS) (w : WS) : Prop where
  ps : PS X st t
  ss : SS X.K t w
structure DSs (X : Cx) (st : List Stmt) (t : TS) (w : WS) : Prop where
  ps : PSs X st t
  ss : SS X.K t w
variable {e a b : Expr} {te ta tb : TE} {we wa wb : WE} {wf : WF} {pos : Pos} {st : Stmt} {rest sts : List Stmt} {t u : TS} {w w' : WS}
def dNext : WS := fun Dd γ => Dd.nx γ
theorem dss_nil : DSs X [] tNext dNext := ⟨pss_nil, ⟨fun B S0 S H σ γ Dd D R e L q => L.nx S H σ γ e R q⟩⟩
def dSeq (w w' : WS) : WS := fun Dd γ => w { Dd with nx := w' Dd } γ
theorem dss_cons (h : DS X st t w) (h' : DSs X rest u w') : DSs X (st :: rest) (tSeq t u) (dSeq w w') :=
  ⟨pss_cons h.ps h'.ps, ⟨fun B S0 S H σ γ Dd D R e L q => h.ss.run B S0 S H σ γ { Dd with nx := w' Dd } _ R e ⟨fun S1 H1 σ1 γ1 e1 R1 q1 => h'.ss.run B S0 S1 H1 σ1 γ1 Dd D R1 e1 L q1, L.rt, L.bk, L.ct⟩ q⟩⟩
theorem dss_one (h : DS X st t w) : DSs X [st] t w := ⟨pss_one h.ps, h.ss⟩
theorem ds_pass : DS X (.Pass pos) tNext dNext := ⟨ps_pass, ⟨fun B S0 S H σ γ Dd D R e L q => L.nx S H σ γ e R q⟩⟩
def dBrk : WS := fun Dd γ => Dd.bk γ
def dCont : WS := fun Dd γ => Dd.ct γ
theorem ds_break : DS X (.Break pos) tBreak dBrk := ⟨ps_break, ⟨fun B S0 S H σ γ Dd D R e L q => L.bk S H σ γ e R q⟩⟩
theorem ds_continue : DS X (.Continue pos) tCont dCont := ⟨ps_continue, ⟨fun B S0 S H σ γ Dd D R e L q => L.ct S H σ γ e R q⟩⟩
/-- e -/
def dDrop (we : WE) : WS := fun Dd γ => we γ fun _ γ1 => Dd.nx γ1
theorem ds_expr (h : DE X e te we) (hs : swapsWith e none pos.line X.env = pure false := by rfl) : DS X (.Expr e pos) (tDrop te) (dDrop we) :=
  ⟨ps_expr h.pe hs, ⟨fun B S0 S H σ γ Dd D R e L q => h.se.run B S H σ γ _ R (h.se.mono γ _ _ (fun d γ1 q v S1 H1 R1 e1 d1 => L.nx S1 H1 σ γ1 (e.trans e1) R1 q) q)⟩⟩
/-- return e -/
def dRet (we : WE) : WS := fun Dd γ => we γ fun d γ1 => Dd.rt (.d d) γ1
theorem ds_ret (h : DE X e te we) : DS X (.Return (some e) pos) (tRet te) (dRet we) :=
  ⟨ps_ret h.pe, ⟨fun B S0 S H σ γ Dd D R e L q => h.se.run B S H σ γ _ R (h.se.mono γ _ _ (fun d γ1 q v S1 H1 R1 e1 d1 => L.rt S1 H1 σ γ1 v (.d d) (e.trans e1) R1 d1 q) q)⟩⟩
def dRetF (wf : WF) : WS := fun Dd γ => wf γ fun ds γ1 => Dd.rt (.f ds) γ1
theorem ds_retF (h : DF X e te wf) : DS X (.Return (some e) pos) (tRet te) (dRetF wf) :=
  ⟨ps_ret h.pe, ⟨fun B S0 S H σ γ Dd D R e L q => h.sf.run B S H σ γ _ R (h.sf.mono γ _ _ (fun ds γ1 q p xs S1 H1 R1 e1 k1 k2 k3 k4 k5 => L.rt S1 H1 σ γ1 (.ref p) (.f ds) (e.trans e1) R1 ⟨p, xs, rfl, k1, k2, k3, k4⟩ q) q)⟩⟩
/-- return of a list of one's own, at a name -/
def dRetO (i : Nat) : WS := fun Dd γ => ∃ ds, γ[i]? = some (.own false ds) ∧ Dd.rt (.f ds) (γ.set i .any)
theorem ds_retO (i : Nat) {x : Str} {px : Pos} (hN : X.N[i]? = some x := by rfl) (hv : Vis X.env.scope x := by first | exact Or.inl rfl | exact Or.inr (Or.inl rfl) | exact Or.inr (Or.inr rfl)) (hd : (x == ("__debug__" : Str)) = false := by decide)
    (hcd : (x == ("__classdict__" : Str)) = false := by decide) : DS X (.Return (some (.Name x px)) pos) (tRet (tVar i)) (dRetO i) :=
  ⟨ps_ret (pe_var hN hv hd hcd), ⟨fun B S0 S H σ γ Dd D R e L ⟨ds, g, q⟩ => by
    obtain ⟨p, xs, g1, g2, g3, g4, g5⟩ := R.sl i _ g
    exact ⟨_, g1, L.rt S H σ _ (.ref p) (.f ds) e R.drop ⟨p, xs, rfl, g2, g5, g3, g4⟩ q⟩⟩⟩
def dRetN : WS := fun Dd γ => Dd.rt (.d .non) γ
theorem ds_retN : DS X (.Return none pos) tRetN dRetN := ⟨ps_retN, ⟨fun B S0 S H σ γ Dd D R e L q => L.rt S H σ γ .non (.d .non) e R Den.non q⟩⟩
/-- x = e -/
def dSet (i : Nat) (we : WE) : WS := fun Dd γ => we γ fun d γ1 => Dd.nx (γ1.set i (.val d))
theorem ds_set {i : Nat} {x : Str} {px : Pos} (hN : X.N.Nodup) (h : DE X e te we) (hi : X.N[i]? = some x := by rfl) (hx : Loc X.env.scope x := by first | exact Or.inl rfl | exact Or.inr rfl) (hs : swapsWith e (some (.Name x px)) pos.line X.env = pure false := by rfl)
    (hf : X.fn x = true ∨ X.env.scope.names.lookup x = some .local := by first | exact .inl rfl | exact .inr rfl | assumption) : DS X (.Assign [.Name x px] e pos) (tAsg te (gName i)) (dSet i we) :=
  ⟨ps_set hN hi hx h.pe hs hf, ⟨fun B S0 S H σ γ Dd D R e L q => h.se.run B S H σ γ _ R (h.se.mono γ _ _ (fun d γ1 q v S1 H1 R1 e1 d1 => L.nx S1 H1 _ _ (e.trans e1) (R1.set (s := .val d) ⟨v, rfl, d1⟩ (by intro _ _ z; cases z)) q) q)⟩⟩
/-- x = a new list, kept as one's own -/
def dSetO (i : Nat) (wf : WF) : WS := fun Dd γ => wf γ fun ds γ1 => Dd.nx (γ1.set i (.own false ds))
theorem ds_setO {i : Nat} {x : Str} {px : Pos} (hN : X.N.Nodup) (h : DF X e te wf) (hi : X.N[i]? = some x := by rfl) (hx : Loc X.env.scope x := by first | exact Or.inl rfl | exact Or.inr rfl) (hs : swapsWith e (some (.Name x px)) pos.line X.env = pure false := by rfl)
    (hf : X.fn x = true ∨ X.env.scope.names.lookup x = some .local := by first | exact .inl rfl | exact .inr rfl | assumption) : DS X (.Assign [.Name x px] e pos) (tAsg te (gName i)) (dSetO i wf) :=
  ⟨ps_set hN hi hx h.pe hs hf, ⟨fun B S0 S H σ γ Dd D R e L q => h.sf.run B S H σ γ _ R (h.sf.mono γ _ _ (fun ds γ1 q p xs S1 H1 R1 e1 k1 k2 k3 k4 k5 => L.nx S1 H1 _ _ (e.trans e1) (R1.setOwn k1 k2 k3 k4 k5) q) q)⟩⟩
/-- x = [..], the comprehension given to a name on one line -/
theorem ds_setLc {i : Nat} {y : Str} {py : Pos} {elt tg iter : Expr} {ifs : List Expr} {scope : Scope} {own : List (Str × Nat)} {pos spos : Pos} {ti : TI} {wi : WA} {g : TG} {wg : WG} {tt : TT} {wt : WT} {te : TE} {we : WE} (hc : X.calm = true) (hN : X.N.Nodup)
    (hi : DI X tg iter ti wi) (ok : BlkOk X.N X.env.scope scope own)
    (hg : ∀ (s : Shared) (H : Hp) (C : Addr) (cl : List (Str × Addr)) (fp : List Addr), DG (X.blk s H scope (compEnvC scope cl C X.env) fp) tg g wg) (hgi : GIn g (own.map (·.2))) (hgm : GMo g)
    (ht : ∀ (s : Shared) (H : Hp) (C : Addr) (cl : List (Str × Addr)) (fp : List Addr), DTs (X.blk s H scope (compEnvC scope cl C X.env) fp) ifs tt wt)
    (he : ∀ (s : Shared) (H : Hp) (C : Addr) (cl : List (Str × Addr)) (fp : List Addr), DE (X.blk s H scope (compEnvC scope cl C X.env) fp) elt te we)
    (hy : X.N[i]? = some y := by rfl) (hyl : X.env.scope.names.lookup y = some .local := by rfl)
    (hsw : swapsWith (.ListComp elt [⟨tg, iter, ifs, 0⟩] scope pos) (some (.Name y py)) spos.line X.env = pure true := by exact sw_true rfl rfl rfl (by decide +kernel)) (hs : ∀ x, foldedSetIterable iter X.env x = pure x := by intro _; rfl) :
    DS X (.Assign [.Name y py] (.ListComp elt [⟨tg, iter, ifs, 0⟩] scope pos) spos) (tAsg (tLc ti g tt te (own.map (·.2))) (gName i)) (dSetO i (dLc wi wg wt we (own.map (·.2)))) :=
  have h : SF X.K (tLc ti g tt te (own.map (·.2))) (dLc wi wg wt we (own.map (·.2))) := sf_lc hi.si (hg X.s_0 X.H_0 0 [] []).sg hgi hgm (ht X.s_0 X.H_0 0 [] []).st (he X.s_0 X.H_0 0 [] []).se
  ⟨ps_setLc hc hN hy hyl hsw hi.pi ok (fun s H C cl fp => (hg s H C cl fp).pg) (fun s H C cl fp => (ht s H C cl fp).pt) (fun s H C cl fp => (he s H C cl fp).pe) hs,
   ⟨fun B S0 S H σ γ Dd D R e L q => h.run B S H σ γ _ R (h.mono γ _ _ (fun ds γ1 q p xs S1 H1 R1 e1 k1 k2 k3 k4 k5 => L.nx S1 H1 _ _ (e.trans e1) (R1.setOwn k1 k2 k3 k4 k5) q) q)⟩⟩
/-- the list of one's own in slot i is a value from here on -/
def dFrz (i : Nat) (w : WS) : WS := fun Dd γ => ∃ ds, γ[i]? = some (.own false ds) ∧ w Dd (γ.set i (.val (.lst ds)))
theorem dss_frz (i : Nat) (h : DSs X sts t w) : DSs X sts t (dFrz i w) := ⟨h.ps, ⟨fun B S0 S H σ γ Dd D R e L ⟨ds, g, q⟩ => by
  obtain ⟨S', p, e1, e2, R', dn⟩ := R.val g
  exact h.ss.run B S0 S' H σ _ Dd D R' (e.trans e2) L q⟩⟩
theorem ds_frz (i : Nat) (h : DS X st t w) : DS X st t (dFrz i w) := ⟨h.ps, ⟨fun B S0 S H σ γ Dd D R e L ⟨ds, g, q⟩ => by
  obtain ⟨S', p, e1, e2, R', dn⟩ := R.val g
  exact h.ss.run B S0 S' H σ _ Dd D R' (e.trans e2) L q⟩⟩
/-- a, b = .. -/
def dAsg (we : WE) (wg : WG) : WS := fun Dd γ => we γ fun d γ1 => wg d γ1 Dd.nx
theorem ds_asg {tg : Expr} {g : TG} {wg : WG} (h : DE X e te we) (hg : DG X tg g wg) (hs : swapsWithSole [tg] e pos.line X.env = pure false := by rfl) (hw : swappedStores [tg] e X.env = pure none := by rfl)
    (h1 : (assignEach [tg] X.env).map (·.2) = [assign tg X.env] := by rfl) : DS X (.Assign [tg] e pos) (tAsg te g) (dAsg we wg) :=
  ⟨ps_asg h.pe hg.pg hs hw h1, ⟨fun B S0 S H σ γ Dd D R e L q => h.se.run B S H σ γ _ R (h.se.mono γ _ _ (fun d γ1 q v S1 H1 R1 e1 d1 => hg.sg.run B S1 H1 σ γ1 v d _ R1 d1 (hg.sg.mono _ _ _ _ (fun γ2 q σ2 R2 => L.nx S1 H1 σ2 γ2 (e.trans e1) R2 q) q)) q)⟩⟩
/-- xs[k] = e, xs of one's own -/
def dStI (i : Nat) (we wk : WE) : WS := fun Dd γ => we γ fun d γ1 => (∃ m ds, γ1[i]? = some (.own m ds)) ∧ wk γ1 fun k γ2 => ∃ n m ds j, k = .int n ∧ γ2[i]? = some (.own m ds) ∧ ixN ds.length n = some j ∧ Dd.nx (γ2.set i (.own m (ds.set j d)))
theorem ds_sub (i : Nat) {x : Str} {px ps : Pos} {k : Expr} {tk : TE} {wk : WE} (h : DE X e te we) (hk : DE X k tk wk) (hN : X.N[i]? = some x := by rfl) (hv : Vis X.env.scope x := by first | exact Or.inl rfl | exact Or.inr (Or.inl rfl) | exact Or.inr (Or.inr rfl)) (hd : (x == ("__debug__" : Str)) = false := by decide)
    (hcd : (x == ("__classdict__" : Str)) = false := by decide) (ha : ∀ v, assign (.Subscript (.Name x px) k ps) X.env v = (do
      let ov ← holding [v] (eval (.Name x px) X.env)
      let iv ← holding [v, ov] (eval k X.env)
      standAt ps
      holding [v, ov, iv] (setItem ov iv v)
      release [v, ov, iv] []) := by intro _; rfl) (hs : swapsWithSole [.Subscript (.Name x px) k ps] e pos.line X.env = pure false := by rfl) (hw : swappedStores [.Subscript (.Name x px) k ps] e X.env = pure none := by rfl)
    (h1 : (assignEach [.Subscript (.Name x px) k ps] X.env).map (·.2) = [assign (.Subscript (.Name x px) k ps) X.env] := by rfl) : DS X (.Assign [.Subscript (.Name x px) k ps] e pos) (tAsg te (gSub (tVar i) tk rSetL)) (dStI i we wk) :=
  ⟨ps_asg h.pe (pg_sub (pe_var hN hv hd hcd) hk.pe set_list ha) hs hw h1, ⟨fun B S0 S H σ γ Dd D R e L q => h.se.run B S H σ γ _ R (h.se.mono γ _ _ (fun d γ1 ⟨⟨m0, ds0, g0⟩, q⟩ v S1 H1 R1 e1 d1 => by
    obtain ⟨p0, xs0, f0, _⟩ := R1.sl i _ g0
    refine ⟨_, f0, ?_⟩
    refine hk.se.run B S1 H1 σ γ1 _ R1 (hk.se.mono γ1 _ _ (fun y γ2 ⟨n, m, ds, j, k1, k2, k3, q⟩ u S2 H2 R2 e2 d2 => ?_) q)
    subst k1
    cases d2
    obtain ⟨p, xs, g1, g2, g3, g4, g5⟩ := R2.sl i _ k2
    rw [f0] at g1
    cases g1
    refine ⟨p0, xs, n, j, rfl, rfl, g3, by rw [g4.1]; exact k3, ?_⟩
    exact L.nx S2 _ σ _ (e.trans (e1.trans e2)) (R2.chg k2 f0 (g4.set (d1.mono e2) j)) q) q)⟩⟩
/-- xs.append(e) -/
def dApp (i : Nat) (we : WE) : WS := fun Dd γ => (∃ m ds, γ[i]? = some (.own m ds)) ∧ we γ fun d γ1 => ∃ m ds, γ1[i]? = some (.own m ds) ∧ ds.length < sizeLine ∧ Dd.nx (γ1.set i (.own m (ds ++ [d])))
theorem ds_app (i : Nat) {x : Str} {px p1 p2 : Pos} (hpe : PE X e te → PE X (.Call (.Attribute (.Name x px) "append" p1) [e] [] p2) (tBM X.K "list" rAppend (tVar i) (tCons te tNil))) (h : DE X e te we)
    (hs : swapsWith (.Call (.Attribute (.Name x px) "append" p1) [e] [] p2) none pos.line X.env = pure false := by rfl) : DS X (.Expr (.Call (.Attribute (.Name x px) "append" p1) [e] [] p2) pos) (tDrop (tBM X.K "list" rAppend (tVar i) (tCons te tNil))) (dApp i we) :=
  ⟨ps_expr (hpe h.pe) hs, ⟨fun B S0 S H σ γ Dd D R e L ⟨⟨m0, ds0, g0⟩, q⟩ => by
    obtain ⟨p0, xs0, f0, f1, f2, f3⟩ := R.sl i _ g0
    refine ⟨_, f0, .inl ⟨rfl, _, SqL.of f2⟩, ?_⟩
    refine h.se.run B S H σ γ _ R (h.se.mono γ _ _ (fun d γ1 ⟨m, ds, k1, k2, q⟩ v S1 H1 R1 e1 d1 => ?_) q)
    obtain ⟨p, xs, g1, g2, g3, g4, g5⟩ := R1.sl i _ k1
    rw [f0] at g1
    cases g1
    exact ⟨p0, xs, v, rfl, rfl, g3, by rw [g4.1]; exact k2, L.nx S1 _ σ _ (e.trans e1) (R1.chg k1 f0 (g4.snoc d1)) q⟩⟩⟩
/-- xs.extend(e) -/
def dExt (i : Nat) (we : WE) : WS := fun Dd γ => (∃ m ds, γ[i]? = some (.own m ds)) ∧ we γ fun d γ1 => ∃ es m ds, d = .lst es ∧ γ1[i]? = some (.own m ds) ∧ ds.length + es.length ≤ sizeLine ∧ Dd.nx (γ1.set i (.own m (ds ++ es)))
theorem ds_ext (i : Nat) {x : Str} {px p1 p2 : Pos} (hpe : PE X e te → PE X (.Call (.Attribute (.Name x px) "extend" p1) [e] [] p2) (tBM X.K "list" rExtend (tVar i) (tCons te tNil))) (h : DE X e te we)
    (hs : swapsWith (.Call (.Attribute (.Name x px) "extend" p1) [e] [] p2) none pos.line X.env = pure false := by rfl) : DS X (.Expr (.Call (.Attribute (.Name x px) "extend" p1) [e] [] p2) pos) (tDrop (tBM X.K "list" rExtend (tVar i) (tCons te tNil))) (dExt i we) :=
  ⟨ps_expr (hpe h.pe) hs, ⟨fun B S0 S H σ γ Dd D R e L ⟨⟨m0, ds0, g0⟩, q⟩ => by
    obtain ⟨p0, xs0, f0, f1, f2, f3⟩ := R.sl i _ g0
    refine ⟨_, f0, .inl ⟨rfl, _, SqL.of f2⟩, ?_⟩
    refine h.se.run B S H σ γ _ R (h.se.mono γ _ _ (fun d γ1 ⟨es, m, ds, k0, k1, k2, q⟩ v S1 H1 R1 e1 d1 => ?_) q)
    subst k0
    obtain ⟨a, ys, rfl, h2, h3⟩ := d1.lst_inv
    obtain ⟨p, xs, g1, g2, g3, g4, g5⟩ := R1.sl i _ k1
    rw [f0] at g1
    cases g1
    exact ⟨p0, a, xs, ys, rfl, rfl, g3, R1.same _ _ h2, by rw [g4.1, h3.1]; exact k2, L.nx S1 _ σ _ (e.trans e1) (R1.chg k1 f0 (g4.append h3)) q⟩⟩⟩
/-- x += e of ints -/
def dAug (i : Nat) (f : Int → Int → Int) (we : WE) : WS := fun Dd γ => ∃ n, γ[i]? = some (.val (.int n)) ∧ we γ fun d γ1 => ∃ k, d = .int k ∧ Dd.nx (γ1.set i (.val (.int (f n k))))
theorem ds_aug {i : Nat} {x : Str} {px : Pos} {op : Operator} {f : Int → Int → Int} (hN : X.N.Nodup) (ho : PIp X op (ipI f)) (h : DE X e te we) (hi : X.N[i]? = some x := by rfl) (hx : Loc X.env.scope x := by first | exact Or.inl rfl | exact Or.inr rfl)
    (hf : X.fn x = true ∨ X.env.scope.names.lookup x = some .local := by first | exact .inl rfl | exact .inr rfl | assumption) : DS X (.AugAssign (.Name x px) op e pos) (tAug i te (ipI f)) (dAug i f we) :=
  ⟨ps_aug hN hi hx h.pe ho hf, ⟨fun B S0 S H σ γ Dd D R e L ⟨n, g, q⟩ => by
    obtain ⟨v, g1, g2⟩ := R.sl i _ g
    cases g2
    refine ⟨_, g1, ?_⟩
    refine h.se.run B S H σ γ _ R (h.se.mono γ _ _ (fun d γ1 ⟨k, k0, q⟩ v S1 H1 R1 e1 d1 => ?_) q)
    subst k0
    cases d1
    exact ⟨n, k, rfl, rfl, L.nx S1 _ _ _ (e.trans e1) (R1.set (s := .val (.int (f n k))) ⟨_, rfl, .int _⟩ (by intro _ _ z; cases z)) q⟩⟩⟩
/-- if -/
def dIf (wc : WT) (w w' : WS) : WS := fun Dd γ => wc γ fun b γ1 => if b = true then w Dd γ1 else w' Dd γ1
theorem ds_if {c : Expr} {p q : List Stmt} {tc : TT} {wc : WT} (hc : DT X c tc wc) (h : DSs X p t w) (h' : DSs X q u w') : DS X (.If c p q pos) (tIfS tc t u) (dIf wc w w') :=
  ⟨ps_if hc.pt h.ps h'.ps, ⟨fun B S0 S H σ γ Dd D R e L q => hc.st.run B S H σ γ _ R (hc.st.mono γ _ _ (fun b γ1 q S1 H1 R1 e1 => by
    cases b with
    | true => exact h.ss.run B S0 S1 H1 σ γ1 Dd D R1 (e.trans e1) L q
    | false => exact h'.ss.run B S0 S1 H1 σ γ1 Dd D R1 (e.trans e1) L q) q)⟩⟩
/-- an if whose ways meet: what is known behind it is said once -/
def dCut (w w' : WS) : WS := fun Dd γ => ∃ M : List Sl → Prop, w { Dd with nx := M } γ ∧ ∀ γ', M γ' → w' Dd γ'
theorem dss_cut (h : DS X st t w) (h' : DSs X rest u w') : DSs X (st :: rest) (tSeq t u) (dCut w w') :=
  ⟨pss_cons h.ps h'.ps, ⟨fun B S0 S H σ γ Dd D R e L ⟨M, q, k⟩ => h.ss.run B S0 S H σ γ { Dd with nx := M } _ R e ⟨fun S1 H1 σ1 γ1 e1 R1 q1 => h'.ss.run B S0 S1 H1 σ1 γ1 Dd D R1 e1 L (k _ q1), L.rt, L.bk, L.ct⟩ q⟩⟩
/-- for -/
def dFor (wi : WA) (wg : WG) (wb : WS) : WS := fun Dd γ => wi γ fun ds γ1 => ∃ I : Nat → List Sl → Prop, I 0 γ1 ∧ (∀ i d γ, ds[i]? = some d → I i γ → wg d γ fun γ2 => wb { Dd with nx := I (i + 1), ct := I (i + 1), bk := Dd.nx } γ2) ∧ ∀ γ, I ds.length γ → Dd.nx γ
theorem ss_for {ti : TI} {wi : WA} {g : TG} {wg : WG} {tb : TS} {wb : WS} (hi : SI K ti wi) (hg : SG K g wg) (hb : SS K tb wb) : SS K (tFor ti g tb) (dFor wi wg wb) := by
  refine ⟨fun B S0 S H σ γ Dd D R e L q => ?_⟩
  refine hi.run B S H σ γ _ R (hi.mono γ _ _ (fun ds γ1 ⟨I, h0, hs, hd⟩ J S1 H1 R1 e1 hJ => ?_) q)
  refine ⟨fun i m σ H => m = ds.length - i ∧ i ≤ ds.length ∧ ∃ S2 γ2, Rel K B S2 H σ γ2 ∧ Same S1 S2 ∧ I i γ2, ⟨ds.length, by simp, Nat.zero_le _, S1, γ1, R1, Same.refl S1, h0⟩, ?_⟩
  rintro i m σ2 H2 ⟨rfl, hi2, S2, γ2, R2, e2, hI⟩
  by_cases hlt : i < ds.length
  · refine .inr ⟨(hJ.mono e2).go i H2 R2.same hlt, fun σ' H' => i + 1 ≤ ds.length ∧ ∃ S3 γ3, Rel K B S3 H' σ' γ3 ∧ Same S1 S3 ∧ I (i + 1) γ3, fun σ' H' q => ⟨_, by omega, rfl, q⟩, fun x H' y => ?_⟩
    obtain ⟨d, hdi, hy⟩ := (hJ.mono e2).yld i H2 x H' R2.same hlt y
    have body := hs i d γ2 hdi hI
    obtain ⟨S3, R3, e3, d3⟩ : ∃ S3, Rel K B S3 H' σ2 γ2 ∧ Same S2 S3 ∧ Den S3 x d := by
      rcases hy with ⟨f1, f2⟩ | ⟨T, ys, es, f1, f2, f3, f4, f5⟩
      · subst f1; exact ⟨S2, R2, Same.refl S2, f2⟩
      · subst f1 f3 f4
        have e4 : Same S2 (upd S2 T (.tup ys)) := Same.upd (Same.refl S2) (R2.freshS f2)
        exact ⟨_, R2.new f2, e4, .ofT upd_same (f5.mono e4)⟩
    refine hg.run B S3 H' σ2 γ2 x d _ R3 d3 (hg.mono _ _ _ _ (fun γ4 body σ4 R4 => ?_) body)
    have e5 : Same S1 S3 := e2.trans e3
    have e6 : Same S0 S1 := e.trans e1
    refine hb.run B S3 S3 H' σ4 γ4 { Dd with nx := I (i + 1), ct := I (i + 1), bk := Dd.nx } _ R4 (Same.refl S3) ⟨fun S6 H6 σ6 γ6 k R6 q => ⟨hlt, S6, γ6, R6, e5.trans k, q⟩, fun S6 H6 σ6 γ6 v r k R6 rv q => L.rt S6 H6 σ6 γ6 v r (e6.trans (e5.trans k)) R6 rv q, fun S6 H6 σ6 γ6 k R6 q => L.nx S6 H6 σ6 γ6 (e6.trans (e5.trans k)) R6 q, fun S6 H6 σ6 γ6 k R6 q => ⟨hlt, S6, γ6, R6, e5.trans k, q⟩⟩ body
  · have e' : i = ds.length := by omega
    subst e'
    exact .inl ⟨(hJ.mono e2).stop _ H2 R2.same (Nat.le_refl _), L.nx S2 H2 σ2 γ2 ((e.trans e1).trans e2) R2 (hd γ2 hI)⟩
theorem ds_for {tg iter : Expr} {body : List Stmt} {ti : TI} {wi : WA} {g : TG} {wg : WG} {tb : TS} {wb : WS} (hp : PassesOwn (model X.prog X.w) X.A X.env X.xe) (hc : X.calm = true) (hi : DI X tg iter ti wi) (hg : DG X tg g wg) (hb : DSs X body tb wb)
    (hs : ∀ x, foldedSetIterable iter X.env x = pure x := by intro _; rfl) : DS X (.For tg iter body [] pos) (tFor ti g tb) (dFor wi wg wb) :=
  ⟨ps_for hp hc hi.pi hg.pg hb.ps hs, ss_for hi.si hg.sg hb.ss⟩
end

/-! ### defs -/
structure SpecD where
  S : List D → (Rv → Prop) → Prop
  mono : ∀ ds P P', (∀ r, P r → P' r) → S ds P → S ds P'
/-- a promise by parameters: the arguments, what is asked, what comes -/
def SpecD.of {α : Type} (args : α → List D) (pre : α → Prop) (post : α → Rv → Prop) : SpecD := ⟨fun ds Q => ∃ a, ds = args a ∧ pre a ∧ ∀ r, post a r → Q r, fun ds P P' k ⟨a, e, h, q⟩ => ⟨a, e, h, fun r hr => k r (q r hr)⟩⟩
structure SpecP where
  S : List D → List D → (Rv → List D → Prop) → Prop
  mono : ∀ pl ds P P', (∀ r pl, P r pl → P' r pl) → S pl ds P → S pl ds P'
def SpecP.of {α : Type} (args : α → List D) (pool : List D → Prop) (pre : α → Prop) (post : α → Rv → Prop) : SpecP :=
  ⟨fun pl ds Q => pool pl ∧ ∃ a, ds = args a ∧ pre a ∧ ∀ r pl', post a r → pool pl' → Q r pl', fun pl ds P P' k ⟨h0, a, e, h, q⟩ => ⟨h0, a, e, h, fun r pl' hr hp => k r pl' (q r pl' hr hp)⟩⟩
def spV (K : PySem.W.Frag) (s : SpecD) : Sp := fun vs H Q _ => ∃ S ds, Same S H ∧ DenL S vs ds ∧ s.S ds fun r => ∀ v S' H', Rel K ⟨H, S, [], []⟩ S' H' [] [] → RvOk ⟨H, S, [], []⟩ S' H' v r → Q v H'
def spP (K : PySem.W.Frag) (s : SpecP) : Sp := fun vs H Q _ => ∃ S p xs pl vs' ds, vs = .ref p :: vs' ∧ Same S H ∧ S p = none ∧ H p = some (.lst xs) ∧ DenL S xs pl ∧ DenL S vs' ds ∧
  s.S pl ds fun r pl' => ∀ v S' H' xs', Rel K ⟨H, S, [p], []⟩ S' H' [] [] → S' p = none → H' p = some (.lst xs') → DenL S' xs' pl' → RvOk ⟨H, S, [p], []⟩ S' H' v r → Q v H'
section
variable {K : PySem.W.Frag} {B : Bs} {S S' H H' : Hp} {σ : L2.St} {γ : List Sl}
theorem Rel.nil (R : Rel K B S H σ γ) : Rel K B S H [] [] := ⟨R.same, R.keep, R.muk, R.grow, R.ext, rfl, fun i s e => by simp at e, fun i j p m m' ds ds' hij e => by simp at e, R.frm, fun p o hp i m ds e => by simp at e⟩
/-- behind a call that changes nothing that stood -/
theorem Rel.call (R : Rel K B S H σ γ) (C : Rel K ⟨H, S, [], []⟩ S' H' [] []) : Rel K B S' H' σ γ := by
  have hk : ∀ a o, H a = some o → H' a = some o := fun a o e => C.keep a o e (by intro z; cases z)
  have hS : ∀ a o, H a = some o → S a = none → S' a = none := fun a o e n => by
    cases q : S' a with
    | none => rfl
    | some u =>
      rcases C.ext a u q with z | z
      · have z' : S a = some u := z
        rw [n] at z'; cases z'
      · have z' : H a = none := z
        rw [e] at z'; cases z'
  refine ⟨C.same, fun a o e hm => hk a o (R.keep a o e hm), fun a ha => ?_, fun a o e => C.grow a o (R.grow a o e), fun a o e => ?_, R.len, fun i s e => (R.sl i s e).mono C.grow (fun p e1 ⟨m, ds, e2⟩ n => ?_) (fun p xs e1 _ n => hk p _ n), R.sep, fun p o hp => ?_, R.frs⟩
  · obtain ⟨h1, h2, xs, h3⟩ := R.muk a ha
    exact ⟨h1, h2, xs, hk a _ h3⟩
  · rcases C.ext a o e with z | z
    · exact R.ext a o z
    · exact .inr (R.fresh0 z)
  · obtain ⟨p', xs, g1, _, g3, _⟩ := R.sl i _ (by rw [e, e2])
    rw [e1] at g1; cases g1
    exact hS p _ g3 n
  · obtain ⟨h1, h2, h3⟩ := R.frm p o hp
    exact ⟨hk p o h1, hS p o h1 h2, h3⟩
/-- behind a call that may change the list in slot i -/
theorem Rel.callP {i : Nat} {m : Bool} {p : Addr} {pl pl' : List D} {xs' : List V} (R : Rel K B S H σ γ) (hg : γ[i]? = some (.own m pl)) (hσ : σ[i]? = some (some (.ref p))) (C : Rel K ⟨H, S, [p], []⟩ S' H' [] []) (k1 : S' p = none) (k2 : H' p = some (.lst xs')) (k3 : DenL S' xs' pl') : Rel K B S' H' σ (γ.set i (.own m pl')) := by
  obtain ⟨p', xs, g1, g2, g3, g4, g5⟩ := R.sl i _ hg
  rw [hσ] at g1
  cases g1
  have hk : ∀ a o, H a = some o → a ≠ p → H' a = some o := fun a o e n => C.keep a o e (by intro z; exact n (List.mem_singleton.mp z))
  have hS : ∀ a o, H a = some o → S a = none → S' a = none := fun a o e n => by
    cases q : S' a with
    | none => rfl
    | some u =>
      rcases C.ext a u q with z | z
      · have z' : S a = some u := z
        rw [n] at z'; cases z'
      · have z' : H a = none := z
        rw [e] at z'; cases z'
  refine ⟨C.same, fun a o e hm => ?_, fun a ha => ?_, fun a o e => C.grow a o (R.grow a o e), fun a o e => ?_, by rw [List.length_set]; exact R.len, fun j s e => ?_, fun j k q m1 m2 es es' hjk h1 h2 h3 h4 => ?_, fun q o hq => ?_, fun q o hq j m1 es h1 h3 => ?_⟩
  · refine hk a o (R.keep a o e hm) fun z => ?_
    subst z
    cases m with
    | true => exact hm g5
    | false =>
      have g5' : B.H0 a = none := g5
      rw [e] at g5'; cases g5'
  · obtain ⟨h1, h2, zs, h3⟩ := R.muk a ha
    by_cases hap : a = p
    · subst hap; exact ⟨h1, h2, _, k2⟩
    · exact ⟨h1, h2, zs, hk a _ h3 hap⟩
  · rcases C.ext a o e with z | z
    · exact R.ext a o z
    · exact .inr (R.fresh0 z)
  · rw [set_get hg] at e
    by_cases hj : j = i
    · rw [if_pos hj] at e
      cases e
      rw [hj]
      exact ⟨p, xs', hσ, k1, k2, k3, g5⟩
    · rw [if_neg hj] at e
      refine (R.sl j s e).mono C.grow (fun q e1 ⟨m1, es, e2⟩ n => ?_) (fun q zs e1 ⟨m1, es, e2⟩ n => ?_)
      · obtain ⟨q', ys, f1, _, f3, _⟩ := R.sl j _ (by rw [e, e2])
        rw [e1] at f1; cases f1
        exact hS q _ f3 n
      · refine hk q _ n fun z => ?_
        rw [e2] at e
        exact R.sep j i p m1 m es pl hj e hg (by rw [e1, z]) hσ
  · have own : ∀ {l : Nat} {m' es}, (γ.set i (.own m pl'))[l]? = some (.own m' es) → ∃ m'' es', γ[l]? = some (.own m'' es') := fun {l m' es} h => by
      rw [set_get hg] at h
      by_cases hl : l = i
      · subst hl; exact ⟨m, pl, hg⟩
      · rw [if_neg hl] at h; exact ⟨_, _, h⟩
    obtain ⟨_, _, f1⟩ := own h1
    obtain ⟨_, _, f2⟩ := own h2
    exact R.sep j k q _ _ _ _ hjk f1 f2 h3 h4
  · obtain ⟨h1, h2, h3⟩ := R.frm q o hq
    exact ⟨hk q o h1 (fun z => R.frs q o hq i m pl hg (by rw [z]; exact hσ)), hS q o h1 h2, h3⟩
  · rw [set_get hg] at h1
    by_cases hj : j = i
    · subst hj; exact R.frs q o hq j m pl hg h3
    · rw [if_neg hj] at h1; exact R.frs q o hq j _ _ h1 h3
end
section
variable {X : Cx} {K : PySem.W.Frag} {f : Addr} {fd : FuncData} {ps : List Str} {k : Nat} {x : Str} {e : Expr} {es : List Expr} {t : TA} {w : WA} {p pos : Pos}
def dCallS (s : SpecD) (w : WA) : WE := fun γ Q => w γ fun ds γ1 => s.S ds fun r => Q r.val γ1
theorem se_callS {s : SpecD} {t : TA} {w : WA} (h : SA K t w) : SE K (tCall (spV K s) [] E0 t) (dCallS s w) := by
  refine ⟨fun γ P P' k q => h.mono γ _ _ (fun ds γ1 q => s.mono _ _ _ (fun r q => k _ _ q) q) q, fun B S H σ γ Q R q => ?_⟩
  refine h.run B S H σ γ _ R (h.mono γ _ _ (fun ds γ1 q vs S1 H1 R1 e1 d1 => ?_) q)
  rw [List.append_nil]
  refine ⟨S1, ds, R1.same, d1, s.mono _ _ _ (fun r q v S' H' C rv => ?_) q⟩
  cases r with
  | d d => exact q v S' H' (R1.call C) (e1.trans C.grow) rv
  | f ds' =>
    obtain ⟨a, xs, rfl, k1, k2, k3, k4⟩ := rv
    have k2' : H1 a = none := k2
    have e6 : Same S' (upd S' a (.lst xs)) := Same.upd (Same.refl S') k1
    have no : NoOwn B σ γ1 a := R1.noOwn k2'
    exact q (.ref a) _ H' ((R1.call C).freeze k3 k1 (R1.fresh0 k2') no) (e1.trans (C.grow.trans e6)) (.ofL upd_same (k4.mono e6))
def dCallF (s : SpecD) (w : WA) : WF := fun γ Q => w γ fun ds γ1 => s.S ds fun r => ∃ es, r = .f es ∧ Q es γ1
theorem sf_callF {s : SpecD} {t : TA} {w : WA} (h : SA K t w) : SF K (tCall (spV K s) [] E0 t) (dCallF s w) := by
  refine ⟨fun γ P P' k q => h.mono γ _ _ (fun ds γ1 q => s.mono _ _ _ (fun r ⟨es, e, q⟩ => ⟨es, e, k _ _ q⟩) q) q, fun B S H σ γ Q R q => ?_⟩
  refine h.run B S H σ γ _ R (h.mono γ _ _ (fun ds γ1 q vs S1 H1 R1 e1 d1 => ?_) q)
  rw [List.append_nil]
  refine ⟨S1, ds, R1.same, d1, s.mono _ _ _ (fun r ⟨es, e, q⟩ v S' H' C rv => ?_) q⟩
  subst e
  obtain ⟨a, xs, rfl, k1, k2, k3, k4⟩ := rv
  have k2' : H1 a = none := k2
  exact q a xs S' H' (R1.call C) (e1.trans C.grow) k1 (R1.fresh0 k2') k3 k4 (R1.noOwn k2')
theorem de_call (K' : PySem.W.Frag) {s : SpecD} (F : FnOk X.prog X.w X.K X.mg X.base CX0 k f fd ps (spV K' s)) (hr : Room k X.A) (hm : X.mg x = some (.ref f)) (hk : PySem.W.keepIn X.K (.ref f) = true) (hb : Binds X.K fd ps []) (ha : DA X (e :: es) t w) (hg : Gl X x := by rfl)
    (hdb : (x == ("__debug__" : Str)) = false := by decide) (he : starEach (e :: es) X.env = (false, eval e X.env) :: starEach es X.env := by rfl) (hpl : (backTo pos (starEach es X.env)).any (·.1) = false := by rfl) (hK : X.K = K' := by rfl) : DE X (.Call (.Name x p) (e :: es) [] pos) (tCall (spV K' s) [] E0 t) (dCallS s w) := by
  subst hK
  exact ⟨pe_call F hr hg hm hk hb .nil pass0 ha.pa hdb he hpl, se_callS ha.sa⟩
theorem df_call (K' : PySem.W.Frag) {s : SpecD} (F : FnOk X.prog X.w X.K X.mg X.base CX0 k f fd ps (spV K' s)) (hr : Room k X.A) (hm : X.mg x = some (.ref f)) (hk : PySem.W.keepIn X.K (.ref f) = true) (hb : Binds X.K fd ps []) (ha : DA X (e :: es) t w) (hg : Gl X x := by rfl)
    (hdb : (x == ("__debug__" : Str)) = false := by decide) (he : starEach (e :: es) X.env = (false, eval e X.env) :: starEach es X.env := by rfl) (hpl : (backTo pos (starEach es X.env)).any (·.1) = false := by rfl) (hK : X.K = K' := by rfl) : DF X (.Call (.Name x p) (e :: es) [] pos) (tCall (spV K' s) [] E0 t) (dCallF s w) := by
  subst hK
  exact ⟨pe_call F hr hg hm hk hb .nil pass0 ha.pa hdb he hpl, sf_callF ha.sa⟩
/-- a call that draws from the list in slot i -/
def dCallP (i : Nat) (s : SpecP) (w : WA) : WE := fun γ Q => (∃ m pl, γ[i]? = some (.own m pl)) ∧ w γ fun ds γ1 => ∃ m pl, γ1[i]? = some (.own m pl) ∧ s.S pl ds fun r pl' => Q r.val (γ1.set i (.own m pl'))
theorem se_callP {i : Nat} {s : SpecP} {t : TA} {w : WA} (h : SA K t w) : SE K (tCall (spP K s) [] E0 (tCons (tVar i) t)) (dCallP i s w) := by
  refine ⟨fun γ P P' k q => ⟨q.1, h.mono γ _ _ (fun ds γ1 ⟨m, pl, e, q⟩ => ⟨m, pl, e, s.mono _ _ _ _ (fun r pl' q => k _ _ q) q⟩) q.2⟩, fun B S H σ γ Q R q => ?_⟩
  obtain ⟨⟨m0, pl0, g0⟩, q⟩ := q
  obtain ⟨p0, xs0, f0, _⟩ := R.sl i _ g0
  refine ⟨_, f0, ?_⟩
  refine h.run B S H σ γ _ R (h.mono γ _ _ (fun ds γ1 ⟨m, pl, g, q⟩ vs S1 H1 R1 e1 d1 => ?_) q)
  show spP K s ((.ref p0 :: vs) ++ []) H1 Q E0
  rw [List.append_nil]
  obtain ⟨p, xs, g1, g2, g3, g4, g5⟩ := R1.sl i _ g
  rw [f0] at g1
  cases g1
  refine ⟨S1, p0, xs, pl, vs, ds, rfl, R1.same, g2, g3, g4, d1, s.mono _ _ _ _ (fun r pl' q v S' H' xs' C k1 k2 k3 rv => ?_) q⟩
  have R2 := R1.callP g f0 C k1 k2 k3
  cases r with
  | d d => exact q v S' H' R2 (e1.trans C.grow) rv
  | f ds' =>
    obtain ⟨a, ys, rfl, l1, l2, l3, l4⟩ := rv
    have l2' : H1 a = none := l2
    have e6 : Same S' (upd S' a (.lst ys)) := Same.upd (Same.refl S') l1
    have no : NoOwn B σ (γ1.set i (.own m pl')) a := by
      refine ⟨fun j m' es' h' f' => ?_, (R1.noOwn l2').2⟩
      rw [set_get g] at h'
      by_cases hj : j = i
      · rw [hj, f0] at f'
        cases f'
        rw [g3] at l2'; cases l2'
      · rw [if_neg hj] at h'
        exact (R1.noOwn l2').1 j _ _ h' f'
    exact q (.ref a) _ H' (R2.freeze l3 l1 (R1.fresh0 l2') no) (e1.trans (C.grow.trans e6)) (.ofL upd_same (l4.mono e6))
theorem de_callP (K' : PySem.W.Frag) (i : Nat) {s : SpecP} {y : Str} {py : Pos} (F : FnOk X.prog X.w X.K X.mg X.base CX0 k f fd ps (spP K' s)) (hr : Room k X.A) (hm : X.mg x = some (.ref f)) (hk : PySem.W.keepIn X.K (.ref f) = true) (hb : Binds X.K fd ps []) (ha : DA X es t w) (hN : X.N[i]? = some y := by rfl) (hv : Vis X.env.scope y := by first | exact Or.inl rfl | exact Or.inr (Or.inl rfl) | exact Or.inr (Or.inr rfl)) (hd : (y == ("__debug__" : Str)) = false := by decide)
    (hcd : (y == ("__classdict__" : Str)) = false := by decide) (hg : Gl X x := by rfl)
    (hdb : (x == ("__debug__" : Str)) = false := by decide) (he : starEach (.Name y py :: es) X.env = (false, eval (.Name y py) X.env) :: starEach es X.env := by rfl) (hpl : (backTo pos (starEach es X.env)).any (·.1) = false := by rfl) (hK : X.K = K' := by rfl) : DE X (.Call (.Name x p) (.Name y py :: es) [] pos) (tCall (spP K' s) [] E0 (tCons (tVar i) t)) (dCallP i s w) := by
  subst hK
  exact ⟨pe_call F hr hg hm hk hb .nil pass0 (pa_cons (pe_var hN hv hd hcd) ha.pa he) hdb he hpl, se_callP ha.sa⟩
end

/-! ### a def's body to its promise -/
def gam (N : List Str) (ds : List D) : List Sl := ds.map .val ++ List.replicate (N.length - ds.length) .any
section
variable {P : Program} {w : World} {K : PySem.W.Frag} {mg : Str → Option Value} {base : Heap} {x qual : Str} {st : Stmt} {f : Addr} {fd : FuncData} {N ps : List Str} {k : Nat}
theorem start_rel {H S : Hp} {vs : List V} {ds : List D} (e : Same S H) (hd : DenL S vs ds) : Rel K ⟨H, S, [], []⟩ S H (L2.start N vs) (gam N ds) := by
  refine ⟨e, fun a o h _ => h, fun a ha => (by cases ha), Same.refl S, fun a o h => .inl h, ?_, fun i s h => ?_, fun i j p m m' es es' hij h => ?_, fun p o hp => (by cases hp), fun p o hp => (by cases hp)⟩
  · unfold L2.start gam
    simp [hd.1]
  · unfold gam at h
    by_cases hi : i < ds.length
    · rw [List.getElem?_append_left (by simpa using hi), List.getElem?_map] at h
      obtain ⟨d, hdi⟩ : ∃ d, ds[i]? = some d := ⟨_, List.getElem?_eq_getElem hi⟩
      rw [hdi] at h
      cases h
      obtain ⟨v, hv, dn⟩ := hd.get hdi
      refine ⟨v, ?_, dn⟩
      unfold L2.start
      rw [List.getElem?_append_left (by simpa [hd.1] using hi), List.getElem?_map, hv]
      rfl
    · rw [List.getElem?_append_right (by simpa using hi), List.getElem?_replicate] at h
      split at h
      · cases h; trivial
      · cases h
  · exfalso
    unfold gam at h
    by_cases hi : i < ds.length
    · rw [List.getElem?_append_left (by simpa using hi), List.getElem?_map] at h
      rw [List.getElem?_eq_getElem hi] at h
      cases h
    · rw [List.getElem?_append_right (by simpa using hi), List.getElem?_replicate] at h
      split at h <;> cases h
/-- THE RULE for a def that raises nothing -/
theorem fn_ok {s : SpecD} (F : Fun K x qual st f fd) (Sc : FnScope N ps (defScope st)) (len : ∀ ds Q, s.S ds Q → ds.length = ps.length)
    (hbody : ∀ (cdv : Value) (A : Around) (outer : List Env) (s0 : Shared) (H : Hp) (E : XK), Room k (A.deeper (envOfC qual (defScope st) s0.heap.objs.size f cdv)) →
      ∃ t w', DSs (cxOf CX0 P w K mg base N qual (defScope st) f cdv A outer s0 H E).nox (defBody st) t w' ∧ ∀ ds Q, s.S ds Q → w' { nx := fun _ => Q (.d .non), rt := fun r _ => Q r } (gam N ds)) : FnOk P w K mg base CX0 (k + 1) f fd ps (spV K s) := by
  refine F.ok Sc (fun vs H Q E h => ?_) (fun cdv A outer s0 H vs Q E hr h => ?_)
  · obtain ⟨S, ds, e, hd, q⟩ := h
    rw [hd.1]
    exact len _ _ q
  · obtain ⟨S, ds, e, hd, q⟩ := h
    obtain ⟨t, w', h1, h2⟩ := hbody cdv A outer s0 H E hr
    refine ⟨t, h1.ps, ?_⟩
    exact h1.ss.run ⟨H, S, [], []⟩ S S H (L2.start N vs) (gam N ds) { nx := fun _ => _, rt := fun r _ => _ } _ (start_rel e hd) (Same.refl S) ⟨fun S' H' σ' γ' _ R q => q _ _ _ R.nil .non, fun S' H' σ' γ' v r _ R rv q => q v _ _ R.nil rv, fun S' H' σ' γ' _ R q => q.elim, fun S' H' σ' γ' _ R q => q.elim⟩ (h2 ds _ q)
def gamP (N : List Str) (pl ds : List D) : List Sl := .own true pl :: (ds.map .val ++ List.replicate (N.length - (ds.length + 1)) .any)
theorem start_relP {H S : Hp} {p : Addr} {xs : List V} {pl : List D} {vs : List V} {ds : List D} (e : Same S H) (h1 : S p = none) (h2 : H p = some (.lst xs)) (h3 : DenL S xs pl) (hd : DenL S vs ds) : Rel K ⟨H, S, [p], []⟩ S H (L2.start N (.ref p :: vs)) (gamP N pl ds) := by
  have es : L2.start N (.ref p :: vs) = some (.ref p) :: (vs.map some ++ List.replicate (N.length - (vs.length + 1)) none) := rfl
  have own : ∀ (i : Nat) m es, (gamP N pl ds)[i]? = some (.own m es) → i = 0 := fun i m es h => by
    cases i with
    | zero => rfl
    | succ i =>
      exfalso
      unfold gamP at h
      rw [List.getElem?_cons_succ] at h
      by_cases hi : i < ds.length
      · rw [List.getElem?_append_left (by simpa using hi), List.getElem?_map] at h
        rw [List.getElem?_eq_getElem hi] at h
        cases h
      · rw [List.getElem?_append_right (by simpa using hi), List.getElem?_replicate] at h
        split at h <;> cases h
  refine ⟨e, fun a o h _ => h, fun a ha => ?_, Same.refl S, fun a o h => .inl h, ?_, fun i s h => ?_, fun i j q m m' es es' hij h h' => ?_, fun p o hp => (by cases hp), fun p o hp => (by cases hp)⟩
  · have : a = p := List.mem_singleton.mp ha
    subst this
    exact ⟨h1, ⟨_, h2⟩, xs, h2⟩
  · rw [es]
    unfold gamP
    simp [hd.1]
  · rw [es]
    cases i with
    | zero =>
      cases h
      exact ⟨p, xs, rfl, h1, h2, h3, List.mem_singleton.mpr rfl⟩
    | succ i =>
      unfold gamP at h
      rw [List.getElem?_cons_succ] at h ⊢
      by_cases hi : i < ds.length
      · rw [List.getElem?_append_left (by simpa using hi), List.getElem?_map] at h
        obtain ⟨d, hdi⟩ : ∃ d, ds[i]? = some d := ⟨_, List.getElem?_eq_getElem hi⟩
        rw [hdi] at h
        cases h
        obtain ⟨v, hv, dn⟩ := hd.get hdi
        refine ⟨v, ?_, dn⟩
        rw [List.getElem?_append_left (by simpa [hd.1] using hi), List.getElem?_map, hv]
        rfl
      · rw [List.getElem?_append_right (by simpa using hi), List.getElem?_replicate] at h
        split at h
        · cases h; trivial
        · cases h
  · exact absurd ((own i _ _ h).trans (own j _ _ h').symm) hij
/-- THE RULE for a def that draws from a list handed in first -/
theorem fn_okP {s : SpecP} (F : Fun K x qual st f fd) (Sc : FnScope N ps (defScope st)) (len : ∀ pl ds Q, s.S pl ds Q → ds.length + 1 = ps.length)
    (hbody : ∀ (cdv : Value) (A : Around) (outer : List Env) (s0 : Shared) (H : Hp) (E : XK), Room k (A.deeper (envOfC qual (defScope st) s0.heap.objs.size f cdv)) →
      ∃ t w', DSs (cxOf CX0 P w K mg base N qual (defScope st) f cdv A outer s0 H E).nox (defBody st) t w' ∧ ∀ pl ds Q, s.S pl ds Q → w' { nx := fun γ => ∃ pl', γ[0]? = some (.own true pl') ∧ Q (.d .non) pl', rt := fun r γ => ∃ pl', γ[0]? = some (.own true pl') ∧ Q r pl' } (gamP N pl ds)) : FnOk P w K mg base CX0 (k + 1) f fd ps (spP K s) := by
  refine F.ok Sc (fun vs H Q E h => ?_) (fun cdv A outer s0 H vs Q E hr h => ?_)
  · obtain ⟨S, p, xs, pl, vs', ds, rfl, e, h1, h2, h3, hd, q⟩ := h
    rw [List.length_cons, hd.1]
    exact len _ _ _ q
  · obtain ⟨S, p, xs, pl, vs', ds, rfl, e, h1, h2, h3, hd, q⟩ := h
    obtain ⟨t, w', k1, k2⟩ := hbody cdv A outer s0 H E hr
    refine ⟨t, k1.ps, ?_⟩
    have fin : ∀ {S' H' : Hp} {σ' : L2.St} {γ' : List Sl} {pl' : List D}, Rel K ⟨H, S, [p], []⟩ S' H' σ' γ' → γ'[0]? = some (.own true pl') → ∃ xs', S' p = none ∧ H' p = some (.lst xs') ∧ DenL S' xs' pl' := fun {S' H' σ' γ' pl'} R g => by
      obtain ⟨q, ys, f1, f2, f3, f4, f5⟩ := R.sl 0 _ g
      have : q = p := List.mem_singleton.mp f5
      subst this
      exact ⟨ys, f2, f3, f4⟩
    exact k1.ss.run ⟨H, S, [p], []⟩ S S H _ (gamP N pl ds) { nx := fun γ => ∃ pl', γ[0]? = some (.own true pl') ∧ _, rt := fun r γ => ∃ pl', γ[0]? = some (.own true pl') ∧ _ } _ (start_relP e h1 h2 h3 hd) (Same.refl S) ⟨fun S' H' σ' γ' _ R ⟨pl', g, q⟩ => by
        obtain ⟨ys, f2, f3, f4⟩ := fin R g
        exact q _ _ _ ys R.nil f2 f3 f4 .non, fun S' H' σ' γ' v r _ R rv ⟨pl', g, q⟩ => by
        obtain ⟨ys, f2, f3, f4⟩ := fin R g
        exact q v _ _ ys R.nil f2 f3 f4 rv, fun S' H' σ' γ' _ R q => q.elim, fun S' H' σ' γ' _ R q => q.elim⟩ (k2 pl ds _ q)
end
end DL
set_option Elab.async false
set_option linter.all false
set_option autoImplicit false
set_option maxRecDepth 100000
set_option maxHeartbeats 4000000
/-! DL6: chains, isinstance, list(..), list + list, products. -/
namespace DL
open PySem PySem.Spec PyProof.Rows L2
section
variable {X : Cx} {K : PySem.W.Frag} {a b c e : Expr} {ta tb tc te : TE} {wa wb wc we : WE} {pos p : Pos}
/-! ### a op b op' c -/
def dChain (f f' : D → D → (D → Prop) → Prop) (wa wb wc : WE) : WE := fun γ Q => wa γ fun x γ1 => wb γ1 fun y γ2 => f x y fun z => ∃ k, z = .bl k ∧ if k = true then wc γ2 fun u γ3 => f' y u fun d => Q d γ3 else Q (.bl false) γ2
theorem se_chain {r r' : R2} {f f' : D → D → (D → Prop) → Prop} (ho : OpS r f) (ho' : OpS r' f') (ha : SE K ta wa) (hb : SE K tb wb) (hc : SE K tc wc) : SE K (tChain r r' ta tb tc) (dChain f f' wa wb wc) := by
  refine ⟨fun γ P P' k q => ha.mono γ _ _ (fun x γ1 q => hb.mono γ1 _ _ (fun y γ2 q => ho.mono x y _ _ (fun d ⟨b, e, q⟩ => ⟨b, e, Mo.ite (w := fun γ (Q : D → List Sl → Prop) => wc γ fun u γ3 => f' y u fun d => Q d γ3) (w' := fun γ (Q : D → List Sl → Prop) => Q (D.bl false) γ) (fun γ P P' k q => hc.mono γ _ _ (fun u γ3 q => ho'.mono _ _ _ _ (fun d q => k _ _ q) q) q) (fun _ _ _ k q => k _ _ q) k q⟩) q) q) q, fun B S H σ γ Q R q => ?_⟩
  refine ha.run B S H σ γ _ R (ha.mono γ _ _ (fun x γ1 q v S1 H1 R1 e1 d1 => ?_) q)
  refine hb.run B S1 H1 σ γ1 _ R1 (hb.mono γ1 _ _ (fun y γ2 q u S2 H2 R2 e2 d2 => ?_) q)
  refine ho.run K B S2 H2 σ γ2 _ v u x y R2 (d1.mono e2) d2 (ho.mono _ _ _ _ (fun d ⟨b, eb, q⟩ z S3 H3 R3 e3 d3 => ?_) q)
  subst eb
  cases d3
  refine ⟨b, rfl, ?_⟩
  cases b with
  | false => exact q _ S3 H3 R3 (e1.trans (e2.trans e3)) (.bl _)
  | true =>
    refine hc.run B S3 H3 σ γ2 _ R3 (hc.mono γ2 _ _ (fun t γ3 q z S4 H4 R4 e4 d4 => ?_) q)
    exact ho'.run K B S4 H4 σ γ3 Q u z y t R4 ((d2.mono e3).mono e4) d4 (ho'.mono _ _ _ _ (fun d q z' S' H' R' e' d' => q z' S' H' R' ((e1.trans (e2.trans e3)).trans (e4.trans e')) d') q)
theorem de_chain {op op' : CmpOp} {r r' : R2} {f f' : D → D → (D → Prop) → Prop} (h : OpR X (compareOp op) r) (ho : OpS r f) (h' : OpR X (compareOp op') r') (ho' : OpS r' f') (ha : DE X a ta wa) (hb : DE X b tb wb) (hc : DE X c tc wc) (hm : lastMarks [op, op'] [b, c] = false := by with_unfolding_all rfl) :
    DE X (.Compare a [op, op'] [b, c] pos) (tChain r r' ta tb tc) (dChain f f' wa wb wc) := ⟨pe_chain h h' ha.pe hb.pe hc.pe hm, se_chain ho ho' ha.se hb.se hc.se⟩
theorem dt_chain {op op' : CmpOp} {r r' : R2} {f f' : D → D → (D → Prop) → Prop} (h : OpR X (compareOp op) r) (ho : OpS r f) (h' : OpR X (compareOp op') r') (ho' : OpS r' f') (ha : DE X a ta wa) (hb : DE X b tb wb) (hc : DE X c tc wc) (hm : lastMarks [op, op'] [b, c] = false := by with_unfolding_all rfl) :
    DT X (.Compare a [op, op'] [b, c] pos) (tTest (tChain r r' ta tb tc)) (dB (dChain f f' wa wb wc)) := ⟨pt_chain h h' ha.pe hb.pe hc.pe hm, st_test (se_chain ho ho' ha.se hb.se hc.se)⟩
def fLt := dI0 fun i j => .bl (decide (i < j))
def fLe := dI0 fun i j => .bl (decide (i ≤ j))
theorem ops_lt : OpS (rI0 fun i j => .bl (decide (i < j))) fLt := ops_I0 fun _ _ _ => .bl _
theorem ops_le : OpS (rI0 fun i j => .bl (decide (i ≤ j))) fLe := ops_I0 fun _ _ _ => .bl _

/-! ### products of any ints that the machine takes -/
theorem op_mulK : OpR X (binaryOp .Mult) (rI IntMulOk fun i j => .int (i * j)) := opI fun _ _ _ _ _ _ _ hc q => mul_int q hc
abbrev dMulK := dOp (dI IntMulOk fun i j => .int (i * j))
theorem de_mulK (ha : DE X a ta wa) (hb : DE X b tb wb) : DE X (.BinOp a .Mult b pos) (tOp (rI IntMulOk fun i j => .int (i * j)) ta tb) (dMulK wa wb) := de_op op_mulK (ops_I fun _ _ _ => .int _) ha hb

/-! ### isinstance -/
theorem den_ty {S H : Hp} {v : V} {d : D} (h : Den S v d) (e : Same S H) : TyX K H v (.type (tyD d)) := by
  cases h with
  | non => exact .base .non
  | bl b => exact .base (.bl b)
  | int i => exact .base (.int i)
  | str s => exact .base (.str s)
  | lst h hl hs => exact .base (.lst (e _ _ h))
  | tup h hl hs => exact .base (.tup (e _ _ h))
def isB : D → Bool | .bl _ => true | _ => false
def isI : D → Bool | .bl _ => true | .int _ => true | _ => false
def isS : D → Bool | .str _ => true | _ => false
def isL : D → Bool | .lst _ => true | _ => false
def isU : D → Bool | .tup _ => true | _ => false
theorem kit_B : ∀ d, kitB (tyD d) "bool" = some (isB d)
  | .non => by show kitB "NoneType" "bool" = some false; decide +kernel
  | .bl _ => by show kitB "bool" "bool" = some true; decide +kernel
  | .int _ => by show kitB "int" "bool" = some false; decide +kernel
  | .str _ => by show kitB "str" "bool" = some false; decide +kernel
  | .lst _ => by show kitB "list" "bool" = some false; decide +kernel
  | .tup _ => by show kitB "tuple" "bool" = some false; decide +kernel
theorem kit_I : ∀ d, kitB (tyD d) "int" = some (isI d)
  | .non => by show kitB "NoneType" "int" = some false; decide +kernel
  | .bl _ => by show kitB "bool" "int" = some true; decide +kernel
  | .int _ => by show kitB "int" "int" = some true; decide +kernel
  | .str _ => by show kitB "str" "int" = some false; decide +kernel
  | .lst _ => by show kitB "list" "int" = some false; decide +kernel
  | .tup _ => by show kitB "tuple" "int" = some false; decide +kernel
theorem kit_S : ∀ d, kitB (tyD d) "str" = some (isS d)
  | .non => by show kitB "NoneType" "str" = some false; decide +kernel
  | .bl _ => by show kitB "bool" "str" = some false; decide +kernel
  | .int _ => by show kitB "int" "str" = some false; decide +kernel
  | .str _ => by show kitB "str" "str" = some true; decide +kernel
  | .lst _ => by show kitB "list" "str" = some false; decide +kernel
  | .tup _ => by show kitB "tuple" "str" = some false; decide +kernel
theorem kit_L : ∀ d, kitB (tyD d) "list" = some (isL d)
  | .non => by show kitB "NoneType" "list" = some false; decide +kernel
  | .bl _ => by show kitB "bool" "list" = some false; decide +kernel
  | .int _ => by show kitB "int" "list" = some false; decide +kernel
  | .str _ => by show kitB "str" "list" = some false; decide +kernel
  | .lst _ => by show kitB "list" "list" = some true; decide +kernel
  | .tup _ => by show kitB "tuple" "list" = some false; decide +kernel
theorem kit_U : ∀ d, kitB (tyD d) "tuple" = some (isU d)
  | .non => by show kitB "NoneType" "tuple" = some false; decide +kernel
  | .bl _ => by show kitB "bool" "tuple" = some false; decide +kernel
  | .int _ => by show kitB "int" "tuple" = some false; decide +kernel
  | .str _ => by show kitB "str" "tuple" = some false; decide +kernel
  | .lst _ => by show kitB "list" "tuple" = some false; decide +kernel
  | .tup _ => by show kitB "tuple" "tuple" = some true; decide +kernel
def dIsi (g : D → Bool) (wa : WE) : WE := fun γ Q => wa γ fun x γ1 => Q (.bl (g x)) γ1
theorem de_isi (K' : PySem.W.Frag) {T : String} {y : Str} {py : Pos} {g : D → Bool} (hk : ∀ d, kitB (tyD d) T = some (g d)) (hm : X.mg "isinstance" = none) (hmt : X.mg y = none) (hvt : bootBuiltins y = some (.type T)) (ha : DE X a ta wa) (hg : Gl X "isinstance" := by rfl) (hgt : Gl X y := by rfl) (hn : y ≠ "__name__" := by decide) (hdb : (y == ("__debug__" : Str)) = false := by decide)
    (he : starEach (a :: [.Name y py]) X.env = (false, eval a X.env) :: starEach [.Name y py] X.env := by rfl) (hK : X.K = K' := by rfl) : DE X (.Call (.Name "isinstance" p) [a, .Name y py] [] pos) (tCB (rIsi K') (tCons ta (tCons (tC (.ty T)) tNil))) (dIsi g wa) := by
  subst hK
  refine ⟨pe_callB call_isi hg hm (by decide +kernel) (pa_cons ha.pe (pa_cons (pe_bltn hgt hmt hvt rfl hn hdb) pa_nil) he) (by decide) (by decide) he, fun γ P P' k q => ha.se.mono γ _ _ (fun x γ1 q => k _ _ q) q, fun B S H σ γ Q R q => ?_⟩
  refine ha.se.run B S H σ γ _ R (ha.se.mono γ _ _ (fun x γ1 q v S1 H1 R1 e1 d1 => ?_) q)
  exact ⟨v, .ty T, _, _, g x, rfl, .ty T, den_ty d1 R1.same, kit_ty (hk x), q _ S1 H1 R1 e1 (.bl _)⟩
/-- isinstance(x, (T, U)) -/
theorem de_isi2 (K' : PySem.W.Frag) {T U : String} {y z : Str} {py pz pt : Pos} {kt : Nat} {g h : D → Bool} (hk : ∀ d, kitB (tyD d) T = some (g d)) (hk2 : ∀ d, kitB (tyD d) U = some (h d)) (hm : X.mg "isinstance" = none) (hmt : X.mg y = none) (hmu : X.mg z = none) (hvt : bootBuiltins y = some (.type T)) (hvu : bootBuiltins z = some (.type U)) (ha : DE X a ta wa) (hg : Gl X "isinstance" := by rfl) (hgt : Gl X y := by rfl) (hgu : Gl X z := by rfl)
    (hn : y ≠ "__name__" := by decide) (hdb : (y == ("__debug__" : Str)) = false := by decide) (hn2 : z ≠ "__name__" := by decide) (hdb2 : (z == ("__debug__" : Str)) = false := by decide)
    (he : starEach (a :: [.Tuple [.Name y py, .Name z pz] kt pt]) X.env = (false, eval a X.env) :: starEach [.Tuple [.Name y py, .Name z pz] kt pt] X.env := by rfl) (hK : X.K = K' := by rfl) : DE X (.Call (.Name "isinstance" p) [a, .Tuple [.Name y py, .Name z pz] kt pt] [] pos) (tCB (rIsiT K') (tCons ta (tCons (tTup (tCons (tC (.ty T)) (tCons (tC (.ty U)) tNil))) tNil))) (dIsi (fun d => g d || h d) wa) := by
  subst hK
  refine ⟨pe_callB call_isiT hg hm (by decide +kernel) (pa_cons ha.pe (pa_cons (pe_tup (pa_cons (pe_bltn hgt hmt hvt rfl hn hdb) (pa_cons (pe_bltn hgu hmu hvu rfl hn2 hdb2) pa_nil))) pa_nil) he) (by decide) (by decide) he, fun γ P P' k q => ha.se.mono γ _ _ (fun x γ1 q => k _ _ q) q, fun B S H σ γ Q R q => ?_⟩
  refine ha.se.run B S H σ γ _ R (ha.se.mono γ _ _ (fun x γ1 q v S1 H1 R1 e1 d1 => ?_) q)
  refine ⟨by show 2 ≤ sizeLine; decide, fun tp htp => ?_⟩
  have R2 := R1.new (o := .tup [.ty T, .ty U]) htp
  have e2 : Same S1 (upd S1 tp (.tup [.ty T, .ty U])) := Same.upd (Same.refl S1) (R1.freshS htp)
  refine ⟨v, tp, [.ty T, .ty U], _, [.type T, .type U], g x || h x, rfl, upd_same, .cons (.ty T) (.cons (.ty U) .nil), den_ty (d1.mono e2) R2.same, ?_, q _ _ _ R2 (e1.trans e2) (.bl _)⟩
  refine kitAny_cons (kit_ty (hk x)) (fun hb => ?_) (fun hb => by rw [hb]; rfl)
  rw [hb]
  show PySem.W.kitAny X.K _ _ = some (h x)
  refine kitAny_cons (kit_ty (hk2 x)) (fun hb2 => ?_) (fun hb2 => hb2)
  rw [hb2]
  exact kitAny_nil

/-! ### list(x), list + list -/
def dListOf (wa : WE) : WF := fun γ Q => wa γ fun x γ1 => ∃ ds, (x = .lst ds ∨ x = .tup ds) ∧ Q ds γ1
theorem df_list (K' : PySem.W.Frag) (hm : X.mg "list" = none) (ha : DE X a ta wa) (hg : Gl X "list" := by rfl) (he : starEach (a :: []) X.env = (false, eval a X.env) :: starEach [] X.env := by rfl) (hK : X.K = K' := by rfl) : DF X (.Call (.Name "list" p) [a] [] pos) (tCB (fun xs H Q => ∃ p ys, xs = [.ref p] ∧ (SqL K' H p ys ∨ SqT K' H p ys) ∧ ∀ l, H l = none → Q (.ref l) (upd H l (.lst ys))) (tCons ta tNil)) (dListOf wa) := by
  subst hK
  refine ⟨pe_callTy call_list_of hg hm (by decide +kernel) (pa_cons ha.pe pa_nil he) (by decide) (by decide) he, fun γ P P' k q => ha.se.mono γ _ _ (fun x γ1 ⟨ds, e, q⟩ => ⟨ds, e, k _ _ q⟩) q, fun B S H σ γ Q R q => ?_⟩
  refine ha.se.run B S H σ γ _ R (ha.se.mono γ _ _ (fun x γ1 ⟨ds, e, q⟩ v S1 H1 R1 e1 d1 => ?_) q)
  rcases e with e | e
  · subst e
    obtain ⟨a, xs, rfl, g2, g3⟩ := d1.lst_inv
    exact ⟨a, xs, rfl, .inl (SqL.of (R1.same _ _ g2)), fun l hl => q l xs S1 _ (R1.newOut hl) e1 (R1.freshS hl) (R1.fresh0 hl) upd_same g3 (R1.noOwn hl)⟩
  · subst e
    obtain ⟨a, xs, rfl, g2, g3⟩ := d1.tup_inv
    exact ⟨a, xs, rfl, .inr (SqT.of (R1.same _ _ g2)), fun l hl => q l xs S1 _ (R1.newOut hl) e1 (R1.freshS hl) (R1.fresh0 hl) upd_same g3 (R1.noOwn hl)⟩
def dCat (wa wb : WE) : WF := fun γ Q => wa γ fun x γ1 => wb γ1 fun y γ2 => ∃ ds es, x = .lst ds ∧ y = .lst es ∧ ds.length + es.length ≤ sizeLine ∧ Q (ds ++ es) γ2
theorem df_cat (ha : DE X a ta wa) (hb : DE X b tb wb) : DF X (.BinOp a .Add b pos) (tOp rCat ta tb) (dCat wa wb) := by
  refine ⟨pe_op op_cat ha.pe hb.pe, fun γ P P' k q => ha.se.mono γ _ _ (fun x γ1 q => hb.se.mono γ1 _ _ (fun y γ2 ⟨ds, es, e1, e2, hz, q⟩ => ⟨ds, es, e1, e2, hz, k _ _ q⟩) q) q, fun B S H σ γ Q R q => ?_⟩
  refine ha.se.run B S H σ γ _ R (ha.se.mono γ _ _ (fun x γ1 q1 v S1 H1 R1 e1 d1 => ?_) q)
  refine hb.se.run B S1 H1 σ γ1 _ R1 (hb.se.mono γ1 _ _ (fun y γ2 ⟨ds, es, f1, f2, hz, q2⟩ u S2 H2 R2 e2 d2 => ?_) q1)
  clear q1
  subst f1 f2
  obtain ⟨l, xs, rfl, g2, g3⟩ := d1.lst_inv
  obtain ⟨m, ys, rfl, h2, h3⟩ := d2.lst_inv
  exact ⟨l, m, xs, ys, rfl, rfl, R2.same _ _ (e2 _ _ g2), R2.same _ _ h2, by rw [g3.1, h3.1]; exact hz, fun p hp => q2 p _ S2 _ (R2.newOut hp) (e1.trans e2) (R2.freshS hp) (R2.fresh0 hp) upd_same ((g3.mono e2).append h3) (R2.noOwn hp)⟩
end
/-- a def of the text: where it stands -/
structure Gf (K : PySem.W.Frag) (mg : Str → Option Value) (x : Str) (st : Stmt) (ps : List Str) : Type where
  f : Addr
  fd : FuncData
  F : Fun K x x st f fd
  g : mg x = some (.ref f)
  b : Binds K fd ps []
end DL
set_option Elab.async false
set_option linter.all false
set_option autoImplicit false
set_option maxRecDepth 100000
set_option maxHeartbeats 4000000
/-! DL7: steps for what is wanted over data. -/
namespace DL
open PySem PySem.Spec PyProof.Rows L2
def beqB : Bool → Bool → Bool
  | true, c => c
  | false, c => !c
theorem truD_n  : truD .non = (false) := rfl
theorem truD_b (b : Bool) : truD (.bl b) = (b) := rfl
theorem truD_i (i : Int) : truD (.int i) = (i != 0) := rfl
theorem truD_s (s : Str) : truD (.str s) = ((s.length : Int) != 0) := rfl
theorem truD_l (ds : List D) : truD (.lst ds) = (!ds.isEmpty) := rfl
theorem truD_t (ds : List D) : truD (.tup ds) = (!ds.isEmpty) := rfl
theorem isB_n  : isB .non = false := rfl
theorem isB_b (b : Bool) : isB (.bl b) = true := rfl
theorem isB_i (i : Int) : isB (.int i) = false := rfl
theorem isB_s (s : Str) : isB (.str s) = false := rfl
theorem isB_l (ds : List D) : isB (.lst ds) = false := rfl
theorem isB_t (ds : List D) : isB (.tup ds) = false := rfl
theorem isI_n  : isI .non = false := rfl
theorem isI_b (b : Bool) : isI (.bl b) = true := rfl
theorem isI_i (i : Int) : isI (.int i) = true := rfl
theorem isI_s (s : Str) : isI (.str s) = false := rfl
theorem isI_l (ds : List D) : isI (.lst ds) = false := rfl
theorem isI_t (ds : List D) : isI (.tup ds) = false := rfl
theorem isS_n  : isS .non = false := rfl
theorem isS_b (b : Bool) : isS (.bl b) = false := rfl
theorem isS_i (i : Int) : isS (.int i) = false := rfl
theorem isS_s (s : Str) : isS (.str s) = true := rfl
theorem isS_l (ds : List D) : isS (.lst ds) = false := rfl
theorem isS_t (ds : List D) : isS (.tup ds) = false := rfl
theorem isL_n  : isL .non = false := rfl
theorem isL_b (b : Bool) : isL (.bl b) = false := rfl
theorem isL_i (i : Int) : isL (.int i) = false := rfl
theorem isL_s (s : Str) : isL (.str s) = false := rfl
theorem isL_l (ds : List D) : isL (.lst ds) = true := rfl
theorem isL_t (ds : List D) : isL (.tup ds) = false := rfl
theorem isU_n  : isU .non = false := rfl
theorem isU_b (b : Bool) : isU (.bl b) = false := rfl
theorem isU_i (i : Int) : isU (.int i) = false := rfl
theorem isU_s (s : Str) : isU (.str s) = false := rfl
theorem isU_l (ds : List D) : isU (.lst ds) = false := rfl
theorem isU_t (ds : List D) : isU (.tup ds) = true := rfl
theorem beqB_t (c : Bool) : beqB true c = c := rfl
theorem beqB_f (c : Bool) : beqB false c = !c := rfl
theorem val_d (x : D) : (Rv.d x).val = x := rfl
theorem val_f (xs : List D) : (Rv.f xs).val = .lst xs := rfl
theorem not_t : (!true) = false := rfl
theorem not_f : (!false) = true := rfl
theorem or_t (b : Bool) : (true || b) = true := rfl
theorem or_f (b : Bool) : (false || b) = b := rfl
theorem beqB_self (b : Bool) : beqB b b = true := by cases b <;> rfl
section
variable {γ γ1 : List Sl} {Q : D → List Sl → Prop} {QF : List D → List Sl → Prop} {QT : Bool → List Sl → Prop} {QA : List D → List Sl → Prop} {QO : Option Int → List Sl → Prop} {wa wb wc we : WE} {wf : WF} {w w' : WS} {wt : WT} {wA : WA} {Dd : EndsD} {i j : Nat} {d : D} {ds es : List D} {m n : Int} {R : D → Prop} {b : Bool}
theorem i_var (h : γ[i]? = some (.val d)) (q : Q d γ) : dVar i γ Q := .inl ⟨d, h, q⟩
theorem i_varO (h : γ[i]? = some (.own false ds)) (q : Q (.lst ds) (γ.set i (.val (.lst ds)))) : dVar i γ Q := .inr ⟨ds, h, q⟩
theorem i_c (q : Q d γ) : dC d γ Q := q
theorem i_v (q : wf γ fun ds γ' => Q (.lst ds) γ') : dV wf γ Q := q
theorem i_op {f : D → D → (D → Prop) → Prop} (q : wa γ fun x γ1 => wb γ1 fun y γ2 => f x y fun d => Q d γ2) : dOp f wa wb γ Q := q
theorem i_I {C : Int → Int → Prop} {g : Int → Int → D} (c : C m n) (q : R (g m n)) : dI C g (.int m) (.int n) R := ⟨m, n, rfl, rfl, c, q⟩
theorem i_I0 {g : Int → Int → D} (q : R (g m n)) : dI0 g (.int m) (.int n) R := ⟨m, n, rfl, rfl, q⟩
theorem i_add (q : R (.int (m + n))) : dI0 (fun i j => .int (i + j)) (.int m) (.int n) R := i_I0 q
theorem i_sub (q : R (.int (m - n))) : dI0 (fun i j => .int (i - j)) (.int m) (.int n) R := i_I0 q
theorem i_lt (q : R (.bl (decide (m < n)))) : dI0 (fun i j => .bl (decide (i < j))) (.int m) (.int n) R := i_I0 q
theorem i_le (q : R (.bl (decide (m ≤ n)))) : dI0 (fun i j => .bl (decide (i ≤ j))) (.int m) (.int n) R := i_I0 q
theorem i_gt (q : R (.bl (decide (n < m)))) : dI0 (fun i j => .bl (decide (j < i))) (.int m) (.int n) R := i_I0 q
theorem i_ge (q : R (.bl (decide (n ≤ m)))) : dI0 (fun i j => .bl (decide (j ≤ i))) (.int m) (.int n) R := i_I0 q
theorem i_mul (c : IntMulOk m n) (q : R (.int (m * n))) : dI IntMulOk (fun i j => .int (i * j)) (.int m) (.int n) R := i_I c q
theorem i_mod (c : 0 < n) (q : R (.int (m % n))) : dI (fun _ j => 0 < j) (fun i j => .int (i % j)) (.int m) (.int n) R := i_I c q
theorem i_fdv (c : CDivW m n) (q : R (.int (m / n))) : dI CDivW (fun i j => .int (i / j)) (.int m) (.int n) R := i_I c q
theorem i_pow (c : CPow m n) (q : R (.int (m ^ n.toNat))) : dI CPow (fun i j => .int (i ^ j.toNat)) (.int m) (.int n) R := i_I c q
theorem mulL (h : -18446744073709551616 < m ∧ m < 18446744073709551616) : IntMulOk m n := CMul.ok (.inl ⟨by omega, by omega⟩)
theorem mulR (h : -18446744073709551616 < n ∧ n < 18446744073709551616) : IntMulOk m n := CMul.ok (.inr ⟨by omega, by omega⟩)
theorem divS (h : 0 < n ∧ n < 18446744073709551616) : CDivW m n := by
  refine ⟨h.1, ?_⟩
  have e : n.natAbs < 2 ^ 64 := by omega
  have := (Nat.log2_lt (n := n.natAbs) (k := 64) (by omega)).mpr e
  omega
theorem i_chain {f f' : D → D → (D → Prop) → Prop} (q : wa γ fun x γ1 => wb γ1 fun y γ2 => f x y fun z => ∃ k, z = .bl k ∧ if k = true then wc γ2 fun u γ3 => f' y u fun d => Q d γ3 else Q (.bl false) γ2) : dChain f f' wa wb wc γ Q := q
theorem i_lt' (q : R (.bl (decide (m < n)))) : fLt (.int m) (.int n) R := i_I0 q
theorem i_le' (q : R (.bl (decide (m ≤ n)))) : fLe (.int m) (.int n) R := i_I0 q
theorem i_eqI (q : R (.bl (decide (m = n)))) : dSc false (.int m) (.int n) R := ⟨.int m, .int n, rfl, rfl, rfl, by
  have e : decide (V.int m = V.int n) = decide (m = n) := by
    by_cases h : m = n
    · rw [decide_eq_true h, decide_eq_true (congrArg V.int h)]
    · rw [decide_eq_false h, decide_eq_false (fun z => h (V.int.inj z))]
  rw [e]; exact q⟩
theorem i_neI (q : R (.bl (!decide (m = n)))) : dSc true (.int m) (.int n) R := ⟨.int m, .int n, rfl, rfl, rfl, by
  have e : decide (V.int m = V.int n) = decide (m = n) := by
    by_cases h : m = n
    · rw [decide_eq_true h, decide_eq_true (congrArg V.int h)]
    · rw [decide_eq_false h, decide_eq_false (fun z => h (V.int.inj z))]
  rw [e]; exact q⟩
theorem i_eqB {c : Bool} (q : R (.bl (beqB b c))) : dSc false (.bl b) (.bl c) R := ⟨.bl b, .bl c, rfl, rfl, rfl, by
  have e : decide (V.bl b = V.bl c) = beqB b c := by cases b <;> cases c <;> rfl
  rw [e]; exact q⟩
theorem i_neB {c : Bool} (q : R (.bl (!beqB b c))) : dSc true (.bl b) (.bl c) R := ⟨.bl b, .bl c, rfl, rfl, rfl, by
  have e : decide (V.bl b = V.bl c) = beqB b c := by cases b <;> cases c <;> rfl
  rw [e]; exact q⟩
theorem i_eqS {s t : Str} (q : R (.bl (decide (s = t)))) : dSc false (.str s) (.str t) R := ⟨.str s, .str t, rfl, rfl, rfl, by
  have e : decide (V.str s = V.str t) = decide (s = t) := by
    by_cases h : s = t
    · rw [decide_eq_true h, decide_eq_true (congrArg V.str h)]
    · rw [decide_eq_false h, decide_eq_false (fun z => h (V.str.inj z))]
  rw [e]; exact q⟩
theorem i_isN {x : D} (q : R (.bl (match x with | .non => true | _ => false))) : dIsN false x .non R := ⟨rfl, q⟩
theorem i_notN {x : D} (q : R (.bl (match x with | .non => false | _ => true))) : dIsN true x .non R := ⟨rfl, q⟩
theorem i_neg (q : wa γ fun x γ1 => ∃ i, x = .int i ∧ Q (.int (-i)) γ1) : dNeg wa γ Q := q
theorem i_tr (q : wa γ fun x γ1 => okT x ∧ QT (truD x) γ1) : dTr wa γ QT := q
theorem i_B (q : wa γ fun x γ1 => ∃ b, x = .bl b ∧ QT b γ1) : dB wa γ QT := q
theorem i_bl {P : Bool → Prop} (q : P b) : ∃ c, D.bl b = .bl c ∧ P c := ⟨b, rfl, q⟩
theorem i_int {P : Int → Prop} (q : P n) : ∃ c, D.int n = .int c ∧ P c := ⟨n, rfl, q⟩
theorem i_lst {P : List D → Prop} (q : P ds) : ∃ c, D.lst ds = .lst c ∧ P c := ⟨ds, rfl, q⟩
theorem i_tup {P : List D → Prop} (q : P ds) : ∃ c, D.tup ds = .tup c ∧ P c := ⟨ds, rfl, q⟩
theorem i_okb {P : Prop} (q : P) : okT (.bl b) ∧ P := ⟨trivial, q⟩
theorem i_oki {P : Prop} (q : P) : okT (.int n) ∧ P := ⟨trivial, q⟩
theorem i_okl {P : Prop} (q : P) : okT (.lst ds) ∧ P := ⟨trivial, q⟩
theorem i_oku {P : Prop} (q : P) : okT (.tup ds) ∧ P := ⟨trivial, q⟩
theorem i_okn {P : Prop} (q : P) : okT .non ∧ P := ⟨trivial, q⟩
variable {wt' : WT}
theorem i_and (q : wt γ fun c γ1 => if c = true then wt' γ1 QT else QT false γ1) : dAnd wt wt' γ QT := q
theorem i_or (q : wt γ fun c γ1 => if c = true then QT true γ1 else wt' γ1 QT) : dOr wt wt' γ QT := q
theorem i_not (q : wt γ fun c γ1 => QT (!c) γ1) : dNot wt γ QT := q
theorem i_andV (q : wa γ fun x γ1 => ∃ c, x = .bl c ∧ if c = true then wb γ1 Q else Q (.bl false) γ1) : dAndV wa wb γ Q := q
theorem i_orV (q : wa γ fun x γ1 => ∃ c, x = .bl c ∧ if c = true then Q (.bl true) γ1 else wb γ1 Q) : dOrV wa wb γ Q := q
theorem i_notV (q : wa γ fun x γ1 => ∃ c, x = .bl c ∧ Q (.bl (!c)) γ1) : dNotV wa γ Q := q
theorem i_ifE (q : wt γ fun c γ1 => if c = true then wa γ1 Q else wb γ1 Q) : dIfE wt wa wb γ Q := q
theorem i_nil (q : QA [] γ) : dNil γ QA := q
theorem i_cons (q : we γ fun x γ1 => wA γ1 fun ds γ2 => QA (x :: ds) γ2) : dCons we wA γ QA := q
theorem i_dtup (q : wA γ fun ds γ1 => ds.length ≤ sizeLine ∧ Q (.tup ds) γ1) : dTup wA γ Q := q
theorem i_dlst (q : wA γ fun ds γ1 => ds.length ≤ sizeLine ∧ QF ds γ1) : dLst wA γ QF := q
theorem small (h : ds.length ≤ 100000) : ds.length ≤ sizeLine := Nat.le_trans h (by decide)
theorem smallN {k : Nat} (h : k ≤ 100000) : k ≤ sizeLine := Nat.le_trans h (by decide)
theorem smallL {k : Nat} (h : k < 100000) : k < sizeLine := Nat.lt_of_lt_of_le h (by decide)
theorem i_sz {P : Prop} (h : ds.length ≤ 100000) (q : P) : ds.length ≤ sizeLine ∧ P := ⟨small h, q⟩
theorem i_ixL (h : atI ds n = some d) (q : R d) : itemD (.lst ds) (.int n) R := ⟨n, d, rfl, .inl ⟨ds, rfl, h⟩, q⟩
theorem i_ixT (h : atI ds n = some d) (q : R d) : itemD (.tup ds) (.int n) R := ⟨n, d, rfl, .inr ⟨ds, rfl, h⟩, q⟩
theorem i_ixO {mm : Bool} (g : γ[i]? = some (.own mm ds)) (q : wb γ fun y γ1 => ∃ k m ds d, y = .int k ∧ γ1[i]? = some (.own m ds) ∧ atI ds k = some d ∧ Q d γ1) : dIxO i wb γ Q := ⟨⟨_, _, g⟩, q⟩
theorem i_ixO2 {mm : Bool} {P : D → Prop} (g : γ[i]? = some (.own mm ds)) (h : atI ds n = some d) (q : P d) : ∃ k m es e, D.int n = .int k ∧ γ[i]? = some (.own m es) ∧ atI es k = some e ∧ P e := ⟨n, mm, ds, d, rfl, g, h, q⟩
theorem i_noPart (q : QO none γ) : dNoPart γ QO := q
theorem i_part (q : we γ fun x γ1 => ∃ i, x = .int i ∧ QO (some i) γ1) : dPart we γ QO := q
variable {wl wh : WO}
theorem i_sl (q : wa γ fun x γ1 => wl γ1 fun l γ2 => wh γ2 fun h γ3 => ∃ ds, x = .lst ds ∧ QF (cutL ds l h) γ3) : dSl wa wl wh γ QF := q
theorem i_call {f : List D → (D → Prop) → Prop} (q : wA γ fun ds γ1 => f ds fun d => Q d γ1) : dCall f wA γ Q := q
theorem i_lenL (q : R (.int ds.length)) : lenD [.lst ds] R := ⟨ds, .inl rfl, q⟩
theorem i_lenT (q : R (.int ds.length)) : lenD [.tup ds] R := ⟨ds, .inr rfl, q⟩
theorem i_lenO {mm : Bool} (g : γ[i]? = some (.own mm ds)) (q : Q (.int ds.length) γ) : dLenO i γ Q := ⟨mm, ds, g, q⟩
theorem i_sum {ns : List Int} (q : R (.int ns.sum)) : sumD [.lst (ns.map D.int)] R := ⟨ns, rfl, q⟩
theorem i_all {bs : List Bool} (q : R (.bl (bs.all id))) : allD [.lst (bs.map D.bl)] R := ⟨bs, rfl, q⟩
theorem i_any {bs : List Bool} (q : R (.bl (bs.any id))) : anyD [.lst (bs.map D.bl)] R := ⟨bs, rfl, q⟩
theorem i_intI (q : R (.int n)) : intD [.int n] R := .inl ⟨n, rfl, q⟩
theorem i_intB (q : R (.int (if b then 1 else 0))) : intD [.bl b] R := .inr ⟨b, rfl, q⟩
theorem i_isi {g : D → Bool} (q : wa γ fun x γ1 => Q (.bl (g x)) γ1) : dIsi g wa γ Q := q
theorem i_listOf (q : wa γ fun x γ1 => ∃ ds, (x = .lst ds ∨ x = .tup ds) ∧ QF ds γ1) : dListOf wa γ QF := q
theorem i_listL {P : List D → Prop} (q : P ds) : ∃ es, (D.lst ds = .lst es ∨ D.lst ds = .tup es) ∧ P es := ⟨ds, .inl rfl, q⟩
theorem i_listT {P : List D → Prop} (q : P ds) : ∃ es, (D.tup ds = .lst es ∨ D.tup ds = .tup es) ∧ P es := ⟨ds, .inr rfl, q⟩
theorem i_cat (q : wa γ fun x γ1 => wb γ1 fun y γ2 => ∃ ds es, x = .lst ds ∧ y = .lst es ∧ ds.length + es.length ≤ sizeLine ∧ QF (ds ++ es) γ2) : dCat wa wb γ QF := q
theorem i_cat2 {F : List D → List D → Prop} (h : ds.length + es.length ≤ 100000) (q : F ds es) : ∃ a b, D.lst ds = .lst a ∧ D.lst es = .lst b ∧ a.length + b.length ≤ sizeLine ∧ F a b := ⟨ds, es, rfl, rfl, smallN h, q⟩
/-! iterators, targets -/
theorem i_il (q : we γ fun x γ1 => ∃ ds, x = .lst ds ∧ QA ds γ1) : dIL we γ QA := q
theorem i_it (q : we γ fun x γ1 => ∃ ds, x = .tup ds ∧ QA ds γ1) : dIT we γ QA := q
theorem i_ir1 (q : wA γ fun ds γ1 => ∃ n, ds = [.int n] ∧ (-(2 ^ 62) ≤ n ∧ n < 2 ^ 62) ∧ QA (rngD 0 n.toNat) γ1) : dIR1 wA γ QA := q
theorem i_ir1' {F : Int → Prop} (h : -4611686018427387904 ≤ n ∧ n < 4611686018427387904) (q : F n) : ∃ k, [D.int n] = [.int k] ∧ (-(2 ^ 62) ≤ k ∧ k < 2 ^ 62) ∧ F k := ⟨n, rfl, ⟨by omega, by omega⟩, q⟩
theorem i_ir2 (q : wA γ fun ds γ1 => ∃ i j, ds = [.int i, .int j] ∧ (-(2 ^ 62) ≤ i ∧ i < 2 ^ 62 ∧ -(2 ^ 62) ≤ j ∧ j < 2 ^ 62) ∧ QA (rngD i (j - i).toNat) γ1) : dIR2 wA γ QA := q
theorem i_ir2' {F : Int → Int → Prop} (h : -4611686018427387904 ≤ m ∧ m < 4611686018427387904 ∧ -4611686018427387904 ≤ n ∧ n < 4611686018427387904) (q : F m n) : ∃ i j, [D.int m, D.int n] = [.int i, .int j] ∧ (-(2 ^ 62) ≤ i ∧ i < 2 ^ 62 ∧ -(2 ^ 62) ≤ j ∧ j < 2 ^ 62) ∧ F i j := ⟨m, n, rfl, ⟨by omega, by omega, by omega, by omega⟩, q⟩
theorem i_ien (q : wA γ fun ds γ1 => ∃ es, ds = [.lst es] ∧ QA (enumD es) γ1) : dIEn wA γ QA := q
theorem i_ien' {P : List D → Prop} (q : P ds) : ∃ es, [D.lst ds] = [.lst es] ∧ P es := ⟨ds, rfl, q⟩
theorem i_iz (q : wA γ fun ds γ1 => ∃ es fs, ds = [.lst es, .lst fs] ∧ QA (zipD es fs) γ1) : dIZ wA γ QA := q
theorem i_iz' {P : List D → List D → Prop} (q : P ds es) : ∃ a b, [D.lst ds, D.lst es] = [.lst a, .lst b] ∧ P a b := ⟨ds, es, rfl, q⟩
theorem i_iscr {ns : List Int} (g : γ[i]? = some (.scr ns)) (q : QA (ns.map D.int) γ) : dIS i γ QA := ⟨ns, g, q⟩
variable {QG : List Sl → Prop} {wg : WG} {wgs : WGs}
theorem i_name (q : QG (γ.set i (.val d))) : dName i d γ QG := q
theorem i_gnil (q : QG γ) : dgNil [] γ QG := ⟨rfl, q⟩
theorem i_gcons (q : wg d γ fun γ1 => wgs ds γ1 QG) : dgCons wg wgs (d :: ds) γ QG := ⟨d, ds, rfl, q⟩
theorem i_gtup {k : Nat} (h : ds.length = k) (q : wgs ds γ QG) : dgTup k wgs (.tup ds) γ QG := ⟨ds, rfl, h, q⟩
theorem i_yes (q : QT true γ) : dYes γ QT := q
/-! statements -/
theorem i_next (q : Dd.nx γ) : dNext Dd γ := q
theorem i_seq (q : w { Dd with nx := w' Dd } γ) : dSeq w w' Dd γ := q
theorem i_brk (q : Dd.bk γ) : dBrk Dd γ := q
theorem i_cont (q : Dd.ct γ) : dCont Dd γ := q
theorem i_drop (q : we γ fun _ γ1 => Dd.nx γ1) : dDrop we Dd γ := q
theorem i_ret (q : we γ fun d γ1 => Dd.rt (.d d) γ1) : dRet we Dd γ := q
theorem i_retF (q : wf γ fun ds γ1 => Dd.rt (.f ds) γ1) : dRetF wf Dd γ := q
theorem i_retO (g : γ[i]? = some (.own false ds)) (q : Dd.rt (.f ds) (γ.set i .any)) : dRetO i Dd γ := ⟨ds, g, q⟩
theorem i_retN (q : Dd.rt (.d .non) γ) : dRetN Dd γ := q
theorem i_set (q : we γ fun d γ1 => Dd.nx (γ1.set i (.val d))) : dSet i we Dd γ := q
theorem i_setO (q : wf γ fun ds γ1 => Dd.nx (γ1.set i (.own false ds))) : dSetO i wf Dd γ := q
theorem i_frz (g : γ[i]? = some (.own false ds)) (q : w Dd (γ.set i (.val (.lst ds)))) : dFrz i w Dd γ := ⟨ds, g, q⟩
theorem i_asg (q : we γ fun d γ1 => wg d γ1 Dd.nx) : dAsg we wg Dd γ := q
theorem i_sti {wk : WE} (q : we γ fun d γ1 => (∃ m ds, γ1[i]? = some (.own m ds)) ∧ wk γ1 fun k γ2 => ∃ n m ds j, k = .int n ∧ γ2[i]? = some (.own m ds) ∧ ixN ds.length n = some j ∧ Dd.nx (γ2.set i (.own m (ds.set j d)))) : dStI i we wk Dd γ := q
theorem i_own {mm : Bool} {P : Prop} (g : γ[i]? = some (.own mm ds)) (q : P) : (∃ m es, γ[i]? = some (.own m es)) ∧ P := ⟨⟨_, _, g⟩, q⟩
theorem i_sti2 {mm : Bool} {F : Int → Bool → List D → Nat → Prop} (g : γ[i]? = some (.own mm ds)) (h : ixN ds.length n = some j) (q : F n mm ds j) : ∃ k m es jj, D.int n = .int k ∧ γ[i]? = some (.own m es) ∧ ixN es.length k = some jj ∧ F k m es jj := ⟨n, mm, ds, j, rfl, g, h, q⟩
theorem i_app {mm : Bool} (g : γ[i]? = some (.own mm ds)) (q : we γ fun d γ1 => ∃ m ds, γ1[i]? = some (.own m ds) ∧ ds.length < sizeLine ∧ Dd.nx (γ1.set i (.own m (ds ++ [d])))) : dApp i we Dd γ := ⟨⟨_, _, g⟩, q⟩
theorem i_app2 {mm : Bool} {F : Bool → List D → Prop} (g : γ[i]? = some (.own mm ds)) (h : ds.length < 100000) (q : F mm ds) : ∃ m es, γ[i]? = some (.own m es) ∧ es.length < sizeLine ∧ F m es := ⟨mm, ds, g, smallL h, q⟩
theorem i_ext {mm : Bool} (g : γ[i]? = some (.own mm ds)) (q : we γ fun d γ1 => ∃ es m ds, d = .lst es ∧ γ1[i]? = some (.own m ds) ∧ ds.length + es.length ≤ sizeLine ∧ Dd.nx (γ1.set i (.own m (ds ++ es)))) : dExt i we Dd γ := ⟨⟨_, _, g⟩, q⟩
theorem i_ext2 {mm : Bool} {F : List D → Bool → List D → Prop} (g : γ[i]? = some (.own mm ds)) (h : ds.length + es.length ≤ 100000) (q : F es mm ds) : ∃ fs m gs, D.lst es = .lst fs ∧ γ[i]? = some (.own m gs) ∧ gs.length + fs.length ≤ sizeLine ∧ F fs m gs := ⟨es, mm, ds, rfl, g, smallN h, q⟩
theorem i_aug {f : Int → Int → Int} (g : γ[i]? = some (.val (.int n))) (q : we γ fun d γ1 => ∃ k, d = .int k ∧ Dd.nx (γ1.set i (.val (.int (f n k))))) : dAug i f we Dd γ := ⟨n, g, q⟩
theorem i_if {wc : WT} (q : wc γ fun b γ1 => if b = true then w Dd γ1 else w' Dd γ1) : dIf wc w w' Dd γ := q
theorem i_ite {P P' : Prop} {p : Prop} [Decidable p] {inst : Decidable (decide p = true)} (h : p → P) (h' : ¬ p → P') : @ite Prop (decide p = true) inst P P' := by
  by_cases c : p
  · rw [if_pos (decide_eq_true c)]; exact h c
  · rw [if_neg (by rw [decide_eq_false c]; exact Bool.false_ne_true)]; exact h' c
theorem i_iteN {P P' : Prop} {p : Prop} [Decidable p] {inst : Decidable ((!decide p) = true)} (h : ¬ p → P) (h' : p → P') : @ite Prop ((!decide p) = true) inst P P' := by
  by_cases c : p
  · rw [if_neg (by rw [decide_eq_true c]; exact Bool.false_ne_true)]; exact h' c
  · rw [if_pos (by rw [decide_eq_false c]; rfl)]; exact h c
theorem i_iteB {P P' : Prop} {b : Bool} {inst : Decidable (b = true)} (h : b = true → P) (h' : b = false → P') : @ite Prop (b = true) inst P P' := by
  cases b with
  | true => rw [if_pos rfl]; exact h rfl
  | false => rw [if_neg Bool.false_ne_true]; exact h' rfl
theorem i_iteT {P P' : Prop} {inst : Decidable (true = true)} (h : P) : @ite Prop (true = true) inst P P' := by rw [if_pos rfl]; exact h
theorem i_iteF {P P' : Prop} {inst : Decidable (false = true)} (h : P') : @ite Prop (false = true) inst P P' := by rw [if_neg Bool.false_ne_true]; exact h
theorem i_callS {s : SpecD} (q : wA γ fun ds γ1 => s.S ds fun r => Q r.val γ1) : dCallS s wA γ Q := q
theorem i_callF {s : SpecD} (q : wA γ fun ds γ1 => s.S ds fun r => ∃ es, r = .f es ∧ QF es γ1) : dCallF s wA γ QF := q
theorem i_callP {mm : Bool} {s : SpecP} (g : γ[i]? = some (.own mm ds)) (q : wA γ fun ds γ1 => ∃ m pl, γ1[i]? = some (.own m pl) ∧ s.S pl ds fun r pl' => Q r.val (γ1.set i (.own m pl'))) : dCallP i s wA γ Q := ⟨⟨_, _, g⟩, q⟩
theorem i_callP2 {mm : Bool} {F : Bool → List D → Prop} (g : γ[i]? = some (.own mm ds)) (q : F mm ds) : ∃ m pl, γ[i]? = some (.own m pl) ∧ F m pl := ⟨mm, ds, g, q⟩
theorem i_rf {P : List D → Prop} (q : P ds) : ∃ es, Rv.f ds = .f es ∧ P es := ⟨ds, rfl, q⟩
theorem i_for {wi : WA} {wb : WS} (q : wi γ fun ds γ1 => ∃ I : Nat → List Sl → Prop, I 0 γ1 ∧ (∀ i d γ, ds[i]? = some d → I i γ → wg d γ fun γ2 => wb { Dd with nx := I (i + 1), ct := I (i + 1), bk := Dd.nx } γ2) ∧ ∀ γ, I ds.length γ → Dd.nx γ) : dFor wi wg wb Dd γ := q
theorem i_lc {wi : WA} {vs : List Nat} (q : wi γ fun ds γ1 => ds.length ≤ sizeLine ∧ (∀ v ∈ vs, ∀ s, γ1[v]? = some s → s = .any) ∧ ∃ I : Nat → List D → List Sl → Prop, I 0 [] γ1 ∧
  (∀ i acc γ d, ds[i]? = some d → I i acc γ → (∀ v ∈ vs, ∀ s, γ[v]? = some s → s = .any) ∧ wg d γ fun γ2 => wt γ2 fun b γ3 => if b = true then we γ3 fun y γ4 => I (i + 1) (acc ++ [y]) (wipeG γ4 vs) else I (i + 1) acc (wipeG γ3 vs)) ∧
  ∀ acc γ, I ds.length acc γ → (∀ v ∈ vs, ∀ s, γ[v]? = some s → s = .any) ∧ QF acc γ) : dLc wi wg wt we vs γ QF := q
def anyAt (γ : List Sl) : List Nat → Bool
  | [] => true
  | v :: vs => (match γ[v]? with | none => true | some .any => true | _ => false) && anyAt γ vs
theorem anyAt_ok : ∀ {vs : List Nat}, anyAt γ vs = true → ∀ v ∈ vs, ∀ s, γ[v]? = some s → s = .any
  | u :: us, h, v, hv, s, e => by
    unfold anyAt at h
    rcases List.mem_cons.mp hv with z | z
    · subst z
      rw [e] at h
      cases s <;> first | rfl | (simp at h)
    · have h2 : anyAt γ us = true := by
        cases q : anyAt γ us with
        | true => rfl
        | false => rw [q, Bool.and_false] at h; cases h
      exact anyAt_ok h2 v z s e
/-- a comprehension without tests whose items are what a function says -/
theorem i_map {items : List D} {vs : List Nat} (f : Nat → D → D) (hz : items.length ≤ 100000) (ha : anyAt γ vs = true)
    (h : ∀ (i : Nat) d, items[i]? = some d → ∀ R : D → List Sl → Prop, (∀ γ4, wipeG γ4 vs = γ → R (f i d) γ4) → wg d γ fun γ2 => we γ2 R) (q : QF (items.mapIdx f) γ) :
    items.length ≤ sizeLine ∧ (∀ v ∈ vs, ∀ s, γ[v]? = some s → s = .any) ∧ ∃ I : Nat → List D → List Sl → Prop, I 0 [] γ ∧
      (∀ i acc γ d, items[i]? = some d → I i acc γ → (∀ v ∈ vs, ∀ s, γ[v]? = some s → s = .any) ∧ wg d γ fun γ2 => dYes γ2 fun b γ3 => if b = true then we γ3 fun y γ4 => I (i + 1) (acc ++ [y]) (wipeG γ4 vs) else I (i + 1) acc (wipeG γ3 vs)) ∧
      ∀ acc γ, I items.length acc γ → (∀ v ∈ vs, ∀ s, γ[v]? = some s → s = .any) ∧ QF acc γ := by
  refine ⟨smallN hz, anyAt_ok ha, fun i acc γ' => γ' = γ ∧ acc = (items.mapIdx f).take i, ⟨rfl, rfl⟩, ?_, ?_⟩
  · rintro i acc γ' d hd ⟨rfl, rfl⟩
    refine ⟨anyAt_ok ha, ?_⟩
    refine h i d hd (fun y γ4 => wipeG γ4 vs = γ' ∧ (items.mapIdx f).take i ++ [y] = (items.mapIdx f).take (i + 1)) (fun γ4 e => ⟨e, ?_⟩)
    have e3 : (items.mapIdx f)[i]? = some (f i d) := by rw [List.getElem?_mapIdx, hd]; rfl
    rw [List.take_add_one, e3]
    rfl
  · rintro acc γ' ⟨rfl, rfl⟩
    refine ⟨anyAt_ok ha, ?_⟩
    rw [List.take_of_length_le (by rw [List.length_mapIdx]; exact Nat.le_refl _)]
    exact q
end
end DL
set_option Elab.async false
set_option linter.all false
set_option autoImplicit false
set_option maxRecDepth 100000
set_option maxHeartbeats 4000000
/-! DL8: defs of the script. -/
namespace DL
open PySem PySem.Spec PyProof.Rows L2
structure SpecS where
  S : List Int → (Rv → Prop) → Prop
  mono : ∀ ns P P', (∀ r, P r → P' r) → S ns P → S ns P'
def spS (K : PySem.W.Frag) (s : SpecS) : Sp := fun vs H Q _ => ∃ S a ns, vs = [.ref a] ∧ Same S H ∧ SqL K S a (ns.map V.int) ∧ s.S ns fun r => ∀ v S' H', Rel K ⟨H, S, [], []⟩ S' H' [] [] → RvOk ⟨H, S, [], []⟩ S' H' v r → Q v H'
section
variable {X : Cx} {K : PySem.W.Frag} {f : Addr} {fd : FuncData} {ps : List Str} {k : Nat} {x : Str} {e : Expr} {es : List Expr} {p pos : Pos}
def dCallScr (i : Nat) (s : SpecS) : WF := fun γ Q => ∃ ns, γ[i]? = some (.scr ns) ∧ s.S ns fun r => ∃ es, r = .f es ∧ Q es γ
theorem sf_callScr {i : Nat} {s : SpecS} : SF K (tCall (spS K s) [] E0 (tCons (tVar i) tNil)) (dCallScr i s) := by
  refine ⟨fun γ P P' k ⟨ns, g, q⟩ => ⟨ns, g, s.mono _ _ _ (fun r ⟨es, e, q⟩ => ⟨es, e, k _ _ q⟩) q⟩, fun B S H σ γ Q R ⟨ns, g, q⟩ => ?_⟩
  obtain ⟨a, f0, f1⟩ := R.sl i _ g
  refine ⟨_, f0, ?_⟩
  show spS K s ((.ref a :: []) ++ []) H Q E0
  rw [List.append_nil]
  refine ⟨S, a, ns, rfl, R.same, f1, s.mono _ _ _ (fun r ⟨es, e, q⟩ v S' H' C rv => ?_) q⟩
  subst e
  obtain ⟨b, xs, rfl, k1, k2, k3, k4⟩ := rv
  have k2' : H b = none := k2
  exact q b xs S' H' (R.call C) C.grow k1 (R.fresh0 k2') k3 k4 (R.noOwn k2')
theorem df_callScr (K' : PySem.W.Frag) (i : Nat) {s : SpecS} {y : Str} {py : Pos} (F : FnOk X.prog X.w X.K X.mg X.base CX0 k f fd ps (spS K' s)) (hr : Room k X.A) (hm : X.mg x = some (.ref f)) (hk : PySem.W.keepIn X.K (.ref f) = true) (hb : Binds X.K fd ps []) (hN : X.N[i]? = some y := by rfl) (hv : Vis X.env.scope y := by first | exact Or.inl rfl | exact Or.inr (Or.inl rfl) | exact Or.inr (Or.inr rfl)) (hd : (y == ("__debug__" : Str)) = false := by decide)
    (hcd : (y == ("__classdict__" : Str)) = false := by decide) (hg : Gl X x := by rfl)
    (hdb : (x == ("__debug__" : Str)) = false := by decide) (he : starEach (.Name y py :: []) X.env = (false, eval (.Name y py) X.env) :: starEach [] X.env := by rfl) (hpl : (backTo pos (starEach [] X.env)).any (·.1) = false := by rfl) (hK : X.K = K' := by rfl) : DF X (.Call (.Name x p) (.Name y py :: []) [] pos) (tCall (spS K' s) [] E0 (tCons (tVar i) tNil)) (dCallScr i s) := by
  subst hK
  exact ⟨pe_call F hr hg hm hk hb .nil pass0 (pa_cons (pe_var hN hv hd hcd) pa_nil he) hdb he hpl, sf_callScr⟩
theorem i_callScr {i : Nat} {γ : List Sl} {s : SpecS} {ns : List Int} {QF : List D → List Sl → Prop} (g : γ[i]? = some (.scr ns)) (q : s.S ns fun r => ∃ es, r = .f es ∧ QF es γ) : dCallScr i s γ QF := ⟨ns, g, q⟩
theorem i_slS {i : Nat} {γ : List Sl} {ns : List Int} {wl wh : WO} {QF : List D → List Sl → Prop} (g : γ[i]? = some (.scr ns)) (q : wl γ fun l γ2 => wh γ2 fun h γ3 => ∃ ns, γ3[i]? = some (.scr ns) ∧ QF (cutL (ns.map D.int) l h) γ3) : dSlS i wl wh γ QF := ⟨⟨ns, g⟩, q⟩
theorem i_scr2 {i : Nat} {γ : List Sl} {ns : List Int} {P : List Int → Prop} (g : γ[i]? = some (.scr ns)) (q : P ns) : ∃ ms, γ[i]? = some (.scr ms) ∧ P ms := ⟨ns, g, q⟩
end
def gamS (N : List Str) (ns : List Int) : List Sl := .scr ns :: List.replicate (N.length - 1) .any
section
variable {P : Program} {w : World} {K : PySem.W.Frag} {mg : Str → Option Value} {base : Heap} {x qual : Str} {st : Stmt} {f : Addr} {fd : FuncData} {N ps : List Str} {k : Nat}
theorem fn_okS {s : SpecS} (F : Fun K x qual st f fd) (Sc : FnScope N ps (defScope st)) (len : ps.length = 1)
    (hbody : ∀ (cdv : Value) (A : Around) (outer : List Env) (s0 : Shared) (H : Hp) (E : XK), Room k (A.deeper (envOfC qual (defScope st) s0.heap.objs.size f cdv)) →
      ∃ t w', DSs (cxOf CX0 P w K mg base N qual (defScope st) f cdv A outer s0 H E).nox (defBody st) t w' ∧ ∀ ns Q, s.S ns Q → w' { nx := fun _ => Q (.d .non), rt := fun r _ => Q r } (gamS N ns)) : FnOk P w K mg base CX0 (k + 1) f fd ps (spS K s) := by
  refine F.ok Sc (fun vs H Q E h => ?_) (fun cdv A outer s0 H vs Q E hr h => ?_)
  · obtain ⟨S, a, ns, rfl, _⟩ := h
    exact len.symm
  · obtain ⟨S, a, ns, rfl, e, hS, q⟩ := h
    obtain ⟨t, w', h1, h2⟩ := hbody cdv A outer s0 H E hr
    refine ⟨t, h1.ps, ?_⟩
    have own : ∀ (i : Nat) m es, (gamS N ns)[i]? ≠ some (.own m es) := fun i m es h => by
      unfold gamS at h
      cases i with
      | zero => cases h
      | succ i =>
        rw [List.getElem?_cons_succ, List.getElem?_replicate] at h
        split at h <;> cases h
    have R0 : Rel K ⟨H, S, [], []⟩ S H (L2.start N [.ref a]) (gamS N ns) := by
      refine ⟨e, fun a o h _ => h, fun a ha => (by cases ha), Same.refl S, fun a o h => .inl h, rfl.trans (by simp [gamS, L2.start]), fun i s h => ?_, fun i j p m m' es es' hij h => absurd h (own i _ _), fun p o hp => (by cases hp), fun p o hp => (by cases hp)⟩
      unfold gamS at h
      cases i with
      | zero => cases h; exact ⟨a, rfl, hS⟩
      | succ i =>
        rw [List.getElem?_cons_succ, List.getElem?_replicate] at h
        split at h
        · cases h; trivial
        · cases h
    exact h1.ss.run ⟨H, S, [], []⟩ S S H _ (gamS N ns) { nx := fun _ => _, rt := fun r _ => _ } _ R0 (Same.refl S) ⟨fun S' H' σ' γ' _ R q => q _ _ _ R.nil Den.non, fun S' H' σ' γ' v r _ R rv q => q v _ _ R.nil rv, fun S' H' σ' γ' _ R q => q.elim, fun S' H' σ' γ' _ R q => q.elim⟩ (h2 ns _ q)
end
/-- the law's promise: for at most 63 ints the answer is True -/
def specLaw : SpecS := ⟨fun ns Q => ns.length ≤ 63 ∧ Q (.d (.bl true)), fun ns P P' k q => ⟨q.1, k _ q.2⟩⟩
theorem law_sp {K : PySem.W.Frag} (H : Hp) (a : Addr) (ns : List Int) (hl : ns.length ≤ 63) (hS : SqL K H a (ns.map V.int)) : spS K specLaw [.ref a] H (fun v _ => v = .bl true) fun _ _ _ => False :=
  ⟨H, a, ns, rfl, Same.refl H, hS, hl, fun v S' H' _ rv => by cases rv; rfl⟩

/-! ### the pool of a law: the script's first cells, a place, a great number, a count, a seed -/
def PoolP (pl : List D) : Prop := ∃ (ns : List Int) (ix big cnt seed : Int), pl = [.lst (ns.map D.int), .int ix, .int big, .int cnt, .int seed] ∧ 0 ≤ ix ∧ 0 ≤ big ∧ 0 ≤ seed ∧ seed < 2147483629
def MayDiv (many : Int) : Prop := 0 < many ∧ many.natAbs.log2 < 9000
theorem MayDiv.of {n : Int} (h : 0 < n ∧ n < 18446744073709551616) : MayDiv n := ⟨h.1, (divS (m := 0) h).2⟩
def spec_L_draw : SpecP := SpecP.of (fun many : Int => [.int many]) PoolP MayDiv (fun many r => ∃ n, r = .d (.int n) ∧ 0 ≤ n ∧ n < many)
def tenE49 : Int := 10000000000000000000000000000000000000000000000000
def spec_L_number : SpecP := SpecP.of (fun _ : Unit => []) PoolP (fun _ => True) (fun _ r => ∃ n, r = .d (.int n) ∧ -tenE49 ≤ n ∧ n < tenE49)
def spec_L_pool : SpecS := ⟨fun ns Q => ns.length ≤ 63 ∧ ∀ pl, PoolP pl → Q (.f pl), fun ns P P' k q => ⟨q.1, fun pl h => k _ (q.2 pl h)⟩⟩
theorem draw_i {many : Int} {pl : List D} {P : Rv → List D → Prop} (hp : PoolP pl) (h : MayDiv many) (q : ∀ n pl', 0 ≤ n → n < many → PoolP pl' → P (.d (.int n)) pl') : spec_L_draw.S pl [.int many] P :=
  ⟨hp, many, rfl, h, fun r pl' ⟨n, e, h0, h1⟩ hp' => by subst e; exact q n pl' h0 h1 hp'⟩
theorem number_i {pl : List D} {P : Rv → List D → Prop} (hp : PoolP pl) (q : ∀ n pl', -tenE49 ≤ n → n < tenE49 → PoolP pl' → P (.d (.int n)) pl') : spec_L_number.S pl [] P :=
  ⟨hp, (), rfl, trivial, fun r pl' ⟨n, e, h0, h1⟩ hp' => by subst e; exact q n pl' h0 h1 hp'⟩
end DL
namespace DL
open PySem PySem.Spec PyProof.Rows L2
theorem atI_ex {α : Type} {xs : List α} {i : Int} (h0 : 0 ≤ i) (h : i < xs.length) : ∃ x, atI xs i = some x ∧ xs[i.toNat]? = some x := by
  have hj : i.toNat < xs.length := by omega
  have e := atI_nat (List.getElem?_eq_getElem hj)
  have ei : ((i.toNat : Nat) : Int) = i := by omega
  rw [ei] at e
  exact ⟨xs[i.toNat], e, List.getElem?_eq_getElem hj⟩
theorem atI_int {ns : List Int} {i : Int} (h0 : 0 ≤ i) (h : i < ns.length) : ∃ c, atI (ns.map D.int) i = some (.int c) ∧ ns[i.toNat]? = some c := by
  obtain ⟨x, e1, e2⟩ := atI_ex (xs := ns.map D.int) h0 (by rw [List.length_map]; exact h)
  rw [List.getElem?_map] at e2
  cases q : ns[i.toNat]? with
  | none => rw [q] at e2; cases e2
  | some c => rw [q] at e2; cases e2; exact ⟨c, e1, rfl⟩
end DL
namespace DL
open PySem PySem.Spec PyProof.Rows L2
/-- a comprehension whose tests all fail -/
theorem i_none {items : List D} {vs : List Nat} {γ : List Sl} {QF : List D → List Sl → Prop} {wg : WG} {wt : WT} {we : WE} (hz : items.length ≤ 100000) (ha : anyAt γ vs = true)
    (h : ∀ (i : Nat) d, items[i]? = some d → ∀ R : Bool → List Sl → Prop, (∀ γ4, wipeG γ4 vs = γ → R false γ4) → wg d γ fun γ2 => wt γ2 R) (q : QF [] γ) :
    items.length ≤ sizeLine ∧ (∀ v ∈ vs, ∀ s, γ[v]? = some s → s = .any) ∧ ∃ I : Nat → List D → List Sl → Prop, I 0 [] γ ∧
      (∀ i acc γ d, items[i]? = some d → I i acc γ → (∀ v ∈ vs, ∀ s, γ[v]? = some s → s = .any) ∧ wg d γ fun γ2 => wt γ2 fun b γ3 => if b = true then we γ3 fun y γ4 => I (i + 1) (acc ++ [y]) (wipeG γ4 vs) else I (i + 1) acc (wipeG γ3 vs)) ∧
      ∀ acc γ, I items.length acc γ → (∀ v ∈ vs, ∀ s, γ[v]? = some s → s = .any) ∧ QF acc γ := by
  refine ⟨smallN hz, anyAt_ok ha, fun i acc γ' => γ' = γ ∧ acc = [], ⟨rfl, rfl⟩, ?_, ?_⟩
  · rintro i acc γ' d hd ⟨rfl, rfl⟩
    exact ⟨anyAt_ok ha, h i d hd _ fun γ4 e => ⟨e, rfl⟩⟩
  · rintro acc γ' ⟨rfl, rfl⟩
    exact ⟨anyAt_ok ha, q⟩
theorem fn_none {P : Program} {w : World} {K : PySem.W.Frag} {mg : Str → Option Value} {base : Heap} {f : Addr} {fd : FuncData} {ps : List Str} {s : SpecD} (h : ∀ ds Q, ¬ s.S ds Q) : FnOk P w K mg base CX0 0 f fd ps (spV K s) := by
  have no : ∀ vs H Q E, ¬ spV K s vs H Q E := fun vs H Q E ⟨S, ds, _, _, q⟩ => h _ _ q
  exact ⟨fun vs H Q E h => absurd h (no vs H Q E), fun A outer s H args us vs Q E _ _ _ _ h => absurd h (no vs H Q E)⟩
/-- data less deep than n -/
def Dep : Nat → D → Prop
  | 0, _ => False
  | n + 1, .lst ds => ds.length ≤ 100000 ∧ ∀ d ∈ ds, Dep n d
  | n + 1, .tup ds => ds.length ≤ 100000 ∧ ∀ d ∈ ds, Dep n d
  | _ + 1, _ => True
theorem Dep.mono {n : Nat} : ∀ {d : D}, Dep n d → Dep (n + 1) d := by
  induction n with
  | zero => intro d h; cases h
  | succ n ih =>
    intro d h
    cases d with
    | lst ds => exact ⟨h.1, fun d hd => ih (h.2 d hd)⟩
    | tup ds => exact ⟨h.1, fun d hd => ih (h.2 d hd)⟩
    | _ => trivial
theorem Dep.le {n m : Nat} (h : n ≤ m) {d : D} (k : Dep n d) : Dep m d := by
  induction h with
  | refl => exact k
  | step _ ih => exact ih.mono
def spec_L_same (k : Nat) : SpecD := SpecD.of (fun d : D => [d, d]) (Dep k) (fun _ r => r = .d (.bl true))
end DL
namespace DL
open PySem PySem.Spec PyProof.Rows L2
theorem rngD_len (lo : Int) (n : Nat) : (rngD lo n).length = n := by simp [rngD]
theorem rngD_inv {lo : Int} {n i : Nat} {d : D} (h : (rngD lo n)[i]? = some d) : d = .int (lo + (i : Int)) ∧ i < n := by
  have hi : i < n := by
    have := (List.getElem?_eq_some_iff.mp h).1
    rwa [rngD_len] at this
  refine ⟨?_, hi⟩
  unfold rngD at h
  rw [List.getElem?_map, List.getElem?_range hi] at h
  exact (Option.some.inj h).symm
theorem rng0_inv {n i : Nat} {d : D} (h : (rngD 0 n)[i]? = some d) : d = .int (i : Int) ∧ i < n := by
  obtain ⟨e, hi⟩ := rngD_inv h
  rw [Int.zero_add] at e
  exact ⟨e, hi⟩
theorem atI_of {α : Type} {xs : List α} {i : Nat} {x : α} (h : xs[i]? = some x) : atI xs (i : Int) = some x := atI_nat h
end DL
set_option Elab.async false
set_option linter.all false
set_option autoImplicit false
set_option maxRecDepth 100000
set_option maxHeartbeats 4000000
/-! DL9: a list of one's own lent as a value; a walk over two new lists; comprehensions over ranges. -/
namespace DL
open PySem PySem.Spec PyProof.Rows L2
/-- the slots while the list in slot i is lent as a value: other lists of one's own are out of sight -/
def lentS : List Sl → List Sl
  | [] => []
  | .own _ _ :: γ => .any :: lentS γ
  | s :: γ => s :: lentS γ
def lent (i : Nat) (ds : List D) (γ : List Sl) : List Sl := (lentS γ).set i (.val (.lst ds))
theorem lentS_get : ∀ {γ : List Sl} {i : Nat} {s : Sl}, (lentS γ)[i]? = some s → s = .any ∨ (γ[i]? = some s ∧ ∀ m ds, s ≠ .own m ds)
  | [], i, s, h => by cases h
  | t :: γ, i, s, h => by
    cases i with
    | zero =>
      cases t with
      | own m ds => unfold lentS at h; cases h; exact .inl rfl
      | any => unfold lentS at h; cases h; exact .inl rfl
      | val d => unfold lentS at h; cases h; exact .inr ⟨rfl, fun m ds h => by cases h⟩
      | scr ns => unfold lentS at h; cases h; exact .inr ⟨rfl, fun m ds h => by cases h⟩
    | succ i =>
      have h' : (lentS γ)[i]? = some s := by cases t <;> (unfold lentS at h; exact h)
      exact lentS_get (i := i) h'
theorem lentS_len : ∀ {γ : List Sl}, (lentS γ).length = γ.length
  | [] => rfl
  | t :: γ => by cases t <;> (unfold lentS; rw [List.length_cons, List.length_cons, lentS_len])
section
variable {K : PySem.W.Frag} {B : Bs} {S H : Hp} {σ : L2.St} {γ : List Sl} {i : Nat} {ds : List D}
theorem Rel.lend (R : Rel K B S H σ γ) (g : γ[i]? = some (.own false ds)) : ∃ S', Same S S' ∧ Rel K ⟨H, S', [], []⟩ S' H σ (lent i ds γ) ∧
    ∀ S1 H1 γ1, Rel K ⟨H, S', [], []⟩ S1 H1 σ γ1 → Rel K B S H1 σ γ := by
  obtain ⟨p, xs, e1, e2, e3, e4, e5⟩ := R.sl i _ g
  have hS : Same S (upd S p (.lst xs)) := Same.upd (Same.refl S) e2
  refine ⟨upd S p (.lst xs), hS, ?_, fun S1 H1 γ1 C => ?_⟩
  · have own : ∀ (j : Nat) m es, (lent i ds γ)[j]? ≠ some (.own m es) := fun j m es h => by
      unfold lent at h
      by_cases hj : j = i
      · subst hj
        rw [List.getElem?_set_self (by rw [lentS_len]; exact R.lt g)] at h
        cases h
      · rw [List.getElem?_set_ne (fun z => hj z.symm)] at h
        rcases lentS_get h with z | ⟨_, z⟩
        · cases z
        · exact z _ _ rfl
    refine ⟨Same.updL R.same e3, fun a o h _ => h, fun a ha => (by cases ha), Same.refl _, fun a o h => .inl h, by unfold lent; rw [List.length_set, lentS_len]; exact R.len, fun j s h => ?_, fun j k q m m' es es' hjk h => absurd h (own j _ _), fun q o hq => (by cases hq), fun q o hq => (by cases hq)⟩
    unfold lent at h
    by_cases hj : j = i
    · subst hj
      rw [List.getElem?_set_self (by rw [lentS_len]; exact R.lt g)] at h
      cases h
      exact ⟨_, e1, .ofL upd_same (e4.mono hS)⟩
    · rw [List.getElem?_set_ne (fun z => hj z.symm)] at h
      rcases lentS_get h with z | ⟨h, z⟩
      · subst z; trivial
      · have q := R.sl j s h
        cases s with
        | any => trivial
        | val d => obtain ⟨v, f1, f2⟩ := q; exact ⟨v, f1, f2.mono hS⟩
        | own m es => exact absurd rfl (z m es)
        | scr ns => obtain ⟨a, f1, f2⟩ := q; exact ⟨a, f1, hS.seq f2⟩
  · have hk : ∀ a o, H a = some o → H1 a = some o := fun a o e => C.keep a o e (by intro z; cases z)
    refine ⟨fun a o e => hk a o (R.same a o e), fun a o e hm => hk a o (R.keep a o e hm), fun a ha => ?_, R.grow, R.ext, R.len, fun j s e => (R.sl j s e).mono (Same.refl S) (fun _ _ _ z => z) (fun q zs _ _ n => hk q _ n), R.sep, fun q o hq => ?_, R.frs⟩
    · obtain ⟨h1, h2, zs, h3⟩ := R.muk a ha
      exact ⟨h1, h2, zs, hk a _ h3⟩
    · obtain ⟨h1, h2, h3⟩ := R.frm q o hq
      exact ⟨hk q o h1, h2, h3⟩
end
/-- a datum without parts -/
def flat : D → Prop
  | .lst _ => False
  | .tup _ => False
  | _ => True
theorem Den.flat {S S' : Hp} {v : V} {d : D} (h : Den S v d) (f : flat d) : Den S' v d := by
  cases h with
  | non => exact .non
  | bl b => exact .bl b
  | int i => exact .int i
  | str s => exact .str s
  | lst h hl hs => cases f
  | tup h hl hs => cases f
section
variable {X : Cx} {K : PySem.W.Frag} {e : Expr} {te : TE} {we : WE} {tt : TT} {wt : WT}
/-- a test, the list in slot i lent -/
def dLendT (i : Nat) (wt : WT) : WT := fun γ Q => ∃ ds, γ[i]? = some (.own false ds) ∧ wt (lent i ds γ) fun b _ => Q b γ
theorem dt_lend (i : Nat) (h : DT X e tt wt) : DT X e tt (dLendT i wt) := by
  refine ⟨h.pt, fun γ P P' k ⟨ds, g, q⟩ => ⟨ds, g, h.st.mono _ _ _ (fun b γ1 q => k _ _ q) q⟩, fun B S H σ γ Q R ⟨ds, g, q⟩ => ?_⟩
  obtain ⟨S', e1, R1, back⟩ := R.lend g
  exact h.st.run _ S' H σ _ Q R1 (h.st.mono _ _ _ (fun b γ1 q S1 H1 C e2 => q S H1 (back _ _ _ C) (Same.refl S)) q)
/-- an expression whose value has no parts, the list in slot i lent -/
def dLend (i : Nat) (we : WE) : WE := fun γ Q => ∃ ds, γ[i]? = some (.own false ds) ∧ we (lent i ds γ) fun d _ => flat d ∧ Q d γ
theorem de_lend (i : Nat) (h : DE X e te we) : DE X e te (dLend i we) := by
  refine ⟨h.pe, fun γ P P' k ⟨ds, g, q⟩ => ⟨ds, g, h.se.mono _ _ _ (fun b γ1 q => ⟨q.1, k _ _ q.2⟩) q⟩, fun B S H σ γ Q R ⟨ds, g, q⟩ => ?_⟩
  obtain ⟨S', e1, R1, back⟩ := R.lend g
  exact h.se.run _ S' H σ _ Q R1 (h.se.mono _ _ _ (fun d γ1 ⟨f, q⟩ v S1 H1 C e2 dn => q v S H1 (back _ _ _ C) (Same.refl S) (dn.flat f)) q)
end
section
variable {K : PySem.W.Frag} {B : Bs} {S H : Hp} {σ : L2.St} {γ : List Sl}
/-- a new list kept in the frame -/
def Bs.fram (B : Bs) (p : Addr) (o : HO) : Bs := { B with fr := (p, o) :: B.fr }
theorem Rel.fram {p : Addr} {o : HO} (R : Rel K B S H σ γ) (h1 : H p = some o) (h2 : S p = none) (h3 : B.H0 p = none) (n : NoOwn B σ γ p) : Rel K (B.fram p o) S H σ γ :=
  ⟨R.same, R.keep, R.muk, R.grow, R.ext, R.len, fun i s e => by have := R.sl i s e; cases s <;> exact this, R.sep, fun q u hq => by
    rcases List.mem_cons.mp hq with z | z
    · cases z; exact ⟨h1, h2, h3⟩
    · exact R.frm q u z, fun q u hq i m ds e => by
    rcases List.mem_cons.mp hq with z | z
    · cases z; exact n.1 i m ds e
    · exact R.frs q u z i m ds e⟩
theorem Rel.unfram {p : Addr} {o : HO} (R : Rel K (B.fram p o) S H σ γ) : Rel K B S H σ γ ∧ H p = some o ∧ S p = none ∧ B.H0 p = none ∧ ∀ (i : Nat) m ds, γ[i]? = some (.own m ds) → σ[i]? ≠ some (some (.ref p)) := by
  have q := R.frm p o (List.mem_cons_self ..)
  exact ⟨⟨R.same, R.keep, R.muk, R.grow, R.ext, R.len, fun i s e => by have := R.sl i s e; cases s <;> exact this, R.sep, fun q u hq => R.frm q u (List.mem_cons_of_mem _ hq), fun q u hq => R.frs q u (List.mem_cons_of_mem _ hq)⟩, q.1, q.2.1, q.2.2, R.frs p o (List.mem_cons_self ..)⟩
end
/-! ### for x in [new list, new list] -/
def dForTwo (i : Nat) (wf wf' : WF) (wb : WS) : WS := fun Dd γ => wf γ fun ds γ1 => wf' γ1 fun es γ2 => ∃ M : List Sl → Prop,
  wb { Dd with nx := M, ct := M, bk := Dd.nx } (γ2.set i (.own false ds)) ∧ ∀ γ, M γ → wb { Dd with nx := Dd.nx, ct := Dd.nx, bk := Dd.nx } (γ.set i (.own false es))
theorem ss_forTwo {K : PySem.W.Frag} {i : Nat} {tf tf' : TE} {wf wf' : WF} {tb : TS} {wb : WS} (h : SF K tf wf) (h' : SF K tf' wf') (hb : SS K tb wb) : SS K (tFor (iList K (tLst (tCons tf (tCons tf' tNil)))) (gName i) tb) (dForTwo i wf wf' wb) := by
  refine ⟨fun B S0 S H σ γ Dd D R e L q => ?_⟩
  refine h.run B S H σ γ _ R (h.mono γ _ _ (fun ds γ1 q p1 xs1 S1 H1 R1 e1 a1 a2 a3 a4 a5 => ?_) q)
  have R1' := R1.fram a3 a1 a2 a5
  refine h'.run (B.fram p1 (.lst xs1)) S1 H1 σ γ1 _ R1' (h'.mono γ1 _ _ (fun es γ2 ⟨M, q1, q2⟩ p2 xs2 S2 H2 R2 e2 b1 b2 b3 b4 b5 => ?_) q)
  have ne : p1 ≠ p2 := fun z => b5.2 (.lst xs1) (by subst z; exact List.mem_cons_self ..)
  obtain ⟨R2', c1, c2, c3, c4⟩ := R2.unfram
  have n2 : NoOwn B σ γ2 p2 := ⟨b5.1, fun o ho => b5.2 o (List.mem_cons_of_mem _ ho)⟩
  have n1 : NoOwn B σ γ2 p1 := ⟨c4, a5.2⟩
  have R3 := R2'.fram b3 b1 b2 n2
  refine ⟨by show 2 ≤ sizeLine; decide, fun l hl => ?_⟩
  have R4 := R3.new (o := .lst [.ref p1, .ref p2]) hl
  have e4 : Same S2 (upd S2 l (.lst [.ref p1, .ref p2])) := Same.upd (Same.refl S2) (R3.freshS hl)
  have ln1 : p1 ≠ l := ne_of_none c1 hl
  have ln2 : p2 ≠ l := ne_of_none b3 hl
  have n1' : NoOwn (B.fram p2 (.lst xs2)) σ γ2 p1 := ⟨n1.1, fun o ho => by
    rcases List.mem_cons.mp ho with z | z
    · cases z; exact ne rfl
    · exact n1.2 o z⟩
  have R5 := R4.setOwn (i := i) (ds := ds) (xs := xs1) (by rw [upd_ne ln1]; exact c2) c3 (by rw [upd_ne ln1]; exact c1) ((a4.mono e2).mono e4) n1'
  have e04 : Same S0 (upd S2 l (.lst [.ref p1, .ref p2])) := e.trans (e1.trans (e2.trans e4))
  have sq : ∀ {S' H'}, Rel K (B.fram p2 (.lst xs2)) S' H' σ γ2 → True := fun _ => trivial
  refine ⟨l, rfl, ⟨[.ref p1, .ref p2], SqL.of upd_same⟩, ?_⟩
  let S4 := upd S2 l (.lst [.ref p1, .ref p2])
  have hl4 : S4 l = some (.lst [.ref p1, .ref p2]) := upd_same
  refine ⟨fun k m σ' H' => (k = 0 ∧ m = 2 ∧ σ' = σ ∧ H' = upd H2 l (.lst [.ref p1, .ref p2])) ∨ (k = 1 ∧ m = 1 ∧ ∃ S6 γ6, Same S4 S6 ∧ Rel K (B.fram p2 (.lst xs2)) S6 H' σ' γ6 ∧ M γ6) ∨ (k = 2 ∧ m = 0 ∧ ∃ S6 γ6, Same S4 S6 ∧ Rel K B S6 H' σ' γ6 ∧ Dd.nx γ6), ⟨2, .inl ⟨rfl, rfl, rfl, rfl⟩⟩, ?_⟩
  rintro k m σ' H' (⟨rfl, rfl, rfl, rfl⟩ | ⟨rfl, rfl, S6, γ6, e6, R6, hM⟩ | ⟨rfl, rfl, S6, γ6, e6, R6, hn⟩)
  · refine .inr ⟨⟨_, .ref p1, SqL.of (R4.same _ _ upd_same), rfl⟩, fun σ' H' => ∃ S6 γ6, Same S4 S6 ∧ Rel K (B.fram p2 (.lst xs2)) S6 H' σ' γ6 ∧ M γ6, fun σ' H' q => ⟨1, by decide, .inr (.inl ⟨rfl, rfl, q⟩)⟩, fun x H' y => ?_⟩
    obtain ⟨y1, y2⟩ := y
    have y3 := y2 _ (SqL.of (R4.same _ _ upd_same))
    cases y3
    subst y1
    exact hb.run _ S4 S4 _ _ _ { Dd with nx := M, ct := M, bk := Dd.nx } _ R5 (Same.refl S4) ⟨fun S7 H7 σ7 γ7 k7 R7 q => ⟨S7, γ7, k7, R7, q⟩, fun S7 H7 σ7 γ7 v r k7 R7 rv q => L.rt S7 H7 σ7 γ7 v r (e04.trans k7) R7.unfram.1 (by cases r <;> exact rv) q, fun S7 H7 σ7 γ7 k7 R7 q => L.nx S7 H7 σ7 γ7 (e04.trans k7) R7.unfram.1 q, fun S7 H7 σ7 γ7 k7 R7 q => ⟨S7, γ7, k7, R7, q⟩⟩ q1
  · obtain ⟨R7, d1, d2, d3, d4⟩ := R6.unfram
    have hf : (p2, HO.lst xs2) ∈ (B.fram p2 (.lst xs2)).fr := List.mem_cons_self ..
    refine .inr ⟨⟨_, .ref p2, SqL.of (R7.same _ _ (e6 _ _ hl4)), rfl⟩, fun σ' H' => ∃ S6 γ6, Same S4 S6 ∧ Rel K B S6 H' σ' γ6 ∧ Dd.nx γ6, fun σ' H' q => ⟨0, by decide, .inr (.inr ⟨rfl, rfl, q⟩)⟩, fun x H'' y => ?_⟩
    obtain ⟨y1, y2⟩ := y
    have y3 := y2 _ (SqL.of (R7.same _ _ (e6 _ _ hl4)))
    cases y3
    subst y1
    have n3 : NoOwn B σ' γ6 p2 := ⟨d4, n2.2⟩
    have R8 := R7.setOwn (i := i) (ds := es) (xs := xs2) d2 d3 d1 ((b4.mono e4).mono e6) n3
    have e06 := e04.trans e6
    exact hb.run _ S6 S6 _ _ _ { Dd with nx := Dd.nx, ct := Dd.nx, bk := Dd.nx } _ R8 (Same.refl S6) ⟨fun S9 H9 σ9 γ9 k9 R9 q => ⟨S9, γ9, e6.trans k9, R9, q⟩, fun S9 H9 σ9 γ9 v r k9 R9 rv q => L.rt S9 H9 σ9 γ9 v r (e06.trans k9) R9 rv q, fun S9 H9 σ9 γ9 k9 R9 q => L.nx S9 H9 σ9 γ9 (e06.trans k9) R9 q, fun S9 H9 σ9 γ9 k9 R9 q => ⟨S9, γ9, e6.trans k9, R9, q⟩⟩ (q2 _ hM)
  · exact .inl ⟨⟨_, SqL.of (R6.same _ _ (e6 _ _ hl4)), Nat.le_refl 2⟩, L.nx S6 H' σ' γ6 (e04.trans e6) R6 hn⟩
section
variable {X : Cx} {a b : Expr} {tf tf' : TE} {wf wf' : WF} {tb : TS} {wb : WS} {body : List Stmt} {pos pl : Pos}
theorem ds_forTwo (K' : PySem.W.Frag) {i : Nat} {x : Str} {px : Pos} (hp : PassesOwn (model X.prog X.w) X.A X.env X.xe) (hc : X.calm = true) (hN : X.N.Nodup) (h : DF X a tf wf) (h' : DF X b tf' wf') (hb : DSs X body tb wb) (hi : X.N[i]? = some x := by rfl) (hx : Loc X.env.scope x := by first | exact Or.inl rfl | exact Or.inr rfl)
    (hf : X.fn x = true ∨ X.env.scope.names.lookup x = some .local := by first | exact .inl rfl | exact .inr rfl | assumption)
    (he1 : starEach (a :: [b]) X.env = (false, eval a X.env) :: starEach [b] X.env := by rfl) (he2 : starEach (b :: []) X.env = (false, eval b X.env) :: starEach [] X.env := by rfl)
    (hs : ∀ y, foldedSetIterable (.List [a, b] pl) X.env y = pure y := by intro _; rfl) (hK : X.K = K' := by rfl) : DS X (.For (.Name x px) (.List [a, b] pl) body [] pos) (tFor (iList K' (tLst (tCons tf (tCons tf' tNil)))) (gName i) tb) (dForTwo i wf wf' wb) := by
  subst hK
  have pe : PE X (.List [a, b] pl) (tLst (tCons tf (tCons tf' tNil))) := (df_lst (da_cons h.v (da_cons h'.v da_nil he2) he1)).pe
  exact ⟨ps_for hp hc (pi_list pe) (dg_name (i := i) hN (hi := hi) (hx := hx) (hf := hf)).pg hb.ps hs, ss_forTwo h.sf h'.sf hb.ss⟩
end
/-! ### stepping -/
section
variable {γ : List Sl} {i : Nat} {ds : List D} {we : WE} {wt : WT} {Q : D → List Sl → Prop} {QT : Bool → List Sl → Prop} {QF : List D → List Sl → Prop} {wf wf' : WF} {wb : WS} {Dd : EndsD} {wg : WG}
theorem i_lendT (g : γ[i]? = some (.own false ds)) (q : wt (lent i ds γ) fun b _ => QT b γ) : dLendT i wt γ QT := ⟨ds, g, q⟩
theorem i_lend (g : γ[i]? = some (.own false ds)) (q : we (lent i ds γ) fun d _ => flat d ∧ Q d γ) : dLend i we γ Q := ⟨ds, g, q⟩
theorem i_forTwo (q : wf γ fun ds γ1 => wf' γ1 fun es γ2 => ∃ M : List Sl → Prop, wb { Dd with nx := M, ct := M, bk := Dd.nx } (γ2.set i (.own false ds)) ∧ ∀ γ, M γ → wb { Dd with nx := Dd.nx, ct := Dd.nx, bk := Dd.nx } (γ.set i (.own false es))) : dForTwo i wf wf' wb Dd γ := q
theorem i_flb {b : Bool} {P : Prop} (q : P) : flat (.bl b) ∧ P := ⟨trivial, q⟩
theorem i_fli {n : Int} {P : Prop} (q : P) : flat (.int n) ∧ P := ⟨trivial, q⟩
theorem i_fln {P : Prop} (q : P) : flat .non ∧ P := ⟨trivial, q⟩
/-- a comprehension over a range that changes nothing -/
theorem i_mapR {n : Int} {vs : List Nat} (g : Nat → D) (hz : n ≤ 100000) (ha : anyAt γ vs = true)
    (h : ∀ (i : Nat), (i : Int) < n → ∀ R : D → List Sl → Prop, (∀ γ4, wipeG γ4 vs = γ → R (g i) γ4) → wg (.int (i : Int)) γ fun γ2 => we γ2 R) (q : QF ((List.range n.toNat).map g) γ) :
    (rngD 0 n.toNat).length ≤ sizeLine ∧ (∀ v ∈ vs, ∀ s, γ[v]? = some s → s = .any) ∧ ∃ I : Nat → List D → List Sl → Prop, I 0 [] γ ∧
      (∀ i acc γ d, (rngD 0 n.toNat)[i]? = some d → I i acc γ → (∀ v ∈ vs, ∀ s, γ[v]? = some s → s = .any) ∧ wg d γ fun γ2 => dYes γ2 fun b γ3 => if b = true then we γ3 fun y γ4 => I (i + 1) (acc ++ [y]) (wipeG γ4 vs) else I (i + 1) acc (wipeG γ3 vs)) ∧
      ∀ acc γ, I (rngD 0 n.toNat).length acc γ → (∀ v ∈ vs, ∀ s, γ[v]? = some s → s = .any) ∧ QF acc γ := by
  refine ⟨by rw [rngD_len]; exact smallN (by omega), anyAt_ok ha, fun i acc γ' => γ' = γ ∧ acc = (List.range i).map g, ⟨rfl, rfl⟩, ?_, ?_⟩
  · rintro i acc γ' d hd ⟨rfl, rfl⟩
    obtain ⟨rfl, hi⟩ := rng0_inv hd
    refine ⟨anyAt_ok ha, ?_⟩
    refine h i (by omega) (fun y γ4 => wipeG γ4 vs = γ' ∧ (List.range i).map g ++ [y] = (List.range (i + 1)).map g) (fun γ4 e => ⟨e, ?_⟩)
    rw [List.range_succ, List.map_append]
    rfl
  · rintro acc γ' ⟨rfl, rfl⟩
    refine ⟨anyAt_ok ha, ?_⟩
    rw [rngD_len]
    exact q
/-- a comprehension over a range that changes the slots -/
theorem i_mapJ {n : Int} {vs : List Nat} (J : Nat → List D → List Sl → Prop) (hz : n ≤ 100000) (h0 : J 0 [] γ) (ha : ∀ i acc γ', J i acc γ' → anyAt γ' vs = true)
    (h : ∀ (i : Nat) acc γ', (i : Int) < n → J i acc γ' → wg (.int (i : Int)) γ' fun γ2 => we γ2 fun y γ4 => J (i + 1) (acc ++ [y]) (wipeG γ4 vs)) (q : ∀ acc γ', J n.toNat acc γ' → QF acc γ') :
    (rngD 0 n.toNat).length ≤ sizeLine ∧ (∀ v ∈ vs, ∀ s, γ[v]? = some s → s = .any) ∧ ∃ I : Nat → List D → List Sl → Prop, I 0 [] γ ∧
      (∀ i acc γ d, (rngD 0 n.toNat)[i]? = some d → I i acc γ → (∀ v ∈ vs, ∀ s, γ[v]? = some s → s = .any) ∧ wg d γ fun γ2 => dYes γ2 fun b γ3 => if b = true then we γ3 fun y γ4 => I (i + 1) (acc ++ [y]) (wipeG γ4 vs) else I (i + 1) acc (wipeG γ3 vs)) ∧
      ∀ acc γ, I (rngD 0 n.toNat).length acc γ → (∀ v ∈ vs, ∀ s, γ[v]? = some s → s = .any) ∧ QF acc γ := by
  refine ⟨by rw [rngD_len]; exact smallN (by omega), anyAt_ok (ha _ _ _ h0), J, h0, ?_, ?_⟩
  · intro i acc γ' d hd hJ
    obtain ⟨rfl, hi⟩ := rng0_inv hd
    exact ⟨anyAt_ok (ha _ _ _ hJ), h i acc γ' (by omega) hJ⟩
  · intro acc γ' hJ
    rw [rngD_len] at hJ
    exact ⟨anyAt_ok (ha _ _ _ hJ), q acc γ' hJ⟩
end
end DL
set_option Elab.async false
set_option linter.all false
set_option autoImplicit false
set_option maxRecDepth 100000
set_option maxHeartbeats 4000000
/-! DL10: lists told by their places. -/
namespace DL
open PySem PySem.Spec PyProof.Rows L2
/-- the list of n items told by f -/
abbrev dLs (n : Nat) (f : Nat → D) : List D := (List.range n).map f
theorem dLs_len {n : Nat} {f : Nat → D} : (dLs n f).length = n := by simp
theorem dLs_get {n : Nat} {f : Nat → D} {i : Nat} (h : i < n) : (dLs n f)[i]? = some (f i) := by
  unfold dLs
  rw [List.getElem?_map, List.getElem?_range h]
  rfl
theorem dLs_inv {n : Nat} {f : Nat → D} {i : Nat} {d : D} (h : (dLs n f)[i]? = some d) : d = f i ∧ i < n := by
  have hi : i < n := by
    have := (List.getElem?_eq_some_iff.mp h).1
    rwa [dLs_len] at this
  rw [dLs_get hi] at h
  exact ⟨(Option.some.inj h).symm, hi⟩
theorem dLs_at {n : Nat} {f : Nat → D} {i : Nat} (h : i < n) : atI (dLs n f) (i : Int) = some (f i) := atI_of (dLs_get h)
theorem dLs_rng (n : Nat) : rngD 0 n = dLs n fun i => .int (i : Int) := by
  unfold rngD dLs
  apply List.map_congr_left
  intro i _
  rw [Int.zero_add]
theorem dLs_enum {n : Nat} {f : Nat → D} : enumD (dLs n f) = dLs n fun i => .tup [.int (i : Int), f i] := by
  apply List.ext_getElem?
  intro i
  by_cases h : i < n
  · rw [dLs_get h, enumD_get (dLs_get h)]
  · rw [List.getElem?_eq_none (by rw [enumD_len, dLs_len]; omega), List.getElem?_eq_none (by rw [dLs_len]; omega)]
theorem dLs_zip {n : Nat} {f g : Nat → D} : zipD (dLs n f) (dLs n g) = dLs n fun i => .tup [f i, g i] := by
  apply List.ext_getElem?
  intro i
  unfold zipD
  by_cases h : i < n
  · rw [dLs_get h, List.getElem?_zipWith, dLs_get h, dLs_get h]
  · rw [List.getElem?_zipWith, List.getElem?_eq_none (by rw [dLs_len]; omega), List.getElem?_eq_none (by rw [dLs_len]; omega), List.getElem?_eq_none (by rw [dLs_len]; omega)]
theorem dLs_snoc {n : Nat} {f : Nat → D} : dLs n f ++ [f n] = dLs (n + 1) f := by
  unfold dLs
  rw [List.range_succ, List.map_append]
  rfl
theorem dLs_add {m n : Nat} {f : Nat → D} : dLs m f ++ dLs n (fun i => f (m + i)) = dLs (m + n) f := by
  induction n with
  | zero => simp
  | succ n ih =>
    rw [← dLs_snoc, ← List.append_assoc, ih]
    exact dLs_snoc
theorem dLs_congr {n : Nat} {f g : Nat → D} (h : ∀ i, i < n → f i = g i) : dLs n f = dLs n g := List.map_congr_left fun i hi => h i (List.mem_range.mp hi)
/-- a row of a list told by places -/
theorem cut_row {n w i : Nat} {f : Nat → D} (h : w * i + w ≤ n) : cutL (dLs n f) (some ((w : Int) * (i : Int))) (some ((w : Int) * (i : Int) + (w : Int))) = dLs w fun k => f (w * i + k) := by
  have e1 : ((w : Int) * (i : Int)) = ((w * i : Nat) : Int) := by omega
  have e2 : ((w : Int) * (i : Int) + (w : Int)) = ((w * i + w : Nat) : Int) := by omega
  unfold cutL
  rw [e1, show (((w * i : Nat) : Int) + (w : Int)) = ((w * i + w : Nat) : Int) by omega, HT.sIx_nat, HT.sIx_nat, dLs_len, Nat.min_eq_left (by omega), Nat.min_eq_left (by omega)]
  apply List.ext_getElem?
  intro k
  rw [List.getElem?_take]
  by_cases hk : k < w
  · rw [if_pos (by omega), List.getElem?_drop, dLs_get (by omega), dLs_get hk]
  · rw [if_neg (by omega), List.getElem?_eq_none (by rw [dLs_len]; omega)]
section
variable {γ : List Sl} {we : WE} {QF : List D → List Sl → Prop} {wg : WG} {R : D → Prop}
/-- a comprehension that changes nothing, over items told by places -/
theorem i_mapN {n : Nat} {items : List D} {vs : List Nat} (it : Nat → D) (g : Nat → D) (he : items = dLs n it) (hz : n ≤ 100000) (ha : anyAt γ vs = true)
    (h : ∀ (i : Nat), i < n → ∀ R : D → List Sl → Prop, (∀ γ4, wipeG γ4 vs = γ → R (g i) γ4) → wg (it i) γ fun γ2 => we γ2 R) (q : QF (dLs n g) γ) :
    items.length ≤ sizeLine ∧ (∀ v ∈ vs, ∀ s, γ[v]? = some s → s = .any) ∧ ∃ I : Nat → List D → List Sl → Prop, I 0 [] γ ∧
      (∀ i acc γ d, items[i]? = some d → I i acc γ → (∀ v ∈ vs, ∀ s, γ[v]? = some s → s = .any) ∧ wg d γ fun γ2 => dYes γ2 fun b γ3 => if b = true then we γ3 fun y γ4 => I (i + 1) (acc ++ [y]) (wipeG γ4 vs) else I (i + 1) acc (wipeG γ3 vs)) ∧
      ∀ acc γ, I items.length acc γ → (∀ v ∈ vs, ∀ s, γ[v]? = some s → s = .any) ∧ QF acc γ := by
  subst he
  refine ⟨by rw [dLs_len]; exact smallN (by omega), anyAt_ok ha, fun i acc γ' => γ' = γ ∧ acc = dLs i g, ⟨rfl, rfl⟩, ?_, ?_⟩
  · rintro i acc γ' d hd ⟨rfl, rfl⟩
    obtain ⟨rfl, hi⟩ := dLs_inv hd
    refine ⟨anyAt_ok ha, ?_⟩
    exact h i (by omega) (fun y γ4 => wipeG γ4 vs = γ' ∧ dLs i g ++ [y] = dLs (i + 1) g) (fun γ4 e => ⟨e, dLs_snoc⟩)
  · rintro acc γ' ⟨rfl, rfl⟩
    refine ⟨anyAt_ok ha, ?_⟩
    rw [dLs_len]
    exact q
theorem i_sumN {n : Nat} {f : Nat → Int} (q : R (.int ((List.range n).map f).sum)) : sumD [.lst (dLs n fun i => .int (f i))] R := by
  refine ⟨(List.range n).map f, ?_, q⟩
  rw [List.map_map]
  rfl
theorem i_szL {ds : List D} {Q : Prop} (h : ds.length < 100000) (q : Q) : ds.length < sizeLine ∧ Q := ⟨smallL h, q⟩
theorem i_szE {ds es : List D} {Q : Prop} (h : ds.length + es.length ≤ 100000) (q : Q) : ds.length + es.length ≤ sizeLine ∧ Q := ⟨smallN h, q⟩
theorem i_allN {n : Nat} {f : Nat → Bool} (q : R (.bl (((List.range n).map f).all id))) : allD [.lst (dLs n fun i => .bl (f i))] R := by
  refine ⟨(List.range n).map f, ?_, q⟩
  rw [List.map_map]
  rfl
theorem i_anyN {n : Nat} {f : Nat → Bool} (q : R (.bl (((List.range n).map f).any id))) : anyD [.lst (dLs n fun i => .bl (f i))] R := by
  refine ⟨(List.range n).map f, ?_, q⟩
  rw [List.map_map]
  rfl
end
end DL
namespace DL
open PySem PySem.Spec PyProof.Rows L2
theorem fun_of {K : PySem.W.Frag} {x q : Str} {st : Stmt} {f : Addr} {fd : FuncData} (F : FunD K x q (defArgs st) (defBody st) (defScope st) [] [] f fd) : Fun K x q st f fd := by
  obtain ⟨oc, od, dV, kV, doc, pm, an, cdv, ct, osl, rfl, lk, hcd, hD, _⟩ := F.ex
  rcases hD with ⟨_, rfl⟩ | ⟨e, _⟩
  · exact ⟨⟨oc, od, kV, doc, pm, an, cdv, ct, osl, rfl, lk, hcd⟩, F.kp⟩
  · exact absurd rfl e
end DL
set_option Elab.async false
set_option linter.all false
set_option autoImplicit false
set_option maxRecDepth 100000
set_option maxHeartbeats 4000000
namespace Kx
open PySem PySem.Spec PyProof.Rows L2 DL
structure Blt (mg : Str → Option Value) : Prop where
  range : mg "range" = none
  enumerate : mg "enumerate" = none
  zip : mg "zip" = none
  sum : mg "sum" = none
  len : mg "len" = none
  int : mg "int" = none
  list : mg "list" = none
  isinstance : mg "isinstance" = none
  bool : mg "bool" = none
  str : mg "str" = none
  tuple : mg "tuple" = none
set_option autoImplicit false
namespace Mx
def sumTo (f : Nat → Int) : Nat → Int
  | 0 => 0
  | n + 1 => sumTo f n + f n
theorem sumTo_list (f : Nat → Int) : ∀ n, ((List.range n).map f).sum = sumTo f n
  | 0 => rfl
  | n + 1 => by
    rw [List.range_succ, List.map_append, List.sum_append, sumTo_list f n]
    simp [sumTo]
theorem sumTo_congr {f g : Nat → Int} : ∀ {n : Nat}, (∀ k, k < n → f k = g k) → sumTo f n = sumTo g n
  | 0, _ => rfl
  | n + 1, h => by rw [sumTo, sumTo, sumTo_congr (fun k hk => h k (by omega)), h n (by omega)]
theorem sumTo_zero : ∀ n, sumTo (fun _ => 0) n = 0
  | 0 => rfl
  | n + 1 => by rw [sumTo, sumTo_zero n]; rfl
theorem sumTo_add (f g : Nat → Int) : ∀ n, sumTo (fun k => f k + g k) n = sumTo f n + sumTo g n
  | 0 => rfl
  | n + 1 => by rw [sumTo, sumTo, sumTo, sumTo_add f g n]; omega
theorem sumTo_mul (c : Int) (f : Nat → Int) : ∀ n, sumTo (fun k => c * f k) n = c * sumTo f n
  | 0 => by simp [sumTo]
  | n + 1 => by rw [sumTo, sumTo, sumTo_mul c f n, Int.mul_add]
theorem sumTo_mulR (c : Int) (f : Nat → Int) : ∀ n, sumTo (fun k => f k * c) n = sumTo f n * c
  | 0 => by simp [sumTo]
  | n + 1 => by rw [sumTo, sumTo, sumTo_mulR c f n, Int.add_mul]
theorem sumTo_swap (f : Nat → Nat → Int) (m : Nat) : ∀ n, sumTo (fun i => sumTo (f i) m) n = sumTo (fun j => sumTo (fun i => f i j) n) m
  | 0 => by rw [sumTo]; exact (sumTo_zero m).symm
  | n + 1 => by
    rw [sumTo, sumTo_swap f m n, ← sumTo_add]
    exact sumTo_congr fun k _ => rfl
theorem sumTo_one {f : Nat → Int} {j : Nat} : ∀ {n : Nat}, j < n → (∀ k, k < n → k ≠ j → f k = 0) → sumTo f n = f j
  | n + 1, hj, h => by
    rw [sumTo]
    by_cases e : j = n
    · subst e
      rw [sumTo_congr (g := fun _ => 0) (fun k hk => h k (by omega) (by omega)), sumTo_zero]
      omega
    · rw [sumTo_one (by omega) (fun k hk => h k (by omega)), h n (by omega) (by omega)]
      omega
theorem sumTo_bd {f : Nat → Int} {b : Nat} : ∀ {n : Nat}, (∀ k, k < n → (f k).natAbs ≤ b) → (sumTo f n).natAbs ≤ n * b
  | 0, _ => by simp [sumTo]
  | n + 1, h => by
    rw [sumTo]
    have h1 := sumTo_bd (n := n) fun k hk => h k (by omega)
    have h2 := h n (by omega)
    have h3 := Int.natAbs_add_le (sumTo f n) (f n)
    rw [Nat.add_mul]
    omega
def ent (m : List Int) (i : Nat) : Int := m.getD i 0
theorem ent_rng {n : Nat} {f : Nat → Int} {i : Nat} (h : i < n) : ent ((List.range n).map f) i = f i := by
  unfold ent
  rw [List.getD_eq_getElem?_getD, List.getElem?_map, List.getElem?_range h]
  rfl
theorem rng_ent (m : List Int) : (List.range m.length).map (ent m) = m := by
  apply List.ext_getElem?
  intro i
  rw [List.getElem?_map]
  by_cases h : i < m.length
  · rw [List.getElem?_range h, List.getElem?_eq_getElem h]
    show some (ent m i) = _
    unfold ent
    rw [List.getD_eq_getElem?_getD, List.getElem?_eq_getElem h]
    rfl
  · rw [List.getElem?_eq_none (by rw [List.length_range]; omega), List.getElem?_eq_none (by omega)]
    rfl
def Bd (k : Nat) (xs : List Int) : Prop := ∀ x ∈ xs, x.natAbs < 2 ^ k
theorem Bd.ent {k : Nat} {xs : List Int} (h : Bd k xs) (i : Nat) : (ent xs i).natAbs < 2 ^ k := by
  unfold Mx.ent
  rw [List.getD_eq_getElem?_getD]
  cases q : xs[i]? with
  | none => exact Nat.pow_pos (by decide)
  | some x => exact h x (List.mem_of_getElem? q)
theorem Bd.le {j k : Nat} {xs : List Int} (h : Bd j xs) (hk : j ≤ k) : Bd k xs := fun x hx => Nat.lt_of_lt_of_le (h x hx) (Nat.pow_le_pow_right (by decide) hk)
def mulA (w : Nat) (one other : List Int) (i n j : Nat) : Int := sumTo (fun k => ent other (w * i + k) * ent one (w * k + j)) n
def mulL (w : Nat) (one other : List Int) : List Int := (List.range (w * w)).map fun t => mulA w one other (t / w) w (t % w)
def imgA (w : Nat) (m v : List Int) (i n : Nat) : Int := sumTo (fun j => ent m (w * i + j) * ent v j) n
def imgL (w : Nat) (m v : List Int) : List Int := (List.range w).map fun i => imgA w m v i w
def unitL (w : Nat) : List Int := (List.range (w * w)).map fun t => if t % (w + 1) = 0 then 1 else 0
theorem mulL_len {w : Nat} {a b : List Int} : (mulL w a b).length = w * w := by simp [mulL]
theorem imgL_len {w : Nat} {a b : List Int} : (imgL w a b).length = w := by simp [imgL]
theorem unitL_len {w : Nat} : (unitL w).length = w * w := by simp [unitL]
theorem at_lt {w i j : Nat} (hi : i < w) (hj : j < w) : w * i + j < w * w := by
  have : w * i + w ≤ w * w := by
    have := Nat.mul_le_mul_left w (show i + 1 ≤ w from hi)
    rwa [Nat.mul_add, Nat.mul_one] at this
  omega
theorem at_div {w i j : Nat} (hj : j < w) : (w * i + j) / w = i := by
  rw [Nat.mul_add_div (by omega), Nat.div_eq_of_lt hj]; omega
theorem at_mod {w i j : Nat} (hj : j < w) : (w * i + j) % w = j := by
  rw [Nat.mul_add_mod, Nat.mod_eq_of_lt hj]
theorem mulL_at {w i j : Nat} {a b : List Int} (hi : i < w) (hj : j < w) : ent (mulL w a b) (w * i + j) = mulA w a b i w j := by
  unfold mulL
  rw [ent_rng (at_lt hi hj), at_div hj, at_mod hj]
theorem imgL_at {w i : Nat} {a v : List Int} (hi : i < w) : ent (imgL w a v) i = imgA w a v i w := ent_rng hi
theorem unitL_at {w i j : Nat} (hi : i < w) (hj : j < w) : ent (unitL w) (w * i + j) = if i = j then 1 else 0 := by
  unfold unitL
  rw [ent_rng (at_lt hi hj)]
  by_cases h : i ≤ j
  · have e : w * i + j = (w + 1) * i + (j - i) := by rw [Nat.add_mul]; omega
    rw [e, Nat.mul_add_mod, Nat.mod_eq_of_lt (by omega)]
    by_cases q : i = j
    · rw [if_pos q, if_pos (by omega)]
    · rw [if_neg q, if_neg (by omega)]
  · obtain ⟨k, rfl⟩ : ∃ k, i = k + 1 := ⟨i - 1, by omega⟩
    have e : w * (k + 1) + j = (w + 1) * k + (w + j - k) := by rw [Nat.add_mul, Nat.mul_add]; omega
    rw [e, Nat.mul_add_mod, Nat.mod_eq_of_lt (by omega), if_neg (by omega), if_neg (by omega)]
theorem sq_ext {w : Nat} {f g : Nat → Int} (h : ∀ i j, i < w → j < w → f (w * i + j) = g (w * i + j)) : (List.range (w * w)).map f = (List.range (w * w)).map g := by
  apply List.map_congr_left
  intro t ht
  have ht' : t < w * w := List.mem_range.mp ht
  have hw : 0 < w := by
    cases w with
    | zero => simp at ht'
    | succ w => omega
  have h1 : t / w < w := Nat.div_lt_of_lt_mul ht'
  have h2 : t % w < w := Nat.mod_lt _ hw
  have e : w * (t / w) + t % w = t := Nat.div_add_mod t w
  have := h _ _ h1 h2
  rwa [e] at this
theorem mul_assoc3 (w : Nat) (a b c : List Int) : mulL w (mulL w a b) c = mulL w a (mulL w b c) := by
  unfold mulL
  refine sq_ext fun i j hi hj => ?_
  simp only [at_div hj, at_mod hj]
  show sumTo _ w = sumTo _ w
  rw [sumTo_congr (g := fun k => sumTo (fun l => ent c (w * i + k) * (ent b (w * k + l) * ent a (w * l + j))) w)]
  · rw [sumTo_swap]
    refine sumTo_congr fun l hl => ?_
    have : ent (mulL w b c) (w * i + l) = mulA w b c i w l := mulL_at hi hl
    show _ = ent (mulL w b c) (w * i + l) * _
    rw [this, mulA, ← sumTo_mulR]
    exact sumTo_congr fun k _ => by rw [Int.mul_assoc]
  · intro k hk
    have : ent (mulL w a b) (w * k + j) = mulA w a b k w j := mulL_at hk hj
    show _ * ent (mulL w a b) (w * k + j) = _
    rw [this, mulA, ← sumTo_mul]
theorem img_mul (w : Nat) (a b v : List Int) : imgL w b (imgL w a v) = imgL w (mulL w a b) v := by
  unfold imgL
  apply List.map_congr_left
  intro i hi
  have hi : i < w := List.mem_range.mp hi
  show sumTo _ w = sumTo _ w
  rw [sumTo_congr (g := fun k => sumTo (fun j => ent b (w * i + k) * (ent a (w * k + j) * ent v j)) w)]
  · rw [sumTo_swap]
    refine sumTo_congr fun j hj => ?_
    rw [mulL_at hi hj, mulA, ← sumTo_mulR]
    exact sumTo_congr fun k _ => by rw [Int.mul_assoc]
  · intro k hk
    have : ent (imgL w a v) k = imgA w a v k w := imgL_at hk
    show _ * ent (imgL w a v) k = _
    rw [this, imgA, ← sumTo_mul]
theorem sq_rng {w : Nat} {a : List Int} (h : a.length = w * w) : (List.range (w * w)).map (ent a) = a := by rw [← h]; exact rng_ent a
theorem unit_mul {w : Nat} {a : List Int} (h : a.length = w * w) : mulL w (unitL w) a = a := by
  refine Eq.trans ?_ (sq_rng h)
  unfold mulL
  refine sq_ext fun i j hi hj => ?_
  simp only [at_div hj, at_mod hj]
  show sumTo _ w = _
  rw [sumTo_one hj (fun k hk ne => by show _ * ent (unitL w) _ = _; rw [unitL_at hk hj, if_neg ne, Int.mul_zero])]
  show _ * ent (unitL w) _ = _
  rw [unitL_at hj hj, if_pos rfl, Int.mul_one]
theorem mul_unit {w : Nat} {a : List Int} (h : a.length = w * w) : mulL w a (unitL w) = a := by
  refine Eq.trans ?_ (sq_rng h)
  unfold mulL
  refine sq_ext fun i j hi hj => ?_
  simp only [at_div hj, at_mod hj]
  show sumTo _ w = _
  rw [sumTo_one hi (fun k hk ne => by show ent (unitL w) _ * _ = _; rw [unitL_at hi hk, if_neg (fun z => ne z.symm), Int.zero_mul])]
  show ent (unitL w) _ * _ = _
  rw [unitL_at hi hi, if_pos rfl, Int.one_mul]
theorem prod_lt {x y : Int} {a b : Nat} (hx : x.natAbs < 2 ^ a) (hy : y.natAbs < 2 ^ b) : (x * y).natAbs ≤ 2 ^ (a + b) := by
  rw [Int.natAbs_mul, Nat.pow_add]
  exact Nat.mul_le_mul (Nat.le_of_lt hx) (Nat.le_of_lt hy)
theorem eight {n c : Nat} {x : Int} (hn : n ≤ 7) (h : x.natAbs ≤ n * 2 ^ c) : x.natAbs < 2 ^ (c + 3) := by
  have : 0 < 2 ^ c := Nat.pow_pos (by decide)
  rw [Nat.pow_add]
  have h2 : n * 2 ^ c ≤ 7 * 2 ^ c := Nat.mul_le_mul_right _ hn
  omega
theorem mulL_bd {w a b : Nat} {one other : List Int} (hw : w ≤ 7) (h1 : Bd a one) (h2 : Bd b other) : Bd (b + a + 3) (mulL w one other) := by
  intro x hx
  obtain ⟨t, _, rfl⟩ := List.mem_map.mp hx
  exact eight hw (sumTo_bd fun k _ => prod_lt (h2.ent _) (h1.ent _))
theorem imgL_bd {w a b : Nat} {m v : List Int} (hw : w ≤ 7) (h1 : Bd a m) (h2 : Bd b v) : Bd (a + b + 3) (imgL w m v) := by
  intro x hx
  obtain ⟨t, _, rfl⟩ := List.mem_map.mp hx
  exact eight hw (sumTo_bd fun k _ => prod_lt (h1.ent _) (h2.ent _))
theorem unitL_bd {w : Nat} : Bd 1 (unitL w) := by
  intro x hx
  obtain ⟨t, _, rfl⟩ := List.mem_map.mp hx
  show (if _ then (1 : Int) else 0).natAbs < 2
  split <;> decide
end Mx

def topS (i : Nat) : Stmt := PySem.Challenge.pw_sharedboard_k01_matrices.main.body.getD i (.Pass ⟨0, 0, 0, 0⟩)
local macro_rules | `(tactic| walk_at "mulside") => `(tactic| first | assumption | exact mulL (by omega) | exact mulR (by omega))
local macro_rules | `(tactic| walk_at "divside") => `(tactic| first | assumption | exact divS (by omega))
local macro_rules | `(tactic| walk_at "wp1") => `(tactic| first
  | with_reducible refine i_seq ?_
  | with_reducible refine i_set ?_
  | with_reducible refine i_if ?_
  | with_reducible refine i_ret ?_
  | with_reducible refine i_retF ?_
  | with_reducible refine i_retN ?_
  | with_reducible refine i_next ?_
  | with_reducible refine i_setO ?_
  | with_reducible refine i_drop ?_
  | with_reducible refine i_asg ?_
  | with_reducible refine i_sti ?_
  | with_reducible refine i_brk ?_
  | with_reducible refine i_cont ?_
  | with_reducible refine i_c ?_
  | with_reducible refine i_v ?_
  | with_reducible refine i_add ?_
  | with_reducible refine i_sub ?_
  | with_reducible refine i_lt ?_
  | with_reducible refine i_le ?_
  | with_reducible refine i_gt ?_
  | with_reducible refine i_ge ?_
  | with_reducible refine i_lt' ?_
  | with_reducible refine i_le' ?_
  | with_reducible refine i_eqI ?_
  | with_reducible refine i_neI ?_
  | with_reducible refine i_eqB ?_
  | with_reducible refine i_neB ?_
  | with_reducible refine i_eqS ?_
  | with_reducible refine i_isN ?_
  | with_reducible refine i_notN ?_
  | with_reducible refine i_op ?_
  | with_reducible refine i_chain ?_
  | with_reducible refine i_neg ?_
  | with_reducible refine i_tr ?_
  | with_reducible refine i_B ?_
  | with_reducible refine i_bl ?_
  | with_reducible refine i_int ?_
  | with_reducible refine i_lst ?_
  | with_reducible refine i_tup ?_
  | with_reducible refine i_okb ?_
  | with_reducible refine i_oki ?_
  | with_reducible refine i_okl ?_
  | with_reducible refine i_oku ?_
  | with_reducible refine i_okn ?_
  | with_reducible refine i_and ?_
  | with_reducible refine i_or ?_
  | with_reducible refine i_not ?_
  | with_reducible refine i_andV ?_
  | with_reducible refine i_orV ?_
  | with_reducible refine i_notV ?_
  | with_reducible refine i_ifE ?_
  | with_reducible refine i_nil ?_
  | with_reducible refine i_cons ?_
  | with_reducible refine i_dtup ?_
  | with_reducible refine i_dlst ?_
  | with_reducible refine i_noPart ?_
  | with_reducible refine i_part ?_
  | with_reducible refine i_sl ?_
  | with_reducible refine i_call ?_
  | with_reducible refine i_lenL ?_
  | with_reducible refine i_lenT ?_
  | with_reducible refine i_intI ?_
  | with_reducible refine i_intB ?_
  | with_reducible refine i_isi ?_
  | with_reducible refine i_listOf ?_
  | with_reducible refine i_listL ?_
  | with_reducible refine i_listT ?_
  | with_reducible refine i_cat ?_
  | with_reducible refine i_il ?_
  | with_reducible refine i_it ?_
  | with_reducible refine i_ir1 ?_
  | with_reducible refine i_ir2 ?_
  | with_reducible refine i_ien ?_
  | with_reducible refine i_ien' ?_
  | with_reducible refine i_iz ?_
  | with_reducible refine i_iz' ?_
  | with_reducible refine i_name ?_
  | with_reducible refine i_gcons ?_
  | with_reducible refine i_yes ?_
  | with_reducible refine i_for ?_
  | with_reducible refine i_lc ?_
  | with_reducible refine i_callS ?_
  | with_reducible refine i_callF ?_
  | with_reducible refine i_rf ?_
  | with_reducible refine i_iteT ?_
  | with_reducible refine i_iteF ?_
  | with_reducible refine i_gnil ?_
  | with_reducible refine i_flb ?_
  | with_reducible refine i_fli ?_
  | with_reducible refine i_fln ?_
  | with_reducible refine i_forTwo ?_
  | ((with_reducible refine' i_lendT ?hh ?_); (case hh => exact rfl))
  | ((with_reducible refine' i_lend ?hh ?_); (case hh => exact rfl))
  | ((with_reducible refine' i_var ?hh ?_); (case hh => exact rfl))
  | ((with_reducible refine' i_varO ?hh ?_); (case hh => exact rfl))
  | ((with_reducible refine' i_retO ?hh ?_); (case hh => exact rfl))
  | ((with_reducible refine' i_frz ?hh ?_); (case hh => exact rfl))
  | ((with_reducible refine' i_ixL ?hh ?_); (case hh => exact rfl))
  | ((with_reducible refine' i_ixT ?hh ?_); (case hh => exact rfl))
  | ((with_reducible refine' i_ixO ?hh ?_); (case hh => exact rfl))
  | ((with_reducible refine' i_lenO ?hh ?_); (case hh => exact rfl))
  | ((with_reducible refine' i_iscr ?hh ?_); (case hh => exact rfl))
  | ((with_reducible refine' i_gtup ?hh ?_); (case hh => exact rfl))
  | ((with_reducible refine' i_own ?hh ?_); (case hh => exact rfl))
  | ((with_reducible refine' i_app ?hh ?_); (case hh => exact rfl))
  | ((with_reducible refine' i_ext ?hh ?_); (case hh => exact rfl))
  | ((with_reducible refine' i_aug ?hh ?_); (case hh => exact rfl))
  | ((with_reducible refine' i_callP ?hh ?_); (case hh => exact rfl))
  | ((with_reducible refine' i_callP2 ?hh ?_); (case hh => exact rfl))
  | ((with_reducible refine' i_callScr ?hh ?_); (case hh => exact rfl))
  | ((with_reducible refine' i_slS ?hh ?_); (case hh => exact rfl))
  | ((with_reducible refine' i_scr2 ?hh ?_); (case hh => exact rfl))
  | ((with_reducible refine' i_mul ?hh ?_); (case hh => walk_at "mulside"))
  | ((with_reducible refine' i_mod ?hh ?_); (case hh => omega))
  | ((with_reducible refine' i_fdv ?hh ?_); (case hh => walk_at "divside"))
  | ((with_reducible refine' i_pow ?hh ?_); (case hh => exact ⟨by decide, by decide, by decide⟩))
  | ((with_reducible refine' i_sz ?hh ?_); (case hh => ((try simp only [List.length_cons, List.length_nil, List.length_append, List.length_map, List.length_range]); omega)))
  | ((with_reducible refine' i_szL ?hh ?_); (case hh => ((try simp only [List.length_cons, List.length_nil, List.length_append, List.length_map, List.length_range]); omega)))
  | ((with_reducible refine' i_szE ?hh ?_); (case hh => ((try simp only [List.length_cons, List.length_nil, List.length_append, List.length_map, List.length_range]); omega)))
  | ((with_reducible refine' i_ir1' ?hh ?_); (case hh => omega))
  | ((with_reducible refine' i_ir2' ?hh ?_); (case hh => omega))
  | ((with_reducible refine' i_ixO2 ?hh ?hk ?_); (case hh => exact rfl); (case hk => exact rfl))
  | ((with_reducible refine' i_sti2 ?hh ?hk ?_); (case hh => exact rfl); (case hk => exact rfl))
  | ((with_reducible refine' i_cat2 ?hh ?_); (case hh => ((try simp only [List.length_cons, List.length_nil, List.length_append, List.length_map, List.length_range]); omega)))
  | ((with_reducible refine' i_app2 ?hh ?hk ?_); (case hh => exact rfl); (case hk => ((try simp only [List.length_cons, List.length_nil, List.length_append, List.length_map, List.length_range]); omega)))
  | ((with_reducible refine' i_ext2 ?hh ?hk ?_); (case hh => exact rfl); (case hk => ((try simp only [List.length_cons, List.length_nil, List.length_append, List.length_map, List.length_range]); omega)))
  | dsimp +instances only [truD_n, truD_b, truD_i, truD_s, truD_l, truD_t, isB_n, isB_b, isB_i, isB_s, isB_l, isB_t, isI_n, isI_b, isI_i, isI_s, isI_l, isI_t, isS_n, isS_b, isS_i, isS_s, isS_l, isS_t, isL_n, isL_b, isL_i, isL_s, isL_l, isL_t, isU_n, isU_b, isU_i, isU_s, isU_l, isU_t, beqB_t, beqB_f, val_d, val_f, not_t, not_f, or_t, or_f])
local macro_rules | `(tactic| walk_at "wp") => `(tactic| repeat walk_at "wp1")


/-! ### the pool of the law -/
abbrev s_L_pool : Stmt := topS 4
theorem sc_L_pool : FnScope ["_law_script", "_law_seed", "_law_cell"] ["_law_script"] (defScope s_L_pool) := ⟨rfl, rfl, rfl, by decide +kernel, rfl, by decide +kernel, by decide +kernel⟩

abbrev s_L_draw : Stmt := topS 5
theorem sc_L_draw : FnScope ["_law_pool_here", "_law_many", "_law_cell", "_law_digit", "_law_number_here"] ["_law_pool_here", "_law_many"] (defScope s_L_draw) := ⟨rfl, rfl, rfl, by decide +kernel, rfl, by decide +kernel, by decide +kernel⟩

abbrev s_L_number : Stmt := topS 6
theorem sc_L_number : FnScope ["_law_pool_here"] ["_law_pool_here"] (defScope s_L_number) := ⟨rfl, rfl, rfl, by decide +kernel, rfl, by decide +kernel, by decide +kernel⟩

section
variable {P : Program} {w : World} {K : PySem.W.Frag} {mg : Str → Option Value} {base : Heap}
theorem ok_L_pool (M : Blt mg) (G_L_pool : Gf K mg "_law_pool" s_L_pool ["_law_script"]) : FnOk P w K mg base CX0 1 G_L_pool.f G_L_pool.fd ["_law_script"] (spS K spec_L_pool) := by
  refine fn_okS G_L_pool.F sc_L_pool rfl fun cdv A outer s0 H E hr => ⟨_, _, (dss_cons (ds_set (i := 1) sc_L_pool.nd de_int)
      (dss_cons (ds_for PassesOwn.never rfl (di_list K (DF.v (df_slS K 0 do_none (do_some de_int)))) (dg_name (i := 2) sc_L_pool.nd) (dss_one (ds_set (i := 1) sc_L_pool.nd (de_mod (de_callTy (cs_int (K := K)) call_int1 M.int (by decide +kernel) (da_cons (de_add (de_add (de_mulK (de_var 1) de_int) (de_var 2)) de_int) da_nil)) de_int))))
      (dss_one (ds_retF (df_lst (da_cons (DF.v (df_list K M.list (DF.v (df_slS K 0 do_none (do_some de_int))))) (da_cons de_int (da_cons de_int (da_cons de_int (da_cons (de_var 1) da_nil)))))))))), ?_⟩
  rintro ns Q ⟨h63, q⟩
  walk_at "wp"
  refine ⟨fun i γ => ∃ (z : Int) (s2 : Sl), γ = [.scr ns, .val (.int z), s2] ∧ 0 ≤ z ∧ z < 2147483629, ⟨17, _, rfl, by decide, by decide⟩, ?_, ?_⟩
  · rintro i d γ hd ⟨z, s2, rfl, h0, h1⟩
    obtain ⟨c, rfl⟩ : ∃ c : Int, d = .int c := by
      have : d ∈ cutL (ns.map D.int) none (some 63) := List.mem_of_getElem? hd
      unfold cutL at this
      have := List.mem_of_mem_drop (List.mem_of_mem_take this)
      obtain ⟨c, _, e⟩ := List.mem_map.mp this
      exact ⟨c, e.symm⟩
    walk_at "wp"
    exact ⟨_, _, rfl, Int.emod_nonneg _ (by decide), Int.emod_lt_of_pos _ (by decide)⟩
  · rintro γ ⟨z, s2, rfl, h0, h1⟩
    walk_at "wp"
    refine q _ ⟨ns.take 63, 0, 0, 0, z, ?_, by decide, by decide, h0, h1⟩
    have e : cutL (ns.map D.int) none (some 63) = (ns.take 63).map D.int := by
      unfold cutL
      rw [HT.sIx_none, List.drop_zero, show (some (63 : Int)) = some ((63 : Nat) : Int) from rfl, HT.sIx_nat, List.map_take, Nat.sub_zero, List.length_map]
      rw [List.take_eq_take_iff]
      simp
    rw [e]
theorem ok_L_draw (M : Blt mg) (G_L_draw : Gf K mg "_law_draw" s_L_draw ["_law_pool_here", "_law_many"]) : FnOk P w K mg base CX0 1 G_L_draw.f G_L_draw.fd ["_law_pool_here", "_law_many"] (spP K spec_L_draw) := by
  refine fn_okP G_L_draw.F sc_L_draw (fun pl ds Q ⟨_, a, e, _⟩ => by rw [e]; rfl) fun cdv A outer s0 H E hr => ⟨_, _, (dss_cons (ds_sub 0 (de_add (de_ixO K 0 de_int) de_int) de_int)
      (dss_cut (ds_if (DW.dt (dw_and (dt_eq (de_ixO K 0 de_int) de_int) (dw_and1 (dt_lt (de_ixO K 0 de_int) (de_callB (cs_len (K := K)) call_len_seq M.len PySem.boot_len (da_cons (de_ixO K 0 de_int) da_nil)))))) (dss_cons (ds_set (i := 2) sc_L_draw.nd (de_ix K (de_ixO K 0 de_int) (de_ixO K 0 de_int)))
      (dss_cons (ds_sub 0 (de_add (de_ixO K 0 de_int) de_int) de_int)
      (dss_one (ds_if (dt_ge (de_var 2) (de_pow de_int de_int)) (dss_one (ds_sub 0 (de_var 2) de_int)) (dss_one (ds_sub 0 (de_mod (de_callTy (cs_int (K := K)) call_int1 M.int (by decide +kernel) (da_cons (de_add (de_add (de_mulK (de_ixO K 0 de_int) de_int) (de_var 2)) de_int) da_nil)) de_int) de_int)))))) dss_nil)
      (dss_cons (ds_if (dt_gt (de_ixO K 0 de_int) de_int) (dss_cons (ds_set (i := 3) sc_L_draw.nd (de_mod (de_callTy (cs_int (K := K)) call_int1 M.int (by decide +kernel) (da_cons (de_ixO K 0 de_int) da_nil)) (de_var 1)))
      (dss_cons (ds_sub 0 (de_fdv (de_ixO K 0 de_int) (de_var 1)) de_int)
      (dss_one (ds_ret (de_var 3))))) dss_nil)
      (dss_cons (ds_set (i := 4) sc_L_draw.nd (de_mod (de_callTy (cs_int (K := K)) call_int1 M.int (by decide +kernel) (da_cons (de_add (de_add (de_mulK (de_ixO K 0 de_int) de_int) (de_mulK (de_ixO K 0 de_int) de_int)) de_int) da_nil)) de_int))
      (dss_cons (ds_set (i := 4) sc_L_draw.nd (de_mod (de_callTy (cs_int (K := K)) call_int1 M.int (by decide +kernel) (da_cons (de_mulK (de_var 4) (de_add (de_fdv (de_var 4) de_int) de_int)) da_nil)) de_int))
      (dss_cons (ds_set (i := 4) sc_L_draw.nd (de_mod (de_callTy (cs_int (K := K)) call_int1 M.int (by decide +kernel) (da_cons (de_mulK (de_var 4) (de_add (de_fdv (de_var 4) de_int) de_int)) da_nil)) de_int))
      (dss_one (ds_ret (de_mod (de_callTy (cs_int (K := K)) call_int1 M.int (by decide +kernel) (da_cons (de_fdv (de_var 4) de_int) da_nil)) (de_var 1)))))))))), ?_⟩
  rintro pl ds Q ⟨⟨ns, ix, big, cnt, seed, rfl, h0, h1, h2, h3⟩, many, rfl, ⟨hm, hl⟩, q⟩
  walk_at "wp"
  refine ⟨fun γ => ∃ (ix big cnt seed : Int) (s2 : Sl), γ = [.own true [.lst (ns.map D.int), .int ix, .int big, .int cnt, .int seed], .val (.int many), s2, .any, .any] ∧ 0 ≤ ix ∧ 0 ≤ big ∧ 0 ≤ seed ∧ seed < 2147483629, ?_, ?_⟩
  · walk_at "wp"
    refine i_ite (fun hb => ?_) (fun hb => ?_)
    · walk_at "wp"
      refine i_ite (fun hx => ?_) (fun hx => ?_)
      · walk_at "wp"
        rw [List.length_map] at hx
        obtain ⟨c, hc, _⟩ := atI_int h0 hx
        refine i_ixL hc ?_
        walk_at "wp"
        refine i_ite (fun hg => ?_) (fun hg => ?_)
        · walk_at "wp"
          have hz : (0 : Int) ≤ 10 ^ (18 : Int).toNat := by decide
          exact ⟨ix + 1, c, cnt + 1, seed, _, rfl, by omega, by omega, h2, h3⟩
        · walk_at "wp"
          exact ⟨ix + 1, big, cnt + 1, _, _, rfl, by omega, h1, Int.emod_nonneg _ (by decide), Int.emod_lt_of_pos _ (by decide)⟩
      · walk_at "wp"
        exact ⟨ix, big, cnt + 1, seed, _, rfl, h0, h1, h2, h3⟩
    · walk_at "wp"
      exact ⟨ix, big, cnt + 1, seed, _, rfl, h0, h1, h2, h3⟩
  · rintro γ ⟨ix, big, cnt, seed, s2, rfl, h0, h1, h2, h3⟩
    have hd : CDivW big many := ⟨hm, hl⟩
    walk_at "wp"
    refine i_ite (fun hb => ?_) (fun hb => ?_)
    · walk_at "wp"
      exact ⟨_, rfl, q _ _ ⟨_, rfl, Int.emod_nonneg _ (by omega), Int.emod_lt_of_pos _ hm⟩ ⟨ns, ix, _, cnt, seed, rfl, h0, Int.ediv_nonneg h1 (by omega), h2, h3⟩⟩
    · walk_at "wp"
      exact ⟨_, rfl, q _ _ ⟨_, rfl, Int.emod_nonneg _ (by omega), Int.emod_lt_of_pos _ hm⟩ ⟨ns, ix, big, cnt, seed, rfl, h0, h1, h2, h3⟩⟩
theorem ok_L_number (M : Blt mg) (G_L_draw : Gf K mg "_law_draw" s_L_draw ["_law_pool_here", "_law_many"]) (G_L_number : Gf K mg "_law_number" s_L_number ["_law_pool_here"]) : FnOk P w K mg base CX0 2 G_L_number.f G_L_number.fd ["_law_pool_here"] (spP K spec_L_number) := by
  have H_L_draw : FnOk P w K mg base CX0 1 G_L_draw.f G_L_draw.fd ["_law_pool_here", "_law_many"] (spP K spec_L_draw) := ok_L_draw M G_L_draw
  refine fn_okP G_L_number.F sc_L_number (fun pl ds Q ⟨_, a, e, _⟩ => by rw [e]; rfl) fun cdv A outer s0 H E hr => ⟨_, _, (dss_cons (ds_if (dt_eq (de_callP K 0 H_L_draw (hr.mono (by decide)) G_L_draw.g G_L_draw.F.kp G_L_draw.b (da_cons de_int da_nil)) de_int) (dss_one (ds_ret (de_sub (de_callP K 0 H_L_draw (hr.mono (by decide)) G_L_draw.g G_L_draw.F.kp G_L_draw.b (da_cons (de_mulK de_int (de_pow de_int de_int)) da_nil)) (de_pow de_int de_int)))) dss_nil)
      (dss_one (ds_ret (de_sub (de_callP K 0 H_L_draw (hr.mono (by decide)) G_L_draw.g G_L_draw.F.kp G_L_draw.b (da_cons de_int da_nil)) de_int)))), ?_⟩
  rintro pl ds Q ⟨hp, u, rfl, _, q⟩
  walk_at "wp"
  refine draw_i (many := 5) hp (.of (by omega)) fun n pl1 n0 n1 hp1 => ?_
  walk_at "wp"
  refine i_ite (fun hb => ?_) (fun hb => ?_)
  · walk_at "wp"
    refine draw_i hp1 ⟨by decide, by decide⟩ fun n2 pl2 m0 m1 hp2 => ?_
    walk_at "wp"
    refine ⟨pl2, rfl, q _ _ ⟨_, rfl, ?_, ?_⟩ hp2⟩
    · have e : (10 : Int) ^ (49 : Int).toNat = tenE49 := by decide
      rw [e]; omega
    · have e : (10 : Int) ^ (49 : Int).toNat = tenE49 := by decide
      rw [e] at m1 ⊢
      omega
  · walk_at "wp"
    refine draw_i (many := 11) hp1 (.of (by omega)) fun n2 pl2 m0 m1 hp2 => ?_
    walk_at "wp"
    have e : tenE49 = 10000000000000000000000000000000000000000000000000 := rfl
    exact ⟨pl2, rfl, q _ _ ⟨_, rfl, by omega, by omega⟩ hp2⟩
end

/-! ### the law's comparison: each datum is the same as itself -/
abbrev s_L_same : Stmt := topS 7
theorem sc_L_same : FnScope ["_law_actual", "_law_due", "_law_k"] ["_law_actual", "_law_due"] (defScope s_L_same) := ⟨rfl, rfl, rfl, by decide +kernel, rfl, by decide +kernel, by decide +kernel⟩

section
variable {P : Program} {w : World} {K : PySem.W.Frag} {mg : Str → Option Value} {base : Heap}
theorem ok_L_same (M : Blt mg) (G_L_same : Gf K mg "_law_same" s_L_same ["_law_actual", "_law_due"]) : ∀ k, FnOk P w K mg base CX0 k G_L_same.f G_L_same.fd ["_law_actual", "_law_due"] (spV K (spec_L_same k)) := by
  intro k
  induction k with
  | zero => exact fn_none fun ds Q ⟨a, _, h, _⟩ => h
  | succ k IH =>
    refine fn_ok G_L_same.F sc_L_same (fun ds Q ⟨a, e, _⟩ => by rw [e]; rfl) fun cdv A outer s0 H E hr => ⟨_, _, (dss_cons (ds_if (dt_isN (de_var 1)) (dss_one (ds_ret (de_isN (de_var 0)))) dss_nil)
      (dss_cons (ds_if (DW.dt (dw_or (dt_tr K (de_isi K kit_B M.isinstance M.bool (by decide +kernel) (de_var 1))) (dw_or1 (dt_tr K (de_isi K kit_B M.isinstance M.bool (by decide +kernel) (de_var 0)))))) (dss_one (ds_ret (de_and (de_isi K kit_B M.isinstance M.bool (by decide +kernel) (de_var 1)) (de_and (de_isi K kit_B M.isinstance M.bool (by decide +kernel) (de_var 0)) (de_one (de_eq (de_var 0) (de_var 1))))))) dss_nil)
      (dss_cons (ds_if (dt_tr K (de_isi K kit_I M.isinstance M.int (by decide +kernel) (de_var 1))) (dss_one (ds_ret (de_and (de_isi K kit_I M.isinstance M.int (by decide +kernel) (de_var 0)) (de_one (de_eq (de_var 0) (de_var 1)))))) dss_nil)
      (dss_cons (ds_if (dt_tr K (de_isi K kit_S M.isinstance M.str (by decide +kernel) (de_var 1))) (dss_one (ds_ret (de_and (de_isi K kit_S M.isinstance M.str (by decide +kernel) (de_var 0)) (de_one (de_eq (de_var 0) (de_var 1)))))) dss_nil)
      (dss_cons (ds_if (DW.dt (dw_or (dt_ne (de_isi K kit_L M.isinstance M.list (by decide +kernel) (de_var 1)) (de_isi K kit_L M.isinstance M.list (by decide +kernel) (de_var 0))) (dw_or1 (dt_not (dt_tr K (de_isi2 K kit_L kit_U M.isinstance M.list M.tuple (by decide +kernel) (by decide +kernel) (de_var 0))))))) (dss_one (ds_ret de_bl)) dss_nil)
      (dss_cons (ds_if (dt_ne (de_callB (cs_len (K := K)) call_len_seq M.len PySem.boot_len (da_cons (de_var 0) da_nil)) (de_callB (cs_len (K := K)) call_len_seq M.len PySem.boot_len (da_cons (de_var 1) da_nil))) (dss_one (ds_ret de_bl)) dss_nil)
      (dss_one (ds_ret (de_eq (de_callB (cs_len (K := K)) call_len_seq M.len PySem.boot_len (da_cons (DF.v (df_lc (own := [("_law_k", 2)]) rfl sc_L_same.nd (di_range1 M.range (da_cons (de_callB (cs_len (K := K)) call_len_seq M.len PySem.boot_len (da_cons (de_var 1) da_nil)) da_nil)) (blkOk_by (by rfl)) (fun _ _ _ _ _ => (dg_name (i := 2) sc_L_same.nd)) (gin_name (by decide)) gmo_name (fun _ _ _ _ _ => (dts_one (dt_not (dt_tr K (de_call K IH hr G_L_same.g G_L_same.F.kp G_L_same.b (da_cons (de_ix K (de_var 0) (de_var 2)) (da_cons (de_ix K (de_var 1) (de_var 2)) da_nil))))))) (fun _ _ _ _ _ => (de_var 2)))) da_nil)) de_int))))))))), ?_⟩
    rintro ds Q ⟨d, rfl, hd, q⟩
    have q1 : Q (.d (.bl true)) := q _ rfl
    clear q
    cases d with
    | non => walk_at "wp"; exact q1
    | bl b => walk_at "wp"; rw [beqB_self]; exact q1
    | int i => walk_at "wp"; rw [decide_eq_true rfl]; exact q1
    | str s => walk_at "wp"; rw [decide_eq_true rfl]; exact q1
    | lst ds =>
      obtain ⟨hz, hd⟩ := hd
      walk_at "wp"
      refine i_iteN (fun h => absurd rfl h) (fun _ => ?_)
      walk_at "wp"
      refine i_none ?_ ?_ (fun i d hi R hR => ?_) ?_
      · rw [rngD_len]; omega
      · rfl
      · obtain ⟨rfl, hi⟩ := rng0_inv hi
        obtain ⟨x, hx⟩ : ∃ x, ds[i]? = some x := ⟨_, List.getElem?_eq_getElem (by omega)⟩
        walk_at "wp"
        refine i_ixL (atI_of hx) ?_
        walk_at "wp"
        refine i_ixL (atI_of hx) ?_
        walk_at "wp"
        refine ⟨x, rfl, hd x (List.mem_of_getElem? hx), fun r hr => ?_⟩
        subst hr
        walk_at "wp"
        exact hR _ rfl
      · walk_at "wp"
        exact q1
    | tup ds =>
      obtain ⟨hz, hd⟩ := hd
      walk_at "wp"
      refine i_iteN (fun h => absurd rfl h) (fun _ => ?_)
      walk_at "wp"
      refine i_none ?_ ?_ (fun i d hi R hR => ?_) ?_
      · rw [rngD_len]; omega
      · rfl
      · obtain ⟨rfl, hi⟩ := rng0_inv hi
        obtain ⟨x, hx⟩ : ∃ x, ds[i]? = some x := ⟨_, List.getElem?_eq_getElem (by omega)⟩
        walk_at "wp"
        refine i_ixT (atI_of hx) ?_
        walk_at "wp"
        refine i_ixT (atI_of hx) ?_
        walk_at "wp"
        refine ⟨x, rfl, hd x (List.mem_of_getElem? hx), fun r hr => ?_⟩
        subst hr
        walk_at "wp"
        exact hR _ rfl
      · walk_at "wp"
        exact q1
end

/-! ### matrices -/
abbrev s_composed : Stmt := topS 1
theorem sc_composed : FnScope ["width", "one", "other", "result", "i", "line", "k", "factor", "_", "a", "b"] ["width", "one", "other"] (defScope s_composed) := ⟨rfl, rfl, rfl, by decide +kernel, rfl, by decide +kernel, by decide +kernel⟩

abbrev s_applied : Stmt := topS 2
theorem sc_applied : FnScope ["width", "matrix", "vector", "i", "j"] ["width", "matrix", "vector"] (defScope s_applied) := ⟨rfl, rfl, rfl, by decide +kernel, rfl, by decide +kernel, by decide +kernel⟩

abbrev s_L_times : Stmt := topS 9
theorem sc_L_times : FnScope ["_law_width", "_law_one", "_law_other", "_law_found", "_law_i", "_law_j", "_law_k"] ["_law_width", "_law_one", "_law_other"] (defScope s_L_times) := ⟨rfl, rfl, rfl, by decide +kernel, rfl, by decide +kernel, by decide +kernel⟩

abbrev s_L_image : Stmt := topS 10
theorem sc_L_image : FnScope ["_law_width", "_law_matrix_here", "_law_vector", "_law_found", "_law_i", "_law_total", "_law_j"] ["_law_width", "_law_matrix_here", "_law_vector"] (defScope s_L_image) := ⟨rfl, rfl, rfl, by decide +kernel, rfl, by decide +kernel, by decide +kernel⟩

open Mx
/-- intL as data -/
abbrev intL (ns : List Int) : List D := ns.map D.int
theorem intL_rng {n : Nat} {f : Nat → Int} : intL ((List.range n).map f) = dLs n fun i => .int (f i) := by
  unfold intL dLs
  rw [List.map_map]
  rfl
theorem intL_ent {ns : List Int} {n : Nat} (h : ns.length = n) : intL ns = dLs n fun i => .int (ent ns i) := by
  subst h
  rw [← intL_rng, rng_ent]
theorem fits {x y : Int} (hx : x.natAbs < 2 ^ 1000) (hy : y.natAbs < 2 ^ 1000) : IntMulOk x y := CMulW.ok (wide_mul hx hy (by decide) (by decide) (by decide))
def spec_mul : SpecD := SpecD.of (fun a : Nat × List Int × List Int => [.int a.1, .lst (intL a.2.1), .lst (intL a.2.2)]) (fun a => a.1 ≤ 7 ∧ a.2.1.length = a.1 * a.1 ∧ a.2.2.length = a.1 * a.1 ∧ Bd 1000 a.2.1 ∧ Bd 1000 a.2.2) (fun a r => r = .f (intL (mulL a.1 a.2.1 a.2.2)))
def spec_img : SpecD := SpecD.of (fun a : Nat × List Int × List Int => [.int a.1, .lst (intL a.2.1), .lst (intL a.2.2)]) (fun a => a.1 ≤ 7 ∧ a.2.1.length = a.1 * a.1 ∧ a.2.2.length = a.1 ∧ Bd 1000 a.2.1 ∧ Bd 1000 a.2.2) (fun a r => r = .f (intL (imgL a.1 a.2.1 a.2.2)))
theorem sq_le {w i : Nat} (h : i < w) : w * i + w ≤ w * w := by
  have := Nat.mul_le_mul_left w (show i + 1 ≤ w from h)
  rwa [Nat.mul_add, Nat.mul_one] at this
theorem sq_small {w : Nat} (h : w ≤ 7) : w * w ≤ 49 := Nat.mul_le_mul h h
theorem dLs_at2 {n w i j : Nat} {f : Nat → D} (h : w * i + j < n) : atI (dLs n f) ((w : Int) * (i : Int) + (j : Int)) = some (f (w * i + j)) := by
  have e : ((w : Int) * (i : Int) + (j : Int)) = ((w * i + j : Nat) : Int) := by omega
  rw [e]
  exact dLs_at h
section
variable {P : Program} {w : World} {K : PySem.W.Frag} {mg : Str → Option Value} {base : Heap}
theorem ok_composed (M : Blt mg) (G_composed : Gf K mg "composed" s_composed ["width", "one", "other"]) : FnOk P w K mg base CX0 1 G_composed.f G_composed.fd ["width", "one", "other"] (spV K spec_mul) := by
  refine fn_ok G_composed.F sc_composed (fun ds Q ⟨a, e, _⟩ => by rw [e]; rfl) fun cdv A outer s0 H E hr => ⟨_, _, (dss_cons (ds_setO (i := 3) sc_composed.nd (df_lst da_nil))
      (dss_cons (ds_for PassesOwn.never rfl (di_range1 M.range (da_cons (de_var 0) da_nil)) (dg_name (i := 4) sc_composed.nd) (dss_cons (ds_setLc (i := 5) (own := [("_", 8)]) rfl sc_composed.nd (di_range1 M.range (da_cons (de_var 0) da_nil)) (blkOk_by (by rfl)) (fun _ _ _ _ _ => (dg_name (i := 8) sc_composed.nd)) (gin_name (by decide)) gmo_name (fun _ _ _ _ _ => dts_nil) (fun _ _ _ _ _ => de_int))
      (dss_frz 5 (dss_cons (ds_for PassesOwn.never rfl (di_enum K M.enumerate (da_cons (DF.v (df_sl K (de_var 2) (do_some (de_mulK (de_var 0) (de_var 4))) (do_some (de_add (de_mulK (de_var 0) (de_var 4)) (de_var 0))))) da_nil)) (dg_tup K (n := 2) rfl (dgs_cons (dg_name (i := 6) sc_composed.nd) (dgs_cons (dg_name (i := 7) sc_composed.nd) dgs_nil))) (dss_one (ds_if (dt_ne (de_var 7) de_int) (dss_cons (ds_setLc (i := 5) (own := [("a", 9), ("b", 10)]) rfl sc_composed.nd (di_zip K M.zip (da_cons (de_var 5) (da_cons (DF.v (df_sl K (de_var 1) (do_some (de_mulK (de_var 0) (de_var 6))) (do_some (de_add (de_mulK (de_var 0) (de_var 6)) (de_var 0))))) da_nil))) (blkOk_by (by rfl)) (fun _ _ _ _ _ => (dg_tup K (n := 2) rfl (dgs_cons (dg_name (i := 9) sc_composed.nd) (dgs_cons (dg_name (i := 10) sc_composed.nd) dgs_nil)))) (gin_tup (gsin_two (by decide) (by decide))) (gmo_tup (gsmo_cons gmo_name (gsmo_cons gmo_name gsmo_nil))) (fun _ _ _ _ _ => dts_nil) (fun _ _ _ _ _ => (de_add (de_var 9) (de_mulK (de_var 7) (de_var 10)))))
      (dss_frz 5 dss_nil)) dss_nil)))
      (dss_one (ds_ext 3 (fun h => pe_bm PySem.F.plainAttrs_list PySem.F.slot_list_extend PySem.F.type_list_extend mt_extend (pv 3) (pa_cons h pa_nil)) (de_var 5)))))))
      (dss_one (ds_retO 3)))), ?_⟩
  rintro ds Q ⟨⟨n, a, b⟩, e, ⟨hn, ha, hb, ba, bb⟩, q⟩
  have q1 : Q (.f (intL (mulL n a b))) := q _ rfl
  clear q
  replace ha : a.length = n * n := ha
  replace hb : b.length = n * n := hb
  replace hn : n ≤ 7 := hn
  have hnn := sq_small hn
  replace e : ds = [D.int (n : Int), .lst (intL a), .lst (intL b)] := e
  rw [intL_ent ha, intL_ent hb] at e
  subst e
  let c : Nat → D := fun t => .int (mulA n a b (t / n) n (t % n))
  walk_at "wp"
  refine ⟨fun i γ => i ≤ n ∧ ∃ s4 s5 s6 s7, γ = [.val (.int n), .val (.lst (dLs (n * n) fun i => .int (ent a i))), .val (.lst (dLs (n * n) fun i => .int (ent b i))), .own false (dLs (n * i) c), s4, s5, s6, s7, .any, .any, .any], ⟨by omega, _, _, _, _, rfl⟩, ?_, ?_⟩
  · rintro i d γ hd ⟨hi, s4, s5, s6, s7, rfl⟩
    obtain ⟨rfl, hi⟩ := rng0_inv hd
    replace hi : i < n := hi
    have hrow := sq_le hi
    walk_at "wp"
    refine i_mapN (n := n) _ (fun _ => .int 0) (dLs_rng n) (by omega) rfl (fun k hk R hR => ?_) ?_
    · walk_at "wp"
      exact hR _ rfl
    walk_at "wp"
    rw [cut_row hrow, dLs_enum]
    refine ⟨fun k γ => k ≤ n ∧ ∃ s6 s7, γ = [.val (.int n), .val (.lst (dLs (n * n) fun i => .int (ent a i))), .val (.lst (dLs (n * n) fun i => .int (ent b i))), .own false (dLs (n * i) c), .val (.int i), .val (.lst (dLs n fun j => .int (mulA n a b i k j))), s6, s7, .any, .any, .any], ⟨by omega, _, _, rfl⟩, ?_, ?_⟩
    · rintro k d γ hd ⟨hk, s6, s7, rfl⟩
      obtain ⟨rfl, hk⟩ := dLs_inv hd
      have hrowk := sq_le hk
      walk_at "wp"
      refine i_iteN (fun hz => ?_) (fun hz => ?_)
      · walk_at "wp"
        rw [cut_row hrowk, dLs_zip]
        refine i_mapN (n := n) _ (fun j => .int (mulA n a b i (k + 1) j)) rfl (by omega) rfl (fun j hj R hR => ?_) ?_
        · walk_at "wp"
          refine i_mul (fits (bb.ent _) (ba.ent _)) ?_
          walk_at "wp"
          exact hR _ rfl
        · walk_at "wp"
          exact ⟨by omega, _, _, rfl⟩
      · walk_at "wp"
        have e : (dLs n fun j => D.int (mulA n a b i k j)) = dLs n fun j => .int (mulA n a b i (k + 1) j) := dLs_congr fun j _ => by
          show D.int _ = D.int (mulA n a b i k j + ent b (n * i + k) * ent a (n * k + j))
          rw [hz, Int.zero_mul, Int.add_zero]
        rw [e]
        exact ⟨by omega, _, _, rfl⟩
    · rintro γ ⟨_, s6, s7, rfl⟩
      rw [dLs_len]
      have hlen : n * i + n ≤ 100000 := by omega
      walk_at "wp"
      have e : dLs (n * i) c ++ dLs n (fun j => .int (mulA n a b i n j)) = dLs (n * (i + 1)) c := by
        have e1 : dLs n (fun j => D.int (mulA n a b i n j)) = dLs n fun j => c (n * i + j) := dLs_congr fun j hj => by
          show D.int _ = D.int (mulA n a b ((n * i + j) / n) n ((n * i + j) % n))
          rw [at_div hj, at_mod hj]
        rw [e1, dLs_add]
        rfl
      rw [e]
      walk_at "wp"
      exact ⟨hi, _, _, _, _, rfl⟩
  · rintro γ ⟨_, s4, s5, s6, s7, rfl⟩
    rw [rngD_len]
    walk_at "wp"
    have e : dLs (n * (n : Int).toNat) c = intL (mulL n a b) := intL_rng.symm
    rw [e]
    exact q1
theorem ok_applied (M : Blt mg) (G_applied : Gf K mg "applied" s_applied ["width", "matrix", "vector"]) : FnOk P w K mg base CX0 1 G_applied.f G_applied.fd ["width", "matrix", "vector"] (spV K spec_img) := by
  refine fn_ok G_applied.F sc_applied (fun ds Q ⟨a, e, _⟩ => by rw [e]; rfl) fun cdv A outer s0 H E hr => ⟨_, _, (dss_one (ds_retF (df_lc (own := [("i", 3)]) rfl sc_applied.nd (di_range1 M.range (da_cons (de_var 0) da_nil)) (blkOk_by (by rfl)) (fun _ _ _ _ _ => (dg_name (i := 3) sc_applied.nd)) (gin_name (by decide)) gmo_name (fun _ _ _ _ _ => dts_nil) (fun _ _ _ _ _ => (de_callB (cs_sum (K := K)) (cr_sum rfl) M.sum (by decide +kernel) (da_cons (DF.v (df_lc (own := [("j", 4)]) rfl sc_applied.nd (di_range1 M.range (da_cons (de_var 0) da_nil)) (blkOk_by (by rfl)) (fun _ _ _ _ _ => (dg_name (i := 4) sc_applied.nd)) (gin_name (by decide)) gmo_name (fun _ _ _ _ _ => dts_nil) (fun _ _ _ _ _ => (de_mulK (de_ix K (de_var 1) (de_add (de_mulK (de_var 0) (de_var 3)) (de_var 4))) (de_ix K (de_var 2) (de_var 4)))))) da_nil)))))), ?_⟩
  rintro ds Q ⟨⟨n, a, b⟩, e, ⟨hn, ha, hb, ba, bb⟩, q⟩
  have q1 : Q (.f (intL (imgL n a b))) := q _ rfl
  clear q
  replace ha : a.length = n * n := ha
  replace hb : b.length = n := hb
  replace hn : n ≤ 7 := hn
  have hnn := sq_small hn
  replace e : ds = [D.int (n : Int), .lst (intL a), .lst (intL b)] := e
  rw [intL_ent ha, intL_ent hb] at e
  subst e
  walk_at "wp"
  refine i_mapN (n := n) _ (fun i => .int (imgA n a b i n)) (dLs_rng n) (by omega) rfl (fun i hi R hR => ?_) ?_
  · walk_at "wp"
    refine i_mapN (n := n) _ (fun j => .int (ent a (n * i + j) * ent b j)) (dLs_rng n) (by omega) rfl (fun j hj R' hR' => ?_) ?_
    · walk_at "wp"
      refine i_ixL (dLs_at2 (at_lt hi hj)) ?_
      walk_at "wp"
      refine i_ixL (dLs_at hj) ?_
      refine i_mul (fits (ba.ent _) (bb.ent _)) ?_
      exact hR' _ rfl
    · walk_at "wp"
      refine i_sumN ?_
      rw [sumTo_list]
      exact hR _ rfl
  · walk_at "wp"
    have e : (dLs n fun i => D.int (imgA n a b i n)) = intL (imgL n a b) := intL_rng.symm
    rw [e]
    exact q1
theorem ok_L_times (M : Blt mg) (G_L_times : Gf K mg "_law_times" s_L_times ["_law_width", "_law_one", "_law_other"]) : FnOk P w K mg base CX0 1 G_L_times.f G_L_times.fd ["_law_width", "_law_one", "_law_other"] (spV K spec_mul) := by
  refine fn_ok G_L_times.F sc_L_times (fun ds Q ⟨a, e, _⟩ => by rw [e]; rfl) fun cdv A outer s0 H E hr => ⟨_, _, (dss_cons (ds_setO (i := 3) sc_L_times.nd (df_lst da_nil))
      (dss_cons (ds_for PassesOwn.never rfl (di_range1 M.range (da_cons (de_var 0) da_nil)) (dg_name (i := 4) sc_L_times.nd) (dss_one (ds_for PassesOwn.never rfl (di_range1 M.range (da_cons (de_var 0) da_nil)) (dg_name (i := 5) sc_L_times.nd) (dss_one (ds_app 3 (fun h => pe_bm PySem.F.plainAttrs_list PySem.F.slot_list_append PySem.F.type_list_append mt_append (pv 3) (pa_cons h pa_nil)) (de_callB (cs_sum (K := K)) (cr_sum rfl) M.sum (by decide +kernel) (da_cons (DF.v (df_lc (own := [("_law_k", 6)]) rfl sc_L_times.nd (di_range1 M.range (da_cons (de_var 0) da_nil)) (blkOk_by (by rfl)) (fun _ _ _ _ _ => (dg_name (i := 6) sc_L_times.nd)) (gin_name (by decide)) gmo_name (fun _ _ _ _ _ => dts_nil) (fun _ _ _ _ _ => (de_mulK (de_ix K (de_var 2) (de_add (de_mulK (de_var 0) (de_var 4)) (de_var 6))) (de_ix K (de_var 1) (de_add (de_mulK (de_var 0) (de_var 6)) (de_var 5))))))) da_nil)))))))
      (dss_one (ds_retO 3)))), ?_⟩
  rintro ds Q ⟨⟨n, a, b⟩, e, ⟨hn, ha, hb, ba, bb⟩, q⟩
  have q1 : Q (.f (intL (mulL n a b))) := q _ rfl
  clear q
  replace ha : a.length = n * n := ha
  replace hb : b.length = n * n := hb
  replace hn : n ≤ 7 := hn
  have hnn := sq_small hn
  replace e : ds = [D.int (n : Int), .lst (intL a), .lst (intL b)] := e
  rw [intL_ent ha, intL_ent hb] at e
  subst e
  let c : Nat → D := fun t => .int (mulA n a b (t / n) n (t % n))
  walk_at "wp"
  refine ⟨fun i γ => i ≤ n ∧ ∃ s4 s5, γ = [.val (.int n), .val (.lst (dLs (n * n) fun i => .int (ent a i))), .val (.lst (dLs (n * n) fun i => .int (ent b i))), .own false (dLs (n * i) c), s4, s5, .any], ⟨by omega, _, _, rfl⟩, ?_, ?_⟩
  · rintro i d γ hd ⟨hi, s4, s5, rfl⟩
    obtain ⟨rfl, hi⟩ := rng0_inv hd
    replace hi : i < n := hi
    walk_at "wp"
    refine ⟨fun j γ => j ≤ n ∧ ∃ s5, γ = [.val (.int n), .val (.lst (dLs (n * n) fun i => .int (ent a i))), .val (.lst (dLs (n * n) fun i => .int (ent b i))), .own false (dLs (n * i + j) c), .val (.int i), s5, .any], ⟨by omega, _, rfl⟩, ?_, ?_⟩
    · rintro j d γ hd ⟨hj, s5, rfl⟩
      obtain ⟨rfl, hj⟩ := rng0_inv hd
      replace hj : j < n := hj
      have hij := at_lt hi hj
      walk_at "wp"
      refine i_mapN (n := n) _ (fun k => .int (ent b (n * i + k) * ent a (n * k + j))) (dLs_rng n) (by omega) rfl (fun k hk R' hR' => ?_) ?_
      · walk_at "wp"
        refine i_ixL (dLs_at2 (at_lt hi hk)) ?_
        walk_at "wp"
        refine i_ixL (dLs_at2 (at_lt hk hj)) ?_
        refine i_mul (fits (bb.ent _) (ba.ent _)) ?_
        exact hR' _ rfl
      · walk_at "wp"
        refine i_sumN ?_
        rw [sumTo_list]
        walk_at "wp"
        have e : dLs (n * i + j) c ++ [.int (sumTo (fun k => ent b (n * i + k) * ent a (n * k + j)) n)] = dLs (n * i + j + 1) c := by
          rw [← dLs_snoc]
          show _ = _ ++ [D.int (mulA n a b ((n * i + j) / n) n ((n * i + j) % n))]
          rw [at_div hj, at_mod hj]
          rfl
        rw [e]
        walk_at "wp"
        exact ⟨hj, _, rfl⟩
    · rintro γ ⟨_, s5, rfl⟩
      rw [rngD_len]
      walk_at "wp"
      exact ⟨hi, _, _, rfl⟩
  · rintro γ ⟨_, s4, s5, rfl⟩
    rw [rngD_len]
    walk_at "wp"
    have e : dLs (n * (n : Int).toNat) c = intL (mulL n a b) := intL_rng.symm
    rw [e]
    exact q1
theorem ok_L_image (M : Blt mg) (G_L_image : Gf K mg "_law_image" s_L_image ["_law_width", "_law_matrix_here", "_law_vector"]) : FnOk P w K mg base CX0 1 G_L_image.f G_L_image.fd ["_law_width", "_law_matrix_here", "_law_vector"] (spV K spec_img) := by
  refine fn_ok G_L_image.F sc_L_image (fun ds Q ⟨a, e, _⟩ => by rw [e]; rfl) fun cdv A outer s0 H E hr => ⟨_, _, (dss_cons (ds_setO (i := 3) sc_L_image.nd (df_lst da_nil))
      (dss_cons (ds_for PassesOwn.never rfl (di_range1 M.range (da_cons (de_var 0) da_nil)) (dg_name (i := 4) sc_L_image.nd) (dss_cons (ds_set (i := 5) sc_L_image.nd de_int)
      (dss_cons (ds_for PassesOwn.never rfl (di_range1 M.range (da_cons (de_var 0) da_nil)) (dg_name (i := 6) sc_L_image.nd) (dss_one (ds_set (i := 5) sc_L_image.nd (de_add (de_var 5) (de_mulK (de_ix K (de_var 1) (de_add (de_mulK (de_var 0) (de_var 4)) (de_var 6))) (de_ix K (de_var 2) (de_var 6)))))))
      (dss_one (ds_app 3 (fun h => pe_bm PySem.F.plainAttrs_list PySem.F.slot_list_append PySem.F.type_list_append mt_append (pv 3) (pa_cons h pa_nil)) (de_var 5))))))
      (dss_one (ds_retO 3)))), ?_⟩
  rintro ds Q ⟨⟨n, a, b⟩, e, ⟨hn, ha, hb, ba, bb⟩, q⟩
  have q1 : Q (.f (intL (imgL n a b))) := q _ rfl
  clear q
  replace ha : a.length = n * n := ha
  replace hb : b.length = n := hb
  replace hn : n ≤ 7 := hn
  have hnn := sq_small hn
  replace e : ds = [D.int (n : Int), .lst (intL a), .lst (intL b)] := e
  rw [intL_ent ha, intL_ent hb] at e
  subst e
  walk_at "wp"
  refine ⟨fun i γ => i ≤ n ∧ ∃ s4 s5 s6, γ = [.val (.int n), .val (.lst (dLs (n * n) fun i => .int (ent a i))), .val (.lst (dLs n fun i => .int (ent b i))), .own false (dLs i fun i => .int (imgA n a b i n)), s4, s5, s6], ⟨by omega, _, _, _, rfl⟩, ?_, ?_⟩
  · rintro i d γ hd ⟨hi, s4, s5, s6, rfl⟩
    obtain ⟨rfl, hi⟩ := rng0_inv hd
    replace hi : i < n := hi
    walk_at "wp"
    refine ⟨fun j γ => j ≤ n ∧ ∃ s6, γ = [.val (.int n), .val (.lst (dLs (n * n) fun i => .int (ent a i))), .val (.lst (dLs n fun i => .int (ent b i))), .own false (dLs i fun i => .int (imgA n a b i n)), .val (.int i), .val (.int (imgA n a b i j)), s6], ⟨by omega, _, rfl⟩, ?_, ?_⟩
    · rintro j d γ hd ⟨hj, s6, rfl⟩
      obtain ⟨rfl, hj⟩ := rng0_inv hd
      replace hj : j < n := hj
      walk_at "wp"
      refine i_ixL (dLs_at2 (at_lt hi hj)) ?_
      walk_at "wp"
      refine i_ixL (dLs_at hj) ?_
      refine i_mul (fits (ba.ent _) (bb.ent _)) ?_
      walk_at "wp"
      exact ⟨hj, _, rfl⟩
    · rintro γ ⟨_, s6, rfl⟩
      rw [rngD_len]
      walk_at "wp"
      have e : (dLs i fun i => D.int (imgA n a b i n)) ++ [.int (imgA n a b i (n : Int).toNat)] = dLs (i + 1) fun i => .int (imgA n a b i n) := dLs_snoc (f := fun i => .int (imgA n a b i n))
      rw [e]
      walk_at "wp"
      exact ⟨hi, _, _, _, rfl⟩
  · rintro γ ⟨_, s4, s5, s6, rfl⟩
    rw [rngD_len]
    walk_at "wp"
    have e : (dLs (n : Int).toNat fun i => D.int (imgA n a b i n)) = intL (imgL n a b) := intL_rng.symm
    rw [e]
    exact q1
end

/-! ### the law -/
abbrev s_L_matrix : Stmt := topS 8
theorem sc_L_matrix : FnScope ["_law_pool_here", "_law_width", "_law_at"] ["_law_pool_here", "_law_width"] (defScope s_L_matrix) := ⟨rfl, rfl, rfl, by decide +kernel, rfl, by decide +kernel, by decide +kernel⟩

abbrev s_law : Stmt := topS 11
theorem sc_law : FnScope ["_law_script", "_law_pool_here", "_law_width", "_law_one", "_law_two", "_law_three", "_law_vector", "_law_passed", "_law_both", "_law_behind", "_law_left", "_law_unit", "_law_told", "_law_k", "_law_at"] ["_law_script"] (defScope s_law) := ⟨rfl, rfl, rfl, by decide +kernel, rfl, by decide +kernel, by decide +kernel⟩

theorem rng_sq (n : Nat) : rngD 0 ((n : Int) * (n : Int)).toNat = dLs (n * n) fun i => .int (i : Int) := by
  rw [← Int.natCast_mul, Int.toNat_natCast]
  exact dLs_rng _
theorem unit_e {n i : Nat} : (if decide ((i : Int) % ((n : Int) + 1) = 0) = true then (1 : Int) else 0) = if i % (n + 1) = 0 then 1 else 0 := by
  have e : (i : Int) % ((n : Int) + 1) = ((i % (n + 1) : Nat) : Int) := by rw [Int.natCast_emod, Int.natCast_add]; rfl
  by_cases h : i % (n + 1) = 0
  · rw [if_pos h, if_pos (decide_eq_true (by rw [e, h]; rfl))]
  · rw [if_neg h, if_neg (fun z => h (by have := of_decide_eq_true z; omega))]
theorem unit_l (n : Nat) : (dLs (n * n) fun i => D.int (if decide ((i : Int) % ((n : Int) + 1) = 0) = true then 1 else 0)) = intL (unitL n) := by
  unfold unitL
  rw [intL_rng]
  exact dLs_congr fun i _ => by rw [unit_e]
def spec_L_matrix : SpecP := SpecP.of (fun n : Nat => [.int (n : Int)]) PoolP (fun n => n ≤ 7) (fun n r => ∃ m : List Int, r = .d (.lst (intL m)) ∧ m.length = n * n ∧ Bd 164 m)
theorem num_bd {n : Int} (h0 : -tenE49 ≤ n) (h1 : n < tenE49) : n.natAbs < 2 ^ 164 := by
  have e : tenE49 = 10000000000000000000000000000000000000000000000000 := rfl
  have e2 : 2 ^ 164 = 23384026197294446691258957323460528314494920687616 := by decide
  rw [e2]
  omega
theorem bd_snoc {k : Nat} {m : List Int} {x : Int} (h : Bd k m) (hx : x.natAbs < 2 ^ k) : Bd k (m ++ [x]) := fun y hy => by
  rcases List.mem_append.mp hy with z | z
  · exact h y z
  · rw [List.mem_singleton.mp z]; exact hx
theorem mul_i {n : Nat} {a b : List Int} {P : Rv → Prop} (hn : n ≤ 7) (ha : a.length = n * n) (hb : b.length = n * n) (ba : Bd 1000 a) (bb : Bd 1000 b) (q : P (.f (intL (mulL n a b)))) : spec_mul.S [.int (n : Int), .lst (intL a), .lst (intL b)] P :=
  ⟨(n, a, b), rfl, ⟨hn, ha, hb, ba, bb⟩, fun r hr => by subst hr; exact q⟩
theorem img_i {n : Nat} {a b : List Int} {P : Rv → Prop} (hn : n ≤ 7) (ha : a.length = n * n) (hb : b.length = n) (ba : Bd 1000 a) (bb : Bd 1000 b) (q : P (.f (intL (imgL n a b)))) : spec_img.S [.int (n : Int), .lst (intL a), .lst (intL b)] P :=
  ⟨(n, a, b), rfl, ⟨hn, ha, hb, ba, bb⟩, fun r hr => by subst hr; exact q⟩
theorem same_i {k : Nat} {d e : D} {P : Rv → Prop} (h : d = e) (hd : Dep k d) (q : P (.d (.bl true))) : (spec_L_same k).S [d, e] P := by
  subst h
  exact ⟨d, rfl, hd, fun r hr => by subst hr; exact q⟩
theorem dep_ints {m : List Int} (h : m.length ≤ 100000) : Dep 2 (.lst (intL m)) := ⟨by rw [List.length_map]; exact h, fun d hd => by
  obtain ⟨i, _, rfl⟩ := List.mem_map.mp hd
  trivial⟩
section
variable {P : Program} {w : World} {K : PySem.W.Frag} {mg : Str → Option Value} {base : Heap}
theorem ok_L_matrix (M : Blt mg) (G_L_draw : Gf K mg "_law_draw" s_L_draw ["_law_pool_here", "_law_many"]) (G_L_number : Gf K mg "_law_number" s_L_number ["_law_pool_here"]) (G_L_matrix : Gf K mg "_law_matrix" s_L_matrix ["_law_pool_here", "_law_width"]) : FnOk P w K mg base CX0 3 G_L_matrix.f G_L_matrix.fd ["_law_pool_here", "_law_width"] (spP K spec_L_matrix) := by
  have H_L_draw : FnOk P w K mg base CX0 1 G_L_draw.f G_L_draw.fd ["_law_pool_here", "_law_many"] (spP K spec_L_draw) := ok_L_draw M G_L_draw
  have H_L_number : FnOk P w K mg base CX0 2 G_L_number.f G_L_number.fd ["_law_pool_here"] (spP K spec_L_number) := ok_L_number M G_L_draw G_L_number
  refine fn_okP G_L_matrix.F sc_L_matrix (fun pl ds Q ⟨_, a, e, _⟩ => by rw [e]; rfl) fun cdv A outer s0 H E hr => ⟨_, _, (dss_cons (ds_if (dt_eq (de_callP K 0 H_L_draw (hr.mono (by decide)) G_L_draw.g G_L_draw.F.kp G_L_draw.b (da_cons de_int da_nil)) de_int) (dss_one (ds_ret (DF.v (df_lc (own := [("_law_at", 2)]) rfl sc_L_matrix.nd (di_range1 M.range (da_cons (de_mulK (de_var 1) (de_var 1)) da_nil)) (blkOk_by (by rfl)) (fun _ _ _ _ _ => (dg_name (i := 2) sc_L_matrix.nd)) (gin_name (by decide)) gmo_name (fun _ _ _ _ _ => dts_nil) (fun _ _ _ _ _ => (de_callTy (cs_int (K := K)) call_int1 M.int (by decide +kernel) (da_cons (de_eq (de_mod (de_var 2) (de_add (de_var 1) de_int)) de_int) da_nil))))))) dss_nil)
      (dss_one (ds_ret (DF.v (df_lc (own := [("_law_at", 2)]) rfl sc_L_matrix.nd (di_range1 M.range (da_cons (de_mulK (de_var 1) (de_var 1)) da_nil)) (blkOk_by (by rfl)) (fun _ _ _ _ _ => (dg_name (i := 2) sc_L_matrix.nd)) (gin_name (by decide)) gmo_name (fun _ _ _ _ _ => dts_nil) (fun _ _ _ _ _ => (de_callP K 0 H_L_number (hr.mono (by decide)) G_L_number.g G_L_number.F.kp G_L_number.b da_nil))))))), ?_⟩
  rintro pl ds Q ⟨hp, n, rfl, hn, q⟩
  replace hn : n ≤ 7 := hn
  have hnn := sq_small hn
  have hnn2 : (n : Int) * (n : Int) ≤ 100000 := by
    have : (n : Int) * (n : Int) = ((n * n : Nat) : Int) := by rw [Int.natCast_mul]
    omega
  have hnn3 : 0 ≤ (n : Int) * (n : Int) := Int.mul_nonneg (by omega) (by omega)
  walk_at "wp"
  refine draw_i (many := 6) hp (.of (by omega)) fun k pl1 k0 k1 hp1 => ?_
  walk_at "wp"
  refine i_ite (fun hb => ?_) (fun hb => ?_)
  · walk_at "wp"
    refine i_mapN (n := n * n) _ (fun i => .int (if decide ((i : Int) % ((n : Int) + 1) = 0) = true then 1 else 0)) (rng_sq n) (by omega) rfl (fun i hi R hR => ?_) ?_
    · walk_at "wp"
      exact hR _ rfl
    · rw [unit_l]
      walk_at "wp"
      exact ⟨pl1, rfl, q _ _ ⟨_, rfl, unitL_len, unitL_bd.le (by decide)⟩ hp1⟩
  · walk_at "wp"
    refine i_mapJ (fun i acc γ => ∃ pl m, γ = [.own true pl, .val (.int n), .any] ∧ PoolP pl ∧ acc = intL m ∧ m.length = i ∧ Bd 164 m) hnn2 ⟨pl1, [], rfl, hp1, rfl, rfl, fun x hx => by cases hx⟩ (fun i acc γ' ⟨pl, m, e, _⟩ => by subst e; rfl) ?_ ?_
    · rintro i acc γ' hi ⟨pl, m, rfl, hp, rfl, rfl, bm⟩
      walk_at "wp"
      refine number_i hp fun x pl' x0 x1 hp' => ?_
      walk_at "wp"
      refine ⟨pl', m ++ [x], rfl, hp', ?_, ?_, bd_snoc bm (num_bd x0 x1)⟩
      · rw [intL, intL, List.map_append]; rfl
      · rw [List.length_append]; rfl
    · rintro acc γ' ⟨pl, m, rfl, hp, rfl, e, bm⟩
      walk_at "wp"
      refine ⟨pl, rfl, q _ _ ⟨m, rfl, ?_, bm⟩ hp⟩
      show m.length = n * n
      rw [e, ← Int.natCast_mul, Int.toNat_natCast]
theorem matrix_i {n : Nat} {pl : List D} {P : Rv → List D → Prop} (hp : PoolP pl) (hn : n ≤ 7) (q : ∀ m pl', m.length = n * n → Bd 164 m → PoolP pl' → P (.d (.lst (intL m))) pl') : spec_L_matrix.S pl [.int (n : Int)] P :=
  ⟨hp, n, rfl, hn, fun r pl' ⟨m, e, h0, h1⟩ hp' => by subst e; exact q m pl' h0 h1 hp'⟩
theorem ok_law (M : Blt mg) (G_L_pool : Gf K mg "_law_pool" s_L_pool ["_law_script"]) (G_L_draw : Gf K mg "_law_draw" s_L_draw ["_law_pool_here", "_law_many"]) (G_L_number : Gf K mg "_law_number" s_L_number ["_law_pool_here"])
    (G_L_same : Gf K mg "_law_same" s_L_same ["_law_actual", "_law_due"]) (G_composed : Gf K mg "composed" s_composed ["width", "one", "other"]) (G_applied : Gf K mg "applied" s_applied ["width", "matrix", "vector"])
    (G_L_times : Gf K mg "_law_times" s_L_times ["_law_width", "_law_one", "_law_other"]) (G_L_image : Gf K mg "_law_image" s_L_image ["_law_width", "_law_matrix_here", "_law_vector"])
    (G_L_matrix : Gf K mg "_law_matrix" s_L_matrix ["_law_pool_here", "_law_width"]) (G_law : Gf K mg "law" s_law ["_law_script"]) : FnOk P w K mg base CX0 4 G_law.f G_law.fd ["_law_script"] (spS K specLaw) := by
  have H_L_pool := ok_L_pool (P := P) (w := w) (base := base) M G_L_pool
  have H_L_draw : FnOk P w K mg base CX0 1 G_L_draw.f G_L_draw.fd ["_law_pool_here", "_law_many"] (spP K spec_L_draw) := ok_L_draw M G_L_draw
  have H_L_number := ok_L_number (P := P) (w := w) (base := base) M G_L_draw G_L_number
  have H_L_matrix := ok_L_matrix (P := P) (w := w) (base := base) M G_L_draw G_L_number G_L_matrix
  have H_composed := ok_composed (P := P) (w := w) (base := base) M G_composed
  have H_applied := ok_applied (P := P) (w := w) (base := base) M G_applied
  have H_L_times := ok_L_times (P := P) (w := w) (base := base) M G_L_times
  have H_L_image := ok_L_image (P := P) (w := w) (base := base) M G_L_image
  have H_L_same : FnOk P w K mg base CX0 3 G_L_same.f G_L_same.fd ["_law_actual", "_law_due"] (spV K (spec_L_same 3)) := ok_L_same M G_L_same 3
  refine fn_okS G_law.F sc_law rfl fun cdv A outer s0 H E hr => ⟨_, _, (dss_cons (ds_setO (i := 1) sc_law.nd (df_callScr K 0 H_L_pool (hr.mono (by decide)) G_L_pool.g G_L_pool.F.kp G_L_pool.b))
      (dss_cons (ds_set (i := 2) sc_law.nd (de_add de_int (de_callP K 1 H_L_draw (hr.mono (by decide)) G_L_draw.g G_L_draw.F.kp G_L_draw.b (da_cons de_int da_nil))))
      (dss_cons (ds_set (i := 3) sc_law.nd (de_callP K 1 H_L_matrix (hr.mono (by decide)) G_L_matrix.g G_L_matrix.F.kp G_L_matrix.b (da_cons (de_var 2) da_nil)))
      (dss_cons (ds_set (i := 4) sc_law.nd (de_callP K 1 H_L_matrix (hr.mono (by decide)) G_L_matrix.g G_L_matrix.F.kp G_L_matrix.b (da_cons (de_var 2) da_nil)))
      (dss_cons (ds_set (i := 5) sc_law.nd (de_callP K 1 H_L_matrix (hr.mono (by decide)) G_L_matrix.g G_L_matrix.F.kp G_L_matrix.b (da_cons (de_var 2) da_nil)))
      (dss_cons (ds_setLc (i := 6) (own := [("_law_k", 13)]) rfl sc_law.nd (di_range1 M.range (da_cons (de_var 2) da_nil)) (blkOk_by (by rfl)) (fun _ _ _ _ _ => (dg_name (i := 13) sc_law.nd)) (gin_name (by decide)) gmo_name (fun _ _ _ _ _ => dts_nil) (fun _ _ _ _ _ => (de_callP K 1 H_L_number (hr.mono (by decide)) G_L_number.g G_L_number.F.kp G_L_number.b da_nil)))
      (dss_frz 6 (dss_cons (ds_set (i := 7) sc_law.nd (DF.v (df_lst (da_cons (DF.v (df_list K M.list (de_var 3))) (da_cons (DF.v (df_list K M.list (de_var 4))) (da_cons (DF.v (df_list K M.list (de_var 5))) (da_cons (DF.v (df_list K M.list (de_var 6))) da_nil)))))))
      (dss_cons (ds_setO (i := 8) sc_law.nd (df_call K H_composed (hr.mono (by decide)) G_composed.g G_composed.F.kp G_composed.b (da_cons (de_var 2) (da_cons (de_ix K (de_var 7) de_int) (da_cons (de_ix K (de_var 7) de_int) da_nil)))))
      (dss_cons (ds_if (dt_lend 8 (dt_not (dt_tr K (de_call K H_L_same (hr.mono (by decide)) G_L_same.g G_L_same.F.kp G_L_same.b (da_cons (de_var 8) (da_cons (DF.v (df_call K H_L_times (hr.mono (by decide)) G_L_times.g G_L_times.F.kp G_L_times.b (da_cons (de_var 2) (da_cons (de_var 3) (da_cons (de_var 4) da_nil))))) da_nil)))))) (dss_one (ds_ret de_bl)) dss_nil)
      (dss_cons (ds_if (dt_not (dt_tr K (de_call K H_L_same (hr.mono (by decide)) G_L_same.g G_L_same.F.kp G_L_same.b (da_cons (DF.v (df_call K H_applied (hr.mono (by decide)) G_applied.g G_applied.F.kp G_applied.b (da_cons (de_var 2) (da_cons (de_ix K (de_var 7) de_int) (da_cons (de_ix K (de_var 7) de_int) da_nil))))) (da_cons (DF.v (df_call K H_L_image (hr.mono (by decide)) G_L_image.g G_L_image.F.kp G_L_image.b (da_cons (de_var 2) (da_cons (de_var 3) (da_cons (de_var 6) da_nil))))) da_nil))))) (dss_one (ds_ret de_bl)) dss_nil)
      (dss_cons (ds_set (i := 9) sc_law.nd (DF.v (df_call K H_applied (hr.mono (by decide)) G_applied.g G_applied.F.kp G_applied.b (da_cons (de_var 2) (da_cons (de_ix K (de_var 7) de_int) (da_cons (DF.v (df_call K H_applied (hr.mono (by decide)) G_applied.g G_applied.F.kp G_applied.b (da_cons (de_var 2) (da_cons (de_ix K (de_var 7) de_int) (da_cons (de_ix K (de_var 7) de_int) da_nil))))) da_nil))))))
      (dss_cons (ds_if (dt_lend 8 (DW.dt (dw_or (dt_not (dt_tr K (de_call K H_L_same (hr.mono (by decide)) G_L_same.g G_L_same.F.kp G_L_same.b (da_cons (de_var 9) (da_cons (DF.v (df_call K H_applied (hr.mono (by decide)) G_applied.g G_applied.F.kp G_applied.b (da_cons (de_var 2) (da_cons (de_var 8) (da_cons (de_ix K (de_var 7) de_int) da_nil))))) da_nil))))) (dw_or1 (dt_not (dt_tr K (de_call K H_L_same (hr.mono (by decide)) G_L_same.g G_L_same.F.kp G_L_same.b (da_cons (de_var 7) (da_cons (DF.v (df_lst (da_cons (de_var 3) (da_cons (de_var 4) (da_cons (de_var 5) (da_cons (de_var 6) da_nil)))))) da_nil))))))))) (dss_one (ds_ret de_bl)) dss_nil)
      (dss_cons (ds_set (i := 10) sc_law.nd (DF.v (df_call K H_composed (hr.mono (by decide)) G_composed.g G_composed.F.kp G_composed.b (da_cons (de_var 2) (da_cons (DF.v (df_call K H_composed (hr.mono (by decide)) G_composed.g G_composed.F.kp G_composed.b (da_cons (de_var 2) (da_cons (de_ix K (de_var 7) de_int) (da_cons (de_ix K (de_var 7) de_int) da_nil))))) (da_cons (de_ix K (de_var 7) de_int) da_nil))))))
      (dss_cons (ds_if (dt_not (dt_tr K (de_call K H_L_same (hr.mono (by decide)) G_L_same.g G_L_same.F.kp G_L_same.b (da_cons (de_var 10) (da_cons (DF.v (df_call K H_composed (hr.mono (by decide)) G_composed.g G_composed.F.kp G_composed.b (da_cons (de_var 2) (da_cons (de_ix K (de_var 7) de_int) (da_cons (DF.v (df_call K H_composed (hr.mono (by decide)) G_composed.g G_composed.F.kp G_composed.b (da_cons (de_var 2) (da_cons (de_ix K (de_var 7) de_int) (da_cons (de_ix K (de_var 7) de_int) da_nil))))) da_nil))))) da_nil))))) (dss_one (ds_ret de_bl)) dss_nil)
      (dss_cons (ds_setLc (i := 11) (own := [("_law_at", 14)]) rfl sc_law.nd (di_range1 M.range (da_cons (de_mulK (de_var 2) (de_var 2)) da_nil)) (blkOk_by (by rfl)) (fun _ _ _ _ _ => (dg_name (i := 14) sc_law.nd)) (gin_name (by decide)) gmo_name (fun _ _ _ _ _ => dts_nil) (fun _ _ _ _ _ => (de_callTy (cs_int (K := K)) call_int1 M.int (by decide +kernel) (da_cons (de_eq (de_mod (de_var 14) (de_add (de_var 2) de_int)) de_int) da_nil))))
      (dss_frz 11 (dss_cons (ds_forTwo K (i := 12) PassesOwn.never rfl sc_law.nd (df_call K H_composed (hr.mono (by decide)) G_composed.g G_composed.F.kp G_composed.b (da_cons (de_var 2) (da_cons (de_var 11) (da_cons (de_ix K (de_var 7) de_int) da_nil)))) (df_call K H_composed (hr.mono (by decide)) G_composed.g G_composed.F.kp G_composed.b (da_cons (de_var 2) (da_cons (de_ix K (de_var 7) de_int) (da_cons (de_var 11) da_nil)))) (dss_cons (ds_if (dt_lend 12 (dt_not (dt_tr K (de_call K H_L_same (hr.mono (by decide)) G_L_same.g G_L_same.F.kp G_L_same.b (da_cons (de_var 12) (da_cons (de_var 3) da_nil)))))) (dss_one (ds_ret de_bl)) dss_nil)
      (dss_one (ds_app 12 (fun h => pe_bm PySem.F.plainAttrs_list PySem.F.slot_list_append PySem.F.type_list_append mt_append (pv 12) (pa_cons h pa_nil)) de_int))))
      (dss_cons (ds_if (DW.dt (dw_or (dt_not (dt_tr K (de_call K H_L_same (hr.mono (by decide)) G_L_same.g G_L_same.F.kp G_L_same.b (da_cons (de_ix K (de_var 7) de_int) (da_cons (de_var 3) da_nil))))) (dw_or1 (dt_ne (de_callB (cs_len (K := K)) call_len_seq M.len PySem.boot_len (da_cons (de_var 11) da_nil)) (de_mulK (de_var 2) (de_var 2)))))) (dss_one (ds_ret de_bl)) dss_nil)
      (dss_cons (ds_app 8 (fun h => pe_bm PySem.F.plainAttrs_list PySem.F.slot_list_append PySem.F.type_list_append mt_append (pv 8) (pa_cons h pa_nil)) de_int)
      (dss_one (ds_ret (de_call K H_L_same (hr.mono (by decide)) G_L_same.g G_L_same.F.kp G_L_same.b (da_cons (DF.v (df_call K H_composed (hr.mono (by decide)) G_composed.g G_composed.F.kp G_composed.b (da_cons (de_var 2) (da_cons (de_ix K (de_var 7) de_int) (da_cons (de_ix K (de_var 7) de_int) da_nil))))) (da_cons (DF.v (df_call K H_L_times (hr.mono (by decide)) G_L_times.g G_L_times.F.kp G_L_times.b (da_cons (de_var 2) (da_cons (de_var 3) (da_cons (de_var 4) da_nil))))) da_nil))))))))))))))))))))))))), ?_⟩
  rintro ns Q ⟨h63, q⟩
  walk_at "wp"
  refine ⟨h63, fun pl hp => ?_⟩
  walk_at "wp"
  refine draw_i (many := 6) hp (.of (by omega)) fun k pl k0 k1 hp => ?_
  obtain ⟨n, en⟩ : ∃ n : Nat, 2 + k = (n : Int) := ⟨(2 + k).toNat, by omega⟩
  have hn : n ≤ 7 := by omega
  have hnn := sq_small hn
  have hnn2 : (n : Int) * (n : Int) ≤ 100000 := by
    have : (n : Int) * (n : Int) = ((n * n : Nat) : Int) := by rw [Int.natCast_mul]
    omega
  have hnn3 : 0 ≤ (n : Int) * (n : Int) := Int.mul_nonneg (by omega) (by omega)
  walk_at "wp"
  rw [en]
  clear en k0 k1 k
  refine matrix_i hp hn fun a pl ha ba hp => ?_
  walk_at "wp"
  refine matrix_i hp hn fun b pl hb bb hp => ?_
  walk_at "wp"
  refine matrix_i hp hn fun c pl hc bc hp => ?_
  walk_at "wp"
  refine i_mapJ (fun i acc γ => ∃ pl v, γ = [.scr ns, .own false pl, .val (.int n), .val (.lst (intL a)), .val (.lst (intL b)), .val (.lst (intL c)), .any, .any, .any, .any, .any, .any, .any, .any, .any] ∧ PoolP pl ∧ acc = intL v ∧ v.length = i ∧ Bd 164 v) (by omega) ⟨pl, [], rfl, hp, rfl, rfl, fun x hx => by cases hx⟩ (fun i acc γ' ⟨pl, m, e, _⟩ => by subst e; rfl) ?_ ?_
  · rintro i acc γ' hi ⟨pl, m, rfl, hp, rfl, rfl, bm⟩
    walk_at "wp"
    refine number_i hp fun x pl' x0 x1 hp' => ?_
    walk_at "wp"
    refine ⟨pl', m ++ [x], rfl, hp', ?_, ?_, bd_snoc bm (num_bd x0 x1)⟩
    · rw [intL, intL, List.map_append]; rfl
    · rw [List.length_append]; rfl
  rintro acc γ' ⟨pl, v, rfl, hp, rfl, hv, bv⟩
  replace hv : v.length = n := hv
  clear hp
  have sa : a.length ≤ 100000 := by omega
  have sb : b.length ≤ 100000 := by omega
  have sc : c.length ≤ 100000 := by omega
  have sv : v.length ≤ 100000 := by omega
  have hab : (mulL n a b).length = n * n := mulL_len
  have bab : Bd 331 (mulL n a b) := mulL_bd hn ba bb
  have hbc : (mulL n b c).length = n * n := mulL_len
  have bbc : Bd 331 (mulL n b c) := mulL_bd hn bb bc
  have hav : (imgL n a v).length = n := imgL_len
  have bav : Bd 331 (imgL n a v) := imgL_bd hn ba bv
  have hu : (unitL n).length = n * n := unitL_len
  have bu : Bd 1 (unitL n) := unitL_bd
  have low : ∀ {j m}, Bd j m → j ≤ 1000 → Bd 1000 m := fun h k => h.le k
  have d2 : ∀ {m : List Int}, m.length ≤ 100000 → Dep 3 (.lst (intL m)) := fun h => (dep_ints h).mono
  walk_at "wp"
  refine mul_i hn ha hb (low ba (by decide)) (low bb (by decide)) ?_
  walk_at "wp"
  refine mul_i hn ha hb (low ba (by decide)) (low bb (by decide)) ?_
  walk_at "wp"
  refine same_i rfl (d2 (by omega)) ?_
  walk_at "wp"
  refine img_i hn ha hv (low ba (by decide)) (low bv (by decide)) ?_
  walk_at "wp"
  refine img_i hn ha hv (low ba (by decide)) (low bv (by decide)) ?_
  walk_at "wp"
  refine same_i rfl (d2 (by omega)) ?_
  walk_at "wp"
  refine img_i hn ha hv (low ba (by decide)) (low bv (by decide)) ?_
  walk_at "wp"
  refine img_i hn hb hav (low bb (by decide)) (low bav (by decide)) ?_
  walk_at "wp"
  refine img_i hn hab hv (low bab (by decide)) (low bv (by decide)) ?_
  walk_at "wp"
  refine same_i (by rw [img_mul]) (d2 (by rw [imgL_len]; omega)) ?_
  walk_at "wp"
  refine same_i rfl ?_ ?_
  · refine ⟨by show 4 ≤ 100000; decide, fun d hd => ?_⟩
    simp only [List.mem_cons, List.not_mem_nil, or_false] at hd
    rcases hd with rfl | rfl | rfl | rfl <;> exact dep_ints (by assumption)
  walk_at "wp"
  refine mul_i hn ha hb (low ba (by decide)) (low bb (by decide)) ?_
  walk_at "wp"
  refine mul_i hn hab hc (low bab (by decide)) (low bc (by decide)) ?_
  walk_at "wp"
  refine mul_i hn hb hc (low bb (by decide)) (low bc (by decide)) ?_
  walk_at "wp"
  refine mul_i hn ha hbc (low ba (by decide)) (low bbc (by decide)) ?_
  walk_at "wp"
  refine same_i (by rw [mul_assoc3]) (d2 (by rw [mulL_len]; omega)) ?_
  walk_at "wp"
  refine i_mapN (n := n * n) _ (fun i => .int (if decide ((i : Int) % ((n : Int) + 1) = 0) = true then 1 else 0)) (rng_sq n) (by omega) rfl (fun i hi R hR => ?_) ?_
  · walk_at "wp"
    exact hR _ rfl
  rw [unit_l]
  walk_at "wp"
  refine mul_i hn hu ha (low bu (by decide)) (low ba (by decide)) ?_
  walk_at "wp"
  refine mul_i hn ha hu (low ba (by decide)) (low bu (by decide)) ?_
  rw [unit_mul ha, mul_unit ha]
  walk_at "wp"
  refine ⟨fun γ => ∃ s12, γ = [.scr ns, .own false pl, .val (.int n), .val (.lst (intL a)), .val (.lst (intL b)), .val (.lst (intL c)), .val (.lst (intL v)), .val (.lst [.lst (intL a), .lst (intL b), .lst (intL c), .lst (intL v)]), .own false (intL (mulL n a b)), .val (.lst (intL (imgL n b (imgL n a v)))), .val (.lst (intL (mulL n (mulL n a b) c))), .val (.lst (intL (unitL n))), s12, .any, .any], ?_, ?_⟩
  · walk_at "wp"
    refine same_i rfl (d2 (by omega)) ?_
    walk_at "wp"
    exact ⟨_, rfl⟩
  rintro γ ⟨s12, rfl⟩
  walk_at "wp"
  refine same_i rfl (d2 (by omega)) ?_
  walk_at "wp"
  refine same_i rfl (d2 (by omega)) ?_
  walk_at "wp"
  have e : ((intL (unitL n)).length : Int) = (n : Int) * (n : Int) := by
    rw [List.length_map, unitL_len, Int.natCast_mul]
  rw [e]
  refine i_iteN (fun h => absurd rfl h) (fun _ => ?_)
  walk_at "wp"
  refine mul_i hn ha hb (low ba (by decide)) (low bb (by decide)) ?_
  walk_at "wp"
  refine mul_i hn ha hb (low ba (by decide)) (low bb (by decide)) ?_
  walk_at "wp"
  refine same_i rfl (d2 (by omega)) ?_
  exact q
end

/-! ### the row -/
def dt_composed : He.DefD := ⟨("composed", none), "composed", "composed", defArgs s_composed, defBody s_composed, defScope s_composed, [], []⟩
def dt_applied : He.DefD := ⟨("applied", none), "applied", "applied", defArgs s_applied, defBody s_applied, defScope s_applied, [], []⟩
def dt_L_pool : He.DefD := ⟨("_law_pool", none), "_law_pool", "_law_pool", defArgs s_L_pool, defBody s_L_pool, defScope s_L_pool, [], []⟩
def dt_L_draw : He.DefD := ⟨("_law_draw", none), "_law_draw", "_law_draw", defArgs s_L_draw, defBody s_L_draw, defScope s_L_draw, [], []⟩
def dt_L_number : He.DefD := ⟨("_law_number", none), "_law_number", "_law_number", defArgs s_L_number, defBody s_L_number, defScope s_L_number, [], []⟩
def dt_L_same : He.DefD := ⟨("_law_same", none), "_law_same", "_law_same", defArgs s_L_same, defBody s_L_same, defScope s_L_same, [], []⟩
def dt_L_matrix : He.DefD := ⟨("_law_matrix", none), "_law_matrix", "_law_matrix", defArgs s_L_matrix, defBody s_L_matrix, defScope s_L_matrix, [], []⟩
def dt_L_times : He.DefD := ⟨("_law_times", none), "_law_times", "_law_times", defArgs s_L_times, defBody s_L_times, defScope s_L_times, [], []⟩
def dt_L_image : He.DefD := ⟨("_law_image", none), "_law_image", "_law_image", defArgs s_L_image, defBody s_L_image, defScope s_L_image, [], []⟩
def dt_law : He.DefD := ⟨("law", none), "law", "law", defArgs s_law, defBody s_law, defScope s_law, [], []⟩
def fnT : List He.DefD := [dt_composed, dt_applied, dt_L_pool, dt_L_draw, dt_L_number, dt_L_same, dt_L_matrix, dt_L_times, dt_L_image, dt_law]
def faT : List He.Fa := [.glo "composed", .glo "applied", .glo "_law_pool", .glo "_law_draw", .glo "_law_number", .glo "_law_same", .glo "_law_matrix", .glo "_law_times", .glo "_law_image", .glo "law", .free "range", .free "enumerate", .free "zip", .free "sum", .free "len", .free "int", .free "list", .free "isinstance", .free "bool", .free "str", .free "tuple"]
abbrev RT : PySem.W.OpenRow := PySem.W.OpenLaw.row PySem.Challenge.rw_sharedboard_k01_matrices
abbrev hkT : PySem.W.Hook := He.hookD 4 faT fnT
def obT (s : PySem.W.SharedT) : He.AlD := He.obsDG 4 faT fnT (HandSHeadRun.getT s)
theorem obT_eq (s : PySem.W.SharedT) : obT s = hkT.obs s.abs := He.obsDG_eq (HandSHeadRun.getT_eq s)
def looseT : List Str := ["composed", "applied", "_law_pool", "_law_draw", "_law_number", "_law_same", "_law_matrix", "_law_times", "_law_image"]
theorem runT (w : World) : HandSHeadRun.RunEq RT (PySem.W.view RT.prog [11]) hkT obT 4000 looseT w := by
  intro os
  kernel_rfl
theorem bd_composed {K : PySem.W.Frag} {f : Addr} {fd : FuncData} (F : FunD K "composed" "composed" (defArgs s_composed) (defBody s_composed) (defScope s_composed) [] [] f fd) (s : Shared) (us : List Value) (hl : us.length = (["width", "one", "other"] : List Str).length) : BindsTo s fd ⟨us, []⟩ ((["width", "one", "other"] : List Str).zip us) := FunD.bindsA (ps := ["width", "one", "other"]) F (fun _ _ _ _ _ _ us hl => match us, hl with | [_, _, _], _ => rfl) s us hl
theorem bd_applied {K : PySem.W.Frag} {f : Addr} {fd : FuncData} (F : FunD K "applied" "applied" (defArgs s_applied) (defBody s_applied) (defScope s_applied) [] [] f fd) (s : Shared) (us : List Value) (hl : us.length = (["width", "matrix", "vector"] : List Str).length) : BindsTo s fd ⟨us, []⟩ ((["width", "matrix", "vector"] : List Str).zip us) := FunD.bindsA (ps := ["width", "matrix", "vector"]) F (fun _ _ _ _ _ _ us hl => match us, hl with | [_, _, _], _ => rfl) s us hl
theorem bd_L_pool {K : PySem.W.Frag} {f : Addr} {fd : FuncData} (F : FunD K "_law_pool" "_law_pool" (defArgs s_L_pool) (defBody s_L_pool) (defScope s_L_pool) [] [] f fd) (s : Shared) (us : List Value) (hl : us.length = (["_law_script"] : List Str).length) : BindsTo s fd ⟨us, []⟩ ((["_law_script"] : List Str).zip us) := FunD.bindsA (ps := ["_law_script"]) F (fun _ _ _ _ _ _ us hl => match us, hl with | [_], _ => rfl) s us hl
theorem bd_L_draw {K : PySem.W.Frag} {f : Addr} {fd : FuncData} (F : FunD K "_law_draw" "_law_draw" (defArgs s_L_draw) (defBody s_L_draw) (defScope s_L_draw) [] [] f fd) (s : Shared) (us : List Value) (hl : us.length = (["_law_pool_here", "_law_many"] : List Str).length) : BindsTo s fd ⟨us, []⟩ ((["_law_pool_here", "_law_many"] : List Str).zip us) := FunD.bindsA (ps := ["_law_pool_here", "_law_many"]) F (fun _ _ _ _ _ _ us hl => match us, hl with | [_, _], _ => rfl) s us hl
theorem bd_L_number {K : PySem.W.Frag} {f : Addr} {fd : FuncData} (F : FunD K "_law_number" "_law_number" (defArgs s_L_number) (defBody s_L_number) (defScope s_L_number) [] [] f fd) (s : Shared) (us : List Value) (hl : us.length = (["_law_pool_here"] : List Str).length) : BindsTo s fd ⟨us, []⟩ ((["_law_pool_here"] : List Str).zip us) := FunD.bindsA (ps := ["_law_pool_here"]) F (fun _ _ _ _ _ _ us hl => match us, hl with | [_], _ => rfl) s us hl
theorem bd_L_same {K : PySem.W.Frag} {f : Addr} {fd : FuncData} (F : FunD K "_law_same" "_law_same" (defArgs s_L_same) (defBody s_L_same) (defScope s_L_same) [] [] f fd) (s : Shared) (us : List Value) (hl : us.length = (["_law_actual", "_law_due"] : List Str).length) : BindsTo s fd ⟨us, []⟩ ((["_law_actual", "_law_due"] : List Str).zip us) := FunD.bindsA (ps := ["_law_actual", "_law_due"]) F (fun _ _ _ _ _ _ us hl => match us, hl with | [_, _], _ => rfl) s us hl
theorem bd_L_matrix {K : PySem.W.Frag} {f : Addr} {fd : FuncData} (F : FunD K "_law_matrix" "_law_matrix" (defArgs s_L_matrix) (defBody s_L_matrix) (defScope s_L_matrix) [] [] f fd) (s : Shared) (us : List Value) (hl : us.length = (["_law_pool_here", "_law_width"] : List Str).length) : BindsTo s fd ⟨us, []⟩ ((["_law_pool_here", "_law_width"] : List Str).zip us) := FunD.bindsA (ps := ["_law_pool_here", "_law_width"]) F (fun _ _ _ _ _ _ us hl => match us, hl with | [_, _], _ => rfl) s us hl
theorem bd_L_times {K : PySem.W.Frag} {f : Addr} {fd : FuncData} (F : FunD K "_law_times" "_law_times" (defArgs s_L_times) (defBody s_L_times) (defScope s_L_times) [] [] f fd) (s : Shared) (us : List Value) (hl : us.length = (["_law_width", "_law_one", "_law_other"] : List Str).length) : BindsTo s fd ⟨us, []⟩ ((["_law_width", "_law_one", "_law_other"] : List Str).zip us) := FunD.bindsA (ps := ["_law_width", "_law_one", "_law_other"]) F (fun _ _ _ _ _ _ us hl => match us, hl with | [_, _, _], _ => rfl) s us hl
theorem bd_L_image {K : PySem.W.Frag} {f : Addr} {fd : FuncData} (F : FunD K "_law_image" "_law_image" (defArgs s_L_image) (defBody s_L_image) (defScope s_L_image) [] [] f fd) (s : Shared) (us : List Value) (hl : us.length = (["_law_width", "_law_matrix_here", "_law_vector"] : List Str).length) : BindsTo s fd ⟨us, []⟩ ((["_law_width", "_law_matrix_here", "_law_vector"] : List Str).zip us) := FunD.bindsA (ps := ["_law_width", "_law_matrix_here", "_law_vector"]) F (fun _ _ _ _ _ _ us hl => match us, hl with | [_, _, _], _ => rfl) s us hl
theorem bd_law {K : PySem.W.Frag} {f : Addr} {fd : FuncData} (F : FunD K "law" "law" (defArgs s_law) (defBody s_law) (defScope s_law) [] [] f fd) (s : Shared) (us : List Value) (hl : us.length = (["_law_script"] : List Str).length) : BindsTo s fd ⟨us, []⟩ ((["_law_script"] : List Str).zip us) := FunD.bindsA (ps := ["_law_script"]) F (fun _ _ _ _ _ _ us hl => match us, hl with | [_], _ => rfl) s us hl
theorem factsT {P : Program} {w : World} {K : PySem.W.Frag} {h : Heap} {mg : Str → Option Value} {f : Addr} (X : K.In h) (G : h.Ns mainGlobals mg) (hfa : mg ("law" : Str) = some (.ref f)) (c : He.SaysD faT fnT K) :
    ∃ fd : FuncData, (∀ (s : Shared) (v : Value), BindsTo s fd ⟨[v], []⟩ [("_law_script", v)]) ∧ ∀ base : Heap, K.In base → base.Ns mainGlobals mg → FnOk P w K mg base CX0 4 f fd ["_law_script"] (spS K specLaw) := by
  obtain ⟨d_composed, F_composed⟩ := c.def_ 0 (d := dt_composed) rfl
  let G_composed : Gf K mg "composed" s_composed ["width", "one", "other"] := ⟨_, d_composed, fun_of F_composed, He.glo_ok X G (c.fact 0 (f := .glo "composed") rfl), FunD.bindsN (ps := ["width", "one", "other"]) F_composed fun _ _ _ _ _ _ us hl => match us, hl with | [_, _, _], _ => rfl⟩
  obtain ⟨d_applied, F_applied⟩ := c.def_ 1 (d := dt_applied) rfl
  let G_applied : Gf K mg "applied" s_applied ["width", "matrix", "vector"] := ⟨_, d_applied, fun_of F_applied, He.glo_ok X G (c.fact 1 (f := .glo "applied") rfl), FunD.bindsN (ps := ["width", "matrix", "vector"]) F_applied fun _ _ _ _ _ _ us hl => match us, hl with | [_, _, _], _ => rfl⟩
  obtain ⟨d_L_pool, F_L_pool⟩ := c.def_ 2 (d := dt_L_pool) rfl
  let G_L_pool : Gf K mg "_law_pool" s_L_pool ["_law_script"] := ⟨_, d_L_pool, fun_of F_L_pool, He.glo_ok X G (c.fact 2 (f := .glo "_law_pool") rfl), FunD.bindsN (ps := ["_law_script"]) F_L_pool fun _ _ _ _ _ _ us hl => match us, hl with | [_], _ => rfl⟩
  obtain ⟨d_L_draw, F_L_draw⟩ := c.def_ 3 (d := dt_L_draw) rfl
  let G_L_draw : Gf K mg "_law_draw" s_L_draw ["_law_pool_here", "_law_many"] := ⟨_, d_L_draw, fun_of F_L_draw, He.glo_ok X G (c.fact 3 (f := .glo "_law_draw") rfl), FunD.bindsN (ps := ["_law_pool_here", "_law_many"]) F_L_draw fun _ _ _ _ _ _ us hl => match us, hl with | [_, _], _ => rfl⟩
  obtain ⟨d_L_number, F_L_number⟩ := c.def_ 4 (d := dt_L_number) rfl
  let G_L_number : Gf K mg "_law_number" s_L_number ["_law_pool_here"] := ⟨_, d_L_number, fun_of F_L_number, He.glo_ok X G (c.fact 4 (f := .glo "_law_number") rfl), FunD.bindsN (ps := ["_law_pool_here"]) F_L_number fun _ _ _ _ _ _ us hl => match us, hl with | [_], _ => rfl⟩
  obtain ⟨d_L_same, F_L_same⟩ := c.def_ 5 (d := dt_L_same) rfl
  let G_L_same : Gf K mg "_law_same" s_L_same ["_law_actual", "_law_due"] := ⟨_, d_L_same, fun_of F_L_same, He.glo_ok X G (c.fact 5 (f := .glo "_law_same") rfl), FunD.bindsN (ps := ["_law_actual", "_law_due"]) F_L_same fun _ _ _ _ _ _ us hl => match us, hl with | [_, _], _ => rfl⟩
  obtain ⟨d_L_matrix, F_L_matrix⟩ := c.def_ 6 (d := dt_L_matrix) rfl
  let G_L_matrix : Gf K mg "_law_matrix" s_L_matrix ["_law_pool_here", "_law_width"] := ⟨_, d_L_matrix, fun_of F_L_matrix, He.glo_ok X G (c.fact 6 (f := .glo "_law_matrix") rfl), FunD.bindsN (ps := ["_law_pool_here", "_law_width"]) F_L_matrix fun _ _ _ _ _ _ us hl => match us, hl with | [_, _], _ => rfl⟩
  obtain ⟨d_L_times, F_L_times⟩ := c.def_ 7 (d := dt_L_times) rfl
  let G_L_times : Gf K mg "_law_times" s_L_times ["_law_width", "_law_one", "_law_other"] := ⟨_, d_L_times, fun_of F_L_times, He.glo_ok X G (c.fact 7 (f := .glo "_law_times") rfl), FunD.bindsN (ps := ["_law_width", "_law_one", "_law_other"]) F_L_times fun _ _ _ _ _ _ us hl => match us, hl with | [_, _, _], _ => rfl⟩
  obtain ⟨d_L_image, F_L_image⟩ := c.def_ 8 (d := dt_L_image) rfl
  let G_L_image : Gf K mg "_law_image" s_L_image ["_law_width", "_law_matrix_here", "_law_vector"] := ⟨_, d_L_image, fun_of F_L_image, He.glo_ok X G (c.fact 8 (f := .glo "_law_image") rfl), FunD.bindsN (ps := ["_law_width", "_law_matrix_here", "_law_vector"]) F_L_image fun _ _ _ _ _ _ us hl => match us, hl with | [_, _, _], _ => rfl⟩
  obtain ⟨d_law, F_law⟩ := c.def_ 9 (d := dt_law) rfl
  let G_law : Gf K mg "law" s_law ["_law_script"] := ⟨_, d_law, fun_of F_law, He.glo_ok X G (c.fact 9 (f := .glo "law") rfl), FunD.bindsN (ps := ["_law_script"]) F_law fun _ _ _ _ _ _ us hl => match us, hl with | [_], _ => rfl⟩
  have e := hfa.symm.trans (He.glo_ok X G (c.fact 9 (f := .glo "law") rfl))
  cases e
  have M : Blt mg := ⟨He.free_ok X G (c.fact 10 (f := .free "range") rfl), He.free_ok X G (c.fact 11 (f := .free "enumerate") rfl), He.free_ok X G (c.fact 12 (f := .free "zip") rfl), He.free_ok X G (c.fact 13 (f := .free "sum") rfl), He.free_ok X G (c.fact 14 (f := .free "len") rfl), He.free_ok X G (c.fact 15 (f := .free "int") rfl), He.free_ok X G (c.fact 16 (f := .free "list") rfl), He.free_ok X G (c.fact 17 (f := .free "isinstance") rfl), He.free_ok X G (c.fact 18 (f := .free "bool") rfl), He.free_ok X G (c.fact 19 (f := .free "str") rfl), He.free_ok X G (c.fact 20 (f := .free "tuple") rfl)⟩
  exact ⟨d_law, fun s v => bd_law F_law s [v] rfl, fun base _ _ => (ok_law M G_L_pool G_L_draw G_L_number G_L_same G_composed G_applied G_L_times G_L_image G_L_matrix G_law)⟩
end Kx
open PySem PySem.W PySem.Calls PyProof.Rows
theorem PySem.Challenge.cw_sharedboard_k01_matrices_holds : PySem.Challenge.rw_sharedboard_k01_matrices.Holds := by
  w_on; o_law
  refine HandSHeadRun.head_any (r := OpenLaw.row PySem.Challenge.rw_sharedboard_k01_matrices) (q := view (OpenLaw.row PySem.Challenge.rw_sharedboard_k01_matrices).prog [11]) (H := Kx.hkT) (ob := Kx.obT) (M := 4000) (loose := Kx.looseT) (d := HandSHeadRun.topDef (OpenLaw.row PySem.Challenge.rw_sharedboard_k01_matrices).prog 11) (kwd := []) Kx.obT_eq
    (by kernel_rfl) (fun s => by kernel_rfl) Kx.runT (by kernel_rfl) (by kernel_rfl) (by kernel_rfl) (by rfl) (by first | assumption | decide +kernel) (by decide +kernel) ⟨rfl, rfl, rfl, rfl, rfl, by decide +kernel⟩ ?hw ?hc
  case hw => w_witness2
  case hc =>
    refine L2.walk_ofE (l := PySem.Challenge.rw_sharedboard_k01_matrices) (n := 63) (k := 4) (x := "_law_script") (CX := L2.CX0) rfl (by decide) (by kernel_rfl) ⟨rfl, by decide, by decide⟩ ?F (fun _ _ _ _ z => z)
    intro w mg fa h Y G hmg0
    obtain ⟨K, KX, c⟩ := Y
    have hmg : mg ("law" : PySem.Str) = some (.ref fa) := by
      have e : (HandSHeadRun.topDef (OpenLaw.row PySem.Challenge.rw_sharedboard_k01_matrices).prog 11).name = ("law" : PySem.Str) := by kernel_rfl
      rw [← e]
      exact hmg0
    obtain ⟨fd, hb, hF⟩ := Kx.factsT (P := (PySem.Challenge.rw_sharedboard_k01_matrices).prog) (w := w) KX G hmg c
    exact ⟨K, fd, DL.spS K DL.specLaw, KX, hb, fun H a ns hl _ hS => DL.law_sp H a ns hl hS, hF⟩

