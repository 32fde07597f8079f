import PyProof.Rows.All
import PySem.Challenge.RW_sharedboard_k22_spaces_made
import Wide.All
import OpenK.AllK
import Wide.FinOn
import HandS.ForMost
import HandS.HeadHook2
import HandS.HeadHook3
import HandS.TupAny
import HandS.WideBits
import HandS.ExcInit
import HandS.ExcField
import HandS.TryMany
import HandS.Wide
import HandS.IsInst
import HandS.ExcOwn
import HandS.WordsExc
import HandS.Defaults
import HandS.Head0
import HandS.Head1
import HandS.Head2
import HandS.HeadEnd
import HandS.HeadHook1
import HandS.OwnEq
import HandS.Style
import PyProof.RulesMatch
import HandS.FStr
import HandS.Star
import HandS.Text
import HandS.MakeKwOnly
import KE.GoesEnum
import HandS.TupMul
import HandS.GenList
import PyProof.GenComp
import KE.KExcIs
set_option Elab.async false
set_option linter.all false
set_option autoImplicit false
set_option maxRecDepth 100000
set_option maxHeartbeats 4000000
/-! DL0: what the head's run is asked (it stands ahead of all else: the run wants much memory). -/
namespace DL
open PySem PySem.Spec PyProof.Rows L2 He
def tysD : List String := ["NoneType", "bool", "int", "str", "list", "tuple", "dict"]
def seerB (K : PySem.W.Frag) : Bool :=
  decide (PySem.W.nsIn K cStatics "sys.audit-hooks" = some none) && (decide (PySem.W.nsIn K cStatics "sys.dict" = some none) &&
  ((match K.lookup sysModules with
    | some ⟨_, _, .dict es _, _⟩ => es.toList.all (fun e => match e.key with | .str _ _ => true | _ => false) && (nsFind es "_pylong").isNone
    | _ => false) &&
  (match PySem.W.nsIn K mainGlobals "__builtins__" with
    | some (some (.ref bm)) => (match K.lookup bm with
      | some ⟨c, d, _, _⟩ => decide (c = .type "module") && decide (d = some builtinsNs)
      | _ => false)
    | _ => false)))
def obsE (fa : List Fa) (fn : List DefD) (ex : List (PySem.W.Frag → Bool)) (K : PySem.W.Frag) : AlD := ((obsD fa fn K).1 && ex.all fun e => e K, (obsD fa fn K).2)
def SaysE (fa : List Fa) (fn : List DefD) (ex : List (PySem.W.Frag → Bool)) (K : PySem.W.Frag) : Prop := obsE fa fn ex K = valD fn
def obsEG (n : Nat) (fa : List Fa) (fn : List DefD) (ex : List (PySem.W.Frag → Bool)) (g : Addr → Option Obj) : AlD := obsE fa fn ex (frG g (asD g n ++ [cStatics, sysModules]))
def hookE (n : Nat) (fa : List Fa) (fn : List DefD) (ex : List (PySem.W.Frag → Bool)) : PySem.W.Hook where
  α := AlD
  obs := fun s => obsEG n fa fn ex s.heap.get?
  val := fun _ => valD fn
  says := fun _ h => ∃ K : PySem.W.Frag, K.In h ∧ SaysE fa fn ex K
  of := fun _ _ e => ⟨_, frG_in, e⟩
  keeps := fun _ _ _ ⟨K, hK, c⟩ k => ⟨K, PySem.W.Frag.In.keeps hK k, c⟩
/-- an own class's facts -/
def clsB (x : Str) (K : PySem.W.Frag) : Bool :=
  (Fa.cls x).ok K && (eqO (PySem.W.findIn K (.ref (ga K x)) "__class__") (some (some (.builtin "object.__class__"))) &&
  (eqO (PySem.W.specialIn K (.builtin "object.__class__") "__get__") (some (some (.builtin "getset_descriptor.__get__"))) &&
  (decide (PySem.W.takesIn K (.builtin "object.__class__") = some true) &&
  (decide (PySem.W.mroIn K (ga K x) (.type "object") = some true) &&
  (tysD.all (fun T => decide (PySem.W.kitOne K (.ref (ga K x)) (.type T) = some false)) &&
  (decide (PySem.W.kitOne K (.ref (ga K x)) (.ref (ga K x)) = some true) &&
  (tysD.all (fun T => decide (PySem.W.kitOne K (.type T) (.ref (ga K x)) = some false)) &&
  (PySem.W.selfFirst K (ga K x) && (PySem.W.makesIn K (ga K x) && PySem.W.keepIn K (.ref (ga K x)))))))))))
def noatB (x : Str) (fields : List Str) (K : PySem.W.Frag) : Bool := fields.all fun f => eqO (PySem.W.findIn K (.ref (ga K x)) f) (some none)
def obsET (fa : List Fa) (fn : List DefD) (ex : List (PySem.W.Frag → Bool)) (ts : List Tab) (K : PySem.W.Frag) : AlT := (obsE fa fn ex K, ts.map fun t => dicW K (t.1 K))
def valET (fn : List DefD) (ts : List Tab) (w : World) : AlT := (valD fn, ts.map fun t => some (keysIn w.params t.2))
def SaysET (fa : List Fa) (fn : List DefD) (ex : List (PySem.W.Frag → Bool)) (ts : List Tab) (w : World) (K : PySem.W.Frag) : Prop := obsET fa fn ex ts K = valET fn ts w
def obsETG (n : Nat) (fa : List Fa) (fn : List DefD) (ex : List (PySem.W.Frag → Bool)) (ts : List Tab) (g : Addr → Option Obj) : AlT := obsET fa fn ex ts (frG g (asD g n ++ [cStatics, sysModules]))
def hookET (n : Nat) (fa : List Fa) (fn : List DefD) (ex : List (PySem.W.Frag → Bool)) (ts : List Tab) : PySem.W.Hook where
  α := AlT
  obs := fun s => obsETG n fa fn ex ts s.heap.get?
  val := fun w => valET fn ts w
  says := fun w h => ∃ K : PySem.W.Frag, K.In h ∧ SaysET fa fn ex ts w K
  of := fun _ _ e => ⟨_, frG_in, e⟩
  keeps := fun _ _ _ ⟨K, hK, c⟩ k => ⟨K, PySem.W.Frag.In.keeps hK k, c⟩
/-- the table at the module's name x: its items, words that are no keys -/
def kdB (x : Str) (kvs : List (Str × Int)) (no : List Str) (K : PySem.W.Frag) : Bool := valsB K (ga K x) (kvs.map fun q => (q.1, Dv.int q.2)) && no.all fun z => eqO (PySem.W.nsIn K (ga K x) z) (some none)
end DL
set_option Elab.async false
set_option linter.all false
set_option autoImplicit false
set_option maxRecDepth 100000
set_option maxHeartbeats 4000000
/-! DL0b: what the head's run is asked of own exception classes. -/
namespace DL
open PySem PySem.Spec PyProof.Rows L2 He
/-- its object's form -/
def oexC1 (K : PySem.W.Frag) (C : Addr) : Bool := match K.lookup C with
  | some ⟨.type "type", _, .cls cd, sl⟩ => (match cd.mro, sl.toList with
    | .ref C' :: bm, [_, _, _, _, some (.builtin n), _] => C' == C && (n == "ValueError.__new__" && (!cd.hasDel && (cd.hasDict && PySem.HandSPX.refsVE (.ref C' :: bm))))
    | _, _ => false)
  | _ => false
def baseB (x : Str) (K : PySem.W.Frag) : Bool := decide (PySem.W.subIn K (.ref (ga K x)) (.type "BaseException") = some true) && (decide (PySem.W.typeIn K (.ref (ga K x)) = some (.type "type")) && PySem.W.keepIn K (.ref (ga K x)))
/-- a class with its own __init__ -/
def oexB (x : Str) (K : PySem.W.Frag) : Bool := oexC1 K (ga K x) && (eqO (PySem.W.findIn K (.ref (ga K x)) "__setattr__") (some (some (.builtin "object.__setattr__"))) && baseB x K)
/-- a class without one -/
def exc0B (x : Str) (K : PySem.W.Frag) : Bool := PySem.W.excIn K (ga K x) [.type "ValueError", .type "Exception", .type "BaseException", .type "object"] "ValueError.__new__" && baseB x K
/-- caught by its name, its field f read -/
def xhB (x f : Str) (K : PySem.W.Frag) : Bool := decide (PySem.W.exmOne K (.ref (ga K x)) (.ref (ga K x)) = some true) && (xfB K (ga K x) && eqO (PySem.W.findIn K (.ref (ga K x)) f) (some none))
end DL
set_option Elab.async false
set_option linter.all false
set_option autoImplicit false
set_option maxRecDepth 100000
set_option maxHeartbeats 4000000
/-! DL0c: what the head's run is asked of a class that is caught by its own name. -/
namespace DL
open PySem PySem.Spec PyProof.Rows L2 He
def exmB (x : Str) (K : PySem.W.Frag) : Bool := decide (PySem.W.exmOne K (.ref (ga K x)) (.ref (ga K x)) = some true)
end DL
set_option Elab.async false
set_option linter.all false
set_option autoImplicit false
set_option maxRecDepth 100000
set_option maxHeartbeats 4000000
/-! DL0d: what the head's run is asked of two classes of which the one is not caught by the other's name. -/
namespace DL
open PySem PySem.Spec PyProof.Rows L2 He
def exmN (x y : Str) (K : PySem.W.Frag) : Bool := decide (PySem.W.exmOne K (.ref (ga K x)) (.ref (ga K y)) = some false)
theorem exmN_ok {K : PySem.W.Frag} {x y : Str} (c : exmN x y K = true) : PySem.W.exmOne K (.ref (ga K x)) (.ref (ga K y)) = some false := of_decide_eq_true c
end DL
set_option Elab.async false
set_option linter.all false
set_option autoImplicit false
set_option maxRecDepth 100000
set_option maxHeartbeats 4000000
/-! DL0e: what the head's run is asked of an own exception class that isinstance looks at. -/
namespace DL
open PySem PySem.Spec PyProof.Rows L2 He
def xisB (x : Str) (K : PySem.W.Frag) : Bool := decide ((PySem.W.clsIn K (ga K x)).isSome = true) && decide (PySem.W.findIn K (.ref (ga K x)) "__getattribute__" = some (some (.builtin "BaseException.__getattribute__"))) &&
  decide (PySem.W.findIn K (.ref (ga K x)) "__getattr__" = some none) && decide (PySem.W.subIn K (.ref (ga K x)) (.type "BaseException") = some true) && decide (PySem.W.findIn K (.ref (ga K x)) "__class__" = some (some (.builtin "object.__class__"))) &&
  decide (PySem.W.specialIn K (.builtin "object.__class__") "__get__" = some (some (.builtin "getset_descriptor.__get__"))) && decide (PySem.W.takesIn K (.builtin "object.__class__") = some true) && decide (PySem.W.mroIn K (ga K x) (.type "object") = some true)
def kitXB (x y : Str) (b : Bool) (K : PySem.W.Frag) : Bool := decide (PySem.W.kitOne K (.ref (ga K x)) (.ref (ga K y)) = some b)
theorem kitXB_ok {K : PySem.W.Frag} {x y : Str} {b : Bool} (c : kitXB x y b K = true) : PySem.W.kitOne K (.ref (ga K x)) (.ref (ga K y)) = some b := of_decide_eq_true c
end DL
set_option Elab.async false
set_option linter.all false
set_option autoImplicit false
set_option maxRecDepth 100000
set_option maxHeartbeats 4000000
/-! DL: a layer of plain data over the hand layer: values as trees, no heap in sight. -/
namespace DL
open PySem PySem.Spec PyProof.Rows L2

/-- plain data -/
inductive D where
  | non | bl (b : Bool) | int (i : Int) | str (s : Str) | lst (ds : List D) | tup (ds : List D)
  /-- an instance of the class at C, by its attributes -/
  | obj (C : Addr) (fs : List (Str × D))
  /-- an empty dict -/
  | emp
  /-- a box: what stands at p now -/
  | ref (p : Addr)
  deriving Inhabited

/-- at the stable heap S the value denotes the data -/
inductive Den (S : Hp) : V → D → Prop
  | non : Den S .non .non
  | bl (b : Bool) : Den S (.bl b) (.bl b)
  | int (i : Int) : Den S (.int i) (.int i)
  | str (s : Str) : Den S (.str s) (.str s)
  | lst {a : Addr} {xs : List V} {ds : List D} (h : S a = some (.lst xs)) (hl : xs.length = ds.length) (hs : ∀ (i : Nat) x d, xs[i]? = some x → ds[i]? = some d → Den S x d) : Den S (.ref a) (.lst ds)
  | tup {a : Addr} {xs : List V} {ds : List D} (h : S a = some (.tup xs)) (hl : xs.length = ds.length) (hs : ∀ (i : Nat) x d, xs[i]? = some x → ds[i]? = some d → Den S x d) : Den S (.ref a) (.tup ds)
  | obj {a dx C : Addr} {vs : List (Str × V)} {fs : List (Str × D)} (h : S a = some (.ins C dx vs)) (hl : vs.length = fs.length) (hn : ∀ (i : Nat) x d, vs[i]? = some x → fs[i]? = some d → x.1 = d.1) (hs : ∀ (i : Nat) x d, vs[i]? = some x → fs[i]? = some d → Den S x.2 d.2) : Den S (.ref a) (.obj C fs)
  | emp {a : Addr} (h : S a = some (.dK [])) : Den S (.ref a) .emp
  | ref (p : Addr) : Den S (.ref p) (.ref p)

def DenL (S : Hp) (xs : List V) (ds : List D) : Prop := xs.length = ds.length ∧ ∀ (i : Nat) x d, xs[i]? = some x → ds[i]? = some d → Den S x d

section
variable {S S' : Hp} {v x : V} {d : D} {xs ys : List V} {ds es : List D}
theorem Den.mono (h : Den S v d) (e : Same S S') : Den S' v d := by
  induction h with
  | non => exact .non
  | bl b => exact .bl b
  | int i => exact .int i
  | str s => exact .str s
  | lst h hl hs ih => exact .lst (e _ _ h) hl fun i x d h1 h2 => ih i x d h1 h2
  | tup h hl hs ih => exact .tup (e _ _ h) hl fun i x d h1 h2 => ih i x d h1 h2
  | obj h hl hn hs ih => exact .obj (e _ _ h) hl hn fun i x d h1 h2 => ih i x d h1 h2
  | emp h => exact .emp (e _ _ h)
  | ref p => exact .ref p
theorem DenL.mono (h : DenL S xs ds) (e : Same S S') : DenL S' xs ds := ⟨h.1, fun i x d h1 h2 => (h.2 i x d h1 h2).mono e⟩
theorem DenL.nil : DenL S [] [] := ⟨rfl, fun i x d h => by simp at h⟩
theorem DenL.cons (h : Den S x d) (t : DenL S xs ds) : DenL S (x :: xs) (d :: ds) := by
  refine ⟨by rw [List.length_cons, List.length_cons, t.1], fun i y e h1 h2 => ?_⟩
  cases i with
  | zero =>
    rw [List.getElem?_cons_zero] at h1 h2
    cases h1; cases h2
    exact h
  | succ i =>
    rw [List.getElem?_cons_succ] at h1 h2
    exact t.2 i y e h1 h2
theorem DenL.tail (t : DenL S (x :: xs) (d :: ds)) : DenL S xs ds := ⟨by have := t.1; simpa using this, fun i y e h1 h2 => t.2 (i + 1) y e (by simpa using h1) (by simpa using h2)⟩
theorem DenL.head (t : DenL S (x :: xs) (d :: ds)) : Den S x d := t.2 0 x d rfl rfl
theorem DenL.nil_inv (h : DenL S xs []) : xs = [] := List.length_eq_zero_iff.mp h.1
theorem DenL.cons_inv {d : D} {ds : List D} (h : DenL S xs (d :: ds)) : ∃ x r, xs = x :: r ∧ Den S x d ∧ DenL S r ds := by
  cases xs with
  | nil => have := h.1; simp at this
  | cons x r => exact ⟨x, r, rfl, h.head, h.tail⟩
theorem DenL.append (h : DenL S xs ds) (k : DenL S ys es) : DenL S (xs ++ ys) (ds ++ es) := by
  refine ⟨by rw [List.length_append, List.length_append, h.1, k.1], fun i y e h1 h2 => ?_⟩
  by_cases hi : i < xs.length
  · rw [List.getElem?_append_left hi] at h1
    rw [List.getElem?_append_left (by rw [← h.1]; exact hi)] at h2
    exact h.2 i y e h1 h2
  · rw [List.getElem?_append_right (by omega)] at h1
    rw [List.getElem?_append_right (by rw [← h.1]; omega), ← h.1] at h2
    exact k.2 _ y e h1 h2
theorem DenL.snoc (h : DenL S xs ds) (k : Den S v d) : DenL S (xs ++ [v]) (ds ++ [d]) := h.append (.cons k .nil)
theorem DenL.get (h : DenL S xs ds) {i : Nat} {d : D} (e : ds[i]? = some d) : ∃ x, xs[i]? = some x ∧ Den S x d := by
  have hi : i < ds.length := (List.getElem?_eq_some_iff.mp e).1
  have hx : i < xs.length := by rw [h.1]; exact hi
  exact ⟨xs[i], List.getElem?_eq_getElem hx, h.2 i _ _ (List.getElem?_eq_getElem hx) e⟩
theorem DenL.getV (h : DenL S xs ds) {i : Nat} {x : V} (e : xs[i]? = some x) : ∃ d, ds[i]? = some d ∧ Den S x d := by
  have hi : i < xs.length := (List.getElem?_eq_some_iff.mp e).1
  have hx : i < ds.length := by rw [← h.1]; exact hi
  exact ⟨ds[i], List.getElem?_eq_getElem hx, h.2 i _ _ e (List.getElem?_eq_getElem hx)⟩
theorem DenL.take (h : DenL S xs ds) (n : Nat) : DenL S (xs.take n) (ds.take n) := by
  refine ⟨by rw [List.length_take, List.length_take, h.1], fun i y e h1 h2 => ?_⟩
  rw [List.getElem?_take] at h1 h2
  split at h1
  · rename_i hi
    rw [if_pos hi] at h2
    exact h.2 i y e h1 h2
  · cases h1
theorem DenL.drop (h : DenL S xs ds) (n : Nat) : DenL S (xs.drop n) (ds.drop n) := by
  refine ⟨by rw [List.length_drop, List.length_drop, h.1], fun i y e h1 h2 => ?_⟩
  rw [List.getElem?_drop] at h1 h2
  exact h.2 _ y e h1 h2
theorem DenL.set (h : DenL S xs ds) (k : Den S v d) (j : Nat) : DenL S (xs.set j v) (ds.set j d) := by
  refine ⟨by rw [List.length_set, List.length_set, h.1], fun i y e h1 h2 => ?_⟩
  by_cases hi : j = i
  · subst hi
    by_cases hj : j < xs.length
    · rw [List.getElem?_set_self hj] at h1
      rw [List.getElem?_set_self (by rw [← h.1]; exact hj)] at h2
      cases h1; cases h2
      exact k
    · rw [List.getElem?_eq_none (by rw [List.length_set]; omega)] at h1
      cases h1
  · rw [List.getElem?_set_ne hi] at h1 h2
    exact h.2 i y e h1 h2
theorem DenL.ints : ∀ (ns : List Int), DenL S (ns.map V.int) (ns.map D.int)
  | [] => .nil
  | n :: r => .cons (.int n) (DenL.ints r)
theorem DenL.bls_inv : ∀ {ns : List Bool} {xs : List V}, DenL S xs (ns.map D.bl) → xs = ns.map V.bl
  | [], _, h => h.nil_inv
  | n :: r, xs, h => by
    obtain ⟨x, t, rfl, h1, h2⟩ := DenL.cons_inv (d := .bl n) (ds := r.map D.bl) h
    cases h1
    rw [DenL.bls_inv h2]
    rfl
theorem Den.ofL {a : Addr} (h : S a = some (.lst xs)) (k : DenL S xs ds) : Den S (.ref a) (.lst ds) := .lst h k.1 k.2
theorem Den.ofT {a : Addr} (h : S a = some (.tup xs)) (k : DenL S xs ds) : Den S (.ref a) (.tup ds) := .tup h k.1 k.2
theorem Den.lst_inv (h : Den S v (.lst ds)) : ∃ a xs, v = .ref a ∧ S a = some (.lst xs) ∧ DenL S xs ds := by
  cases h with
  | lst h hl hs => exact ⟨_, _, rfl, h, hl, hs⟩
theorem Den.tup_inv (h : Den S v (.tup ds)) : ∃ a xs, v = .ref a ∧ S a = some (.tup xs) ∧ DenL S xs ds := by
  cases h with
  | tup h hl hs => exact ⟨_, _, rfl, h, hl, hs⟩
end

/-! ### attributes -/
/-- attributes denote data, name by name -/
def DenF (S : Hp) (vs : List (Str × V)) (fs : List (Str × D)) : Prop := vs.length = fs.length ∧ ∀ (i : Nat) x d, vs[i]? = some x → fs[i]? = some d → x.1 = d.1 ∧ Den S x.2 d.2
section
variable {S S' : Hp} {v : V} {d : D} {vs : List (Str × V)} {fs : List (Str × D)} {f : Str}
theorem DenF.mono (h : DenF S vs fs) (e : Same S S') : DenF S' vs fs := ⟨h.1, fun i x d h1 h2 => ⟨(h.2 i x d h1 h2).1, (h.2 i x d h1 h2).2.mono e⟩⟩
theorem DenF.nil : DenF S [] [] := ⟨rfl, fun i x d h => by simp at h⟩
theorem DenF.cons {x : Str × V} {d : Str × D} (e : x.1 = d.1) (h : Den S x.2 d.2) (t : DenF S vs fs) : DenF S (x :: vs) (d :: fs) := by
  refine ⟨by rw [List.length_cons, List.length_cons, t.1], fun i y c h1 h2 => ?_⟩
  cases i with
  | zero =>
    rw [List.getElem?_cons_zero] at h1 h2
    cases h1; cases h2
    exact ⟨e, h⟩
  | succ i =>
    rw [List.getElem?_cons_succ] at h1 h2
    exact t.2 i y c h1 h2
theorem DenF.tail {x : Str × V} {d : Str × D} (t : DenF S (x :: vs) (d :: fs)) : DenF S vs fs := ⟨by have := t.1; simpa using this, fun i y e h1 h2 => t.2 (i + 1) y e (by simpa using h1) (by simpa using h2)⟩
theorem DenF.head {x : Str × V} {d : Str × D} (t : DenF S (x :: vs) (d :: fs)) : x.1 = d.1 ∧ Den S x.2 d.2 := t.2 0 x d rfl rfl
theorem DenF.nil_inv (h : DenF S vs []) : vs = [] := List.length_eq_zero_iff.mp h.1
/-- an attribute by its name -/
theorem DenF.look : ∀ {vs : List (Str × V)} {fs : List (Str × D)}, DenF S vs fs → ∀ {d : D}, fs.lookup f = some d → ∃ v, vs.lookup f = some v ∧ Den S v d
  | [], [], _, d, e => by cases e
  | [], _ :: _, h, _, _ => by have := h.1; simp at this
  | _ :: _, [], h, _, _ => by have := h.1; simp at this
  | (g, x) :: vs, (k, y) :: fs, h, d, e => by
    obtain ⟨h1, h2⟩ := h.head
    have h1 : g = k := h1
    subst h1
    by_cases q : f = g
    · subst q
      rw [List.lookup_cons_self] at e ⊢
      cases e
      exact ⟨x, rfl, h2⟩
    · have b : (f == g) = false := beq_eq_false_iff_ne.mpr q
      rw [List.lookup_cons, b] at e ⊢
      exact h.tail.look e
theorem DenF.lookNone : ∀ {vs : List (Str × V)} {fs : List (Str × D)}, DenF S vs fs → fs.lookup f = none → vs.lookup f = none
  | [], _, _, _ => rfl
  | _ :: _, [], h, _ => by have := h.1; simp at this
  | (g, x) :: vs, (k, y) :: fs, h, e => by
    obtain ⟨h1, h2⟩ := h.head
    have h1 : g = k := h1
    subst h1
    by_cases q : f = g
    · subst q
      rw [List.lookup_cons_self] at e
      cases e
    · have b : (f == g) = false := beq_eq_false_iff_ne.mpr q
      rw [List.lookup_cons, b] at e ⊢
      exact h.tail.lookNone e
/-- an attribute set -/
def putD (f : Str) (d : D) : List (Str × D) → List (Str × D)
  | [] => [(f, d)]
  | (g, x) :: r => if g = f then (g, d) :: r else (g, x) :: putD f d r
theorem DenF.put : ∀ {vs : List (Str × V)} {fs : List (Str × D)}, DenF S vs fs → Den S v d → DenF S (putF f v vs) (putD f d fs)
  | [], [], _, h => .cons rfl h .nil
  | [], _ :: _, h, _ => by have := h.1; simp at this
  | _ :: _, [], h, _ => by have := h.1; simp at this
  | (g, x) :: vs, (k, y) :: fs, t, h => by
    obtain ⟨h1, h2⟩ := t.head
    have h1 : g = k := h1
    subst h1
    unfold putF putD
    by_cases q : g = f
    · rw [if_pos q, if_pos q]; exact .cons rfl h t.tail
    · rw [if_neg q, if_neg q]; exact .cons rfl h2 (t.tail.put h)
theorem Den.ofO {a dx C : Addr} (h : S a = some (.ins C dx vs)) (k : DenF S vs fs) : Den S (.ref a) (.obj C fs) := .obj h k.1 (fun i x d h1 h2 => (k.2 i x d h1 h2).1) (fun i x d h1 h2 => (k.2 i x d h1 h2).2)
theorem Den.obj_inv {C : Addr} (h : Den S v (.obj C fs)) : ∃ a dx vs, v = .ref a ∧ S a = some (.ins C dx vs) ∧ DenF S vs fs := by
  cases h with
  | obj h hl hn hs => exact ⟨_, _, _, rfl, h, hl, fun i x d h1 h2 => ⟨hn i x d h1 h2, hs i x d h1 h2⟩⟩
end

/-! ### the state: the slots' data over the stable heap S, the real heap H -/
/-- the entry: the heap, the stable heap, the caller's things that may change; things kept aside -/
structure Bs where
  H0 : Hp
  S0 : Hp
  mu : List Addr
  fr : List (Addr × HO) := []
  /-- what the caller's lists denote over -/
  SP : Hp := fun _ => none
def Bs.fram (B : Bs) (p : Addr) (o : HO) : Bs := { B with fr := (p, o) :: B.fr }
/-- what stands in a box: a list, an instance -/
inductive Bx where
  | lst (ds : List D) | ins (C : Addr) (fs : List (Str × D))
/-- boxes by their places -/
abbrev Bxs := Addr → Option Bx
def BxOk (S : Hp) : Option HO → Option Bx → Prop
  | none, none => True
  | some o, some (.lst ds) => ∃ xs, o = .lst xs ∧ DenL S xs ds
  | some o, some (.ins C fs) => ∃ dx vs, o = .ins C dx vs ∧ DenF S vs fs
  | _, _ => False
theorem BxOk.mono {S S' : Hp} {o : Option HO} {b : Option Bx} (h : BxOk S o b) (e : Same S S') : BxOk S' o b := by
  cases o with
  | none =>
    cases b with
    | none => trivial
    | some b => exact h.elim
  | some o =>
    cases b with
    | none => exact h.elim
    | some b =>
      cases b with
      | lst ds => obtain ⟨xs, h1, h2⟩ := h; exact ⟨xs, h1, h2.mono e⟩
      | ins C fs => obtain ⟨dx, vs, h1, h2⟩ := h; exact ⟨dx, vs, h1, h2.mono e⟩
/-- boxes in the part F of the heap; finitely many -/
def BxsOk (S F : Hp) (L : Bxs) : Prop := (∃ ks : List Addr, ∀ p, L p ≠ none → p ∈ ks) ∧ ∀ p, BxOk S (F p) (L p)
/-- what a slot holds: unknown; data; a list of one's own (m: the caller's), by its items; the script; an instance of one's own -/
inductive Sl where
  | any | val (d : D) | own (m : Bool) (ds : List D) | scr (ns : List Int) | ins (m : Bool) (C : Addr) (fs : List (Str × D))
  /-- boxes (m: the caller's too) -/
  | hp (m : Bool) (L : Bxs)
def emptyH : Hp := fun _ => none
/-- F: the slot's own part of the heap -/
def SlF (K : PySem.W.Frag) (B : Bs) (S F : Hp) (o : Option (Option V)) : Sl → Prop
  | .any => True
  | .val d => ∃ v, o = some (some v) ∧ Den S v d
  | .own m ds => ∃ p xs, o = some (some (.ref p)) ∧ F p = some (.lst xs) ∧ DenL (if m = true then B.SP else S) xs ds ∧ (m = true → p ∈ B.mu)
  | .scr ns => ∃ a, o = some (some (.ref a)) ∧ SqL K S a (ns.map V.int)
  | .ins m C fs => ∃ p dx vs, o = some (some (.ref p)) ∧ F p = some (.ins C dx vs) ∧ DenF S vs fs ∧ (m = true → p ∈ B.mu)
  | .hp _ L => BxsOk S F L
/-- may the slot hold things of its own; the caller's too? -/
def Sl.may : Sl → Option Bool
  | .own m _ => some m
  | .ins m _ _ => some m
  | .hp m _ => some m
  | _ => none
/-- where the caller's thing of slot i stands -/
def Sl.at_ (s : Sl) (B : Bs) (i : Nat) (a : Addr) : Prop := match s with
  | .hp _ _ => a ∈ B.mu
  | _ => B.mu[i]? = some a
theorem Sl.at_mem {s : Sl} {B : Bs} {i : Nat} {a : Addr} (h : s.at_ B i a) : a ∈ B.mu := by
  cases s with
  | hp m L => exact h
  | any => exact List.mem_of_getElem? h
  | val d => exact List.mem_of_getElem? h
  | own m ds => exact List.mem_of_getElem? h
  | scr ns => exact List.mem_of_getElem? h
  | ins m C fs => exact List.mem_of_getElem? h
def MayOwn (B : Bs) (i : Nat) (s : Option Sl) (a : Addr) : Prop := ∃ s' m, s = some s' ∧ s'.may = some m ∧ (m = true ∧ s'.at_ B i a ∨ B.H0 a = none)
structure RelF (K : PySem.W.Frag) (B : Bs) (S H : Hp) (σ : L2.St) (γ : List Sl) (φ : Nat → Hp) : Prop where
  same : Same S H
  keep : ∀ a o, B.H0 a = some o → a ∉ B.mu → H a = some o
  muk : ∀ a, a ∈ B.mu → B.S0 a = none ∧ (∃ o, B.H0 a = some o) ∧ ∃ o, H a = some o
  grow : Same B.S0 S
  ext : ∀ a o, S a = some o → B.S0 a = some o ∨ B.H0 a = none
  len : σ.length = γ.length
  sl : ∀ (i : Nat) s, γ[i]? = some s → SlF K B S (φ i) σ[i]? s
  phH : ∀ i, Same (φ i) H
  phS : ∀ i a o, φ i a = some o → S a = none
  phD : ∀ i j a o u, i ≠ j → φ i a = some o → φ j a = some u → False
  phO : ∀ i a o, φ i a = some o → MayOwn B i γ[i]? a
  frm : ∀ p o, (p, o) ∈ B.fr → H p = some o ∧ S p = none ∧ B.H0 p = none ∧ ∀ i, φ i p = none
  frn : (B.fr.map (·.1)).Nodup
  spS : Same B.SP B.S0
def Rel0 (K : PySem.W.Frag) (B : Bs) (S H : Hp) (σ : L2.St) (γ : List Sl) : Prop := ∃ φ, RelF K B S H σ γ φ
/-- a slot by the real heap -/
def SlOk (K : PySem.W.Frag) (B : Bs) (S H : Hp) (o : Option (Option V)) : Sl → Prop
  | .any => True
  | .val d => ∃ v, o = some (some v) ∧ Den S v d
  | .own m ds => ∃ p xs, o = some (some (.ref p)) ∧ S p = none ∧ H p = some (.lst xs) ∧ DenL S xs ds ∧ (m = true → p ∈ B.mu ∧ DenL B.SP xs ds)
  | .scr ns => ∃ a, o = some (some (.ref a)) ∧ SqL K S a (ns.map V.int)
  | .ins m C fs => ∃ p dx vs, o = some (some (.ref p)) ∧ S p = none ∧ H p = some (.ins C dx vs) ∧ DenF S vs fs ∧ (m = true → p ∈ B.mu)
  | .hp m L => ∀ p b, L p = some b → S p = none ∧ BxOk S (H p) (some b)
theorem Same.upd {S H : Hp} {p : Addr} {o : HO} (e : Same S H) (h : H p = none) : Same S (upd H p o) := fun b x q => by
  rw [upd_ne (ne_of_none (e b x q) h)]
  exact e b x q
theorem Same.updS {S H : Hp} {p : Addr} {o : HO} (e : Same S H) (h : S p = none) : Same S (L2.upd H p o) := fun b x q => by
  rw [upd_ne (ne_of_none q h)]
  exact e b x q
theorem Same.updB {S H : Hp} {p : Addr} {o : HO} (e : Same S H) : Same (L2.upd S p o) (L2.upd H p o) := fun b x q => by
  by_cases hb : b = p
  · subst hb; rw [upd_same] at q ⊢; exact q
  · rw [upd_ne hb] at q ⊢; exact e b x q
theorem Same.updL {S H : Hp} {p : Addr} {o : HO} (e : Same S H) (h : H p = some o) : Same (L2.upd S p o) H := fun b x q => by
  by_cases hb : b = p
  · subst hb; rw [upd_same] at q; cases q; exact h
  · rw [upd_ne hb] at q; exact e b x q
theorem set_get {α : Type} {l : List α} {i : Nat} {x y : α} (h : l[i]? = some x) (j : Nat) : (l.set i y)[j]? = if j = i then some y else l[j]? := by
  by_cases e : j = i
  · subst e
    rw [if_pos rfl, List.getElem?_set_self (List.getElem?_eq_some_iff.mp h).1]
  · rw [if_neg e, List.getElem?_set_ne (fun z => e z.symm)]
section
variable {K : PySem.W.Frag} {B : Bs} {S S' H H' : Hp} {σ : L2.St} {γ : List Sl} {p : Addr} {o : HO} {φ : Nat → Hp}
theorem SlF.mono {F : Hp} {o : Option (Option V)} {s : Sl} (h : SlF K B S F o s) (e : Same S S') : SlF K B S' F o s := by
  cases s with
  | any => trivial
  | val d => obtain ⟨v, e1, e2⟩ := h; exact ⟨v, e1, e2.mono e⟩
  | own m ds =>
    obtain ⟨p, xs, f1, f2, f3, f4⟩ := h
    refine ⟨p, xs, f1, f2, ?_, f4⟩
    cases m with
    | true => exact f3
    | false => exact DenL.mono f3 e
  | scr ns => obtain ⟨a, e1, e2⟩ := h; exact ⟨a, e1, e.seq e2⟩
  | ins m C fs => obtain ⟨p, dx, vs, f1, f2, f3, f4⟩ := h; exact ⟨p, dx, vs, f1, f2, f3.mono e, f4⟩
  | hp m L => exact ⟨h.1, fun p => (h.2 p).mono e⟩
theorem Rel0.same (R : Rel0 K B S H σ γ) : Same S H := let ⟨_, r⟩ := R; r.same
theorem Rel0.keep (R : Rel0 K B S H σ γ) : ∀ a o, B.H0 a = some o → a ∉ B.mu → H a = some o := let ⟨_, r⟩ := R; r.keep
theorem Rel0.muk (R : Rel0 K B S H σ γ) : ∀ a, a ∈ B.mu → B.S0 a = none ∧ (∃ o, B.H0 a = some o) ∧ ∃ o, H a = some o := let ⟨_, r⟩ := R; r.muk
theorem Rel0.grow (R : Rel0 K B S H σ γ) : Same B.S0 S := let ⟨_, r⟩ := R; r.grow
theorem Rel0.ext (R : Rel0 K B S H σ γ) : ∀ a o, S a = some o → B.S0 a = some o ∨ B.H0 a = none := let ⟨_, r⟩ := R; r.ext
theorem Rel0.len (R : Rel0 K B S H σ γ) : σ.length = γ.length := let ⟨_, r⟩ := R; r.len
theorem Rel0.sl (R : Rel0 K B S H σ γ) (i : Nat) (s : Sl) (h : γ[i]? = some s) : SlOk K B S H σ[i]? s := by
  obtain ⟨φ, r⟩ := R
  have q := r.sl i s h
  cases s with
  | any => trivial
  | val d => exact q
  | own m ds =>
    obtain ⟨p, xs, f1, f2, f3, f4⟩ := q
    refine ⟨p, xs, f1, r.phS i _ _ f2, r.phH i _ _ f2, ?_, fun hm => ⟨f4 hm, ?_⟩⟩
    · cases m with
      | true => exact DenL.mono f3 (r.spS.trans r.grow)
      | false => exact f3
    · subst hm; exact f3
  | scr ns => exact q
  | ins m C fs => obtain ⟨p, dx, vs, f1, f2, f3, f4⟩ := q; exact ⟨p, dx, vs, f1, r.phS i _ _ f2, r.phH i _ _ f2, f3, f4⟩
  | hp m L =>
    intro p b hb
    have k := q.2 p
    rw [hb] at k
    cases hF : φ i p with
    | none => rw [hF] at k; exact k.elim
    | some o => rw [hF] at k; exact ⟨r.phS i _ _ hF, by rw [r.phH i _ _ hF]; exact k⟩
theorem RelF.fresh0 (r : RelF K B S H σ γ φ) (h : H p = none) : B.H0 p = none := by
  cases e : B.H0 p with
  | none => rfl
  | some o =>
    by_cases hm : p ∈ B.mu
    · obtain ⟨_, _, xs, e2⟩ := r.muk p hm
      rw [h] at e2; cases e2
    · rw [r.keep p o e hm] at h; cases h
theorem Rel0.fresh0 (R : Rel0 K B S H σ γ) (h : H p = none) : B.H0 p = none := let ⟨_, r⟩ := R; r.fresh0 h
theorem Rel0.freshS (R : Rel0 K B S H σ γ) (h : H p = none) : S p = none := R.same.free h
theorem RelF.freshP (r : RelF K B S H σ γ φ) (h : H p = none) (i : Nat) : φ i p = none := by
  cases e : φ i p with
  | none => rfl
  | some o => rw [r.phH i _ _ e] at h; cases h
theorem RelF.freshF (r : RelF K B S H σ γ φ) (h : H p = none) : p ∉ B.fr.map (·.1) := fun hm => by
  obtain ⟨⟨q, u⟩, hq, e⟩ := List.mem_map.mp hm
  have e : q = p := e
  subst e
  rw [(r.frm _ _ hq).1] at h; cases h
/-- a new stable object -/
theorem Rel0.new (R : Rel0 K B S H σ γ) (h : H p = none) : Rel0 K B (upd S p o) (upd H p o) σ γ := by
  obtain ⟨φ, r⟩ := R
  have eS : Same S (L2.upd S p o) := Same.upd (Same.refl S) (r.same.free h)
  have eH : Same H (L2.upd H p o) := Same.upd (Same.refl H) h
  have ne : ∀ {i a u}, φ i a = some u → a ≠ p := fun {i a u} e => ne_of_none (r.phH i _ _ e) h
  refine ⟨φ, Same.updB r.same, fun a x e hm => eH _ _ (r.keep a x e hm), fun a ha => ?_, fun a x e => eS _ _ (r.grow a x e), fun a x e => ?_, r.len, fun i s e => (r.sl i s e).mono eS, fun i a x e => eH _ _ (r.phH i a x e), fun i a x e => by rw [upd_ne (ne e)]; exact r.phS i a x e, r.phD, r.phO, fun a u hu => ?_, r.frn, r.spS⟩
  · obtain ⟨h1, h2, xs, h3⟩ := r.muk a ha
    exact ⟨h1, h2, xs, eH _ _ h3⟩
  · by_cases ha : a = p
    · subst ha; exact .inr (r.fresh0 h)
    · rw [upd_ne ha] at e; exact r.ext a x e
  · obtain ⟨h1, h2, h3⟩ := r.frm a u hu
    exact ⟨eH _ _ h1, by rw [upd_ne (ne_of_none h1 h)]; exact h2, h3⟩
/-- a new object, kept aside -/
theorem Rel0.newF (R : Rel0 K B S H σ γ) (h : H p = none) : Rel0 K (B.fram p o) S (upd H p o) σ γ := by
  obtain ⟨φ, r⟩ := R
  have eH : Same H (L2.upd H p o) := Same.upd (Same.refl H) h
  refine ⟨φ, Same.upd r.same h, fun a x e hm => eH _ _ (r.keep a x e hm), fun a ha => ?_, r.grow, r.ext, r.len, r.sl, fun i a x e => eH _ _ (r.phH i a x e), r.phS, r.phD, r.phO, fun a u hu => ?_, ?_, r.spS⟩
  · obtain ⟨h1, h2, xs, h3⟩ := r.muk a ha
    exact ⟨h1, h2, xs, eH _ _ h3⟩
  · rcases List.mem_cons.mp hu with z | z
    · cases z; exact ⟨upd_same, r.same.free h, r.fresh0 h, r.freshP h⟩
    · obtain ⟨h1, h2, h3⟩ := r.frm a u z
      exact ⟨eH _ _ h1, h2, h3⟩
  · show ((p, o) :: B.fr |>.map (·.1)).Nodup
    rw [List.map_cons]
    exact List.nodup_cons.mpr ⟨r.freshF h, r.frn⟩
/-- a thing kept aside: what is known of it -/
theorem Rel0.unfram (R : Rel0 K (B.fram p o) S H σ γ) : Rel0 K B S H σ γ ∧ H p = some o ∧ S p = none ∧ B.H0 p = none := by
  obtain ⟨φ, r⟩ := R
  have q := r.frm p o (List.mem_cons_self ..)
  have n : ((p, o) :: B.fr |>.map (·.1)).Nodup := r.frn
  rw [List.map_cons] at n
  exact ⟨⟨φ, r.same, r.keep, r.muk, r.grow, r.ext, r.len, r.sl, r.phH, r.phS, r.phD, r.phO, fun q u hq => r.frm q u (List.mem_cons_of_mem _ hq), (List.nodup_cons.mp n).2, r.spS⟩, q.1, q.2.1, q.2.2.1⟩
/-- a thing kept aside becomes stable -/
theorem Rel0.frzF (R : Rel0 K (B.fram p o) S H σ γ) : Rel0 K B (upd S p o) H σ γ := by
  obtain ⟨φ, r⟩ := R
  obtain ⟨h1, h2, h3, h4⟩ := r.frm p o (List.mem_cons_self ..)
  have n : ((p, o) :: B.fr |>.map (·.1)).Nodup := r.frn
  rw [List.map_cons] at n
  have eS : Same S (L2.upd S p o) := Same.upd (Same.refl S) h2
  refine ⟨φ, Same.updL r.same h1, r.keep, r.muk, fun a x e => eS _ _ (r.grow a x e), fun a x e => ?_, r.len, fun i s e => (r.sl i s e).mono eS, r.phH, fun i a x e => ?_, r.phD, r.phO, fun a u hu => ?_, (List.nodup_cons.mp n).2, r.spS⟩
  · by_cases ha : a = p
    · subst ha; exact .inr h3
    · rw [upd_ne ha] at e; exact r.ext a x e
  · rw [upd_ne (fun z => by subst z; rw [h4 i] at e; cases e)]
    exact r.phS i a x e
  · obtain ⟨k1, k2, k3⟩ := r.frm a u (List.mem_cons_of_mem _ hu)
    refine ⟨k1, ?_, k3⟩
    rw [upd_ne (fun z => (List.nodup_cons.mp n).1 (by subst z; exact List.mem_map.mpr ⟨_, hu, rfl⟩))]
    exact k2
/-- a thing kept aside is changed -/
theorem Rel0.chgF {u : HO} (R : Rel0 K (B.fram p o) S H σ γ) : Rel0 K (B.fram p u) S (L2.upd H p u) σ γ := by
  obtain ⟨φ, r⟩ := R
  obtain ⟨h1, h2, h3, h4⟩ := r.frm p o (List.mem_cons_self ..)
  have n : ((p, o) :: B.fr |>.map (·.1)).Nodup := r.frn
  rw [List.map_cons] at n
  refine ⟨φ, Same.updS r.same h2, fun a x e hm => ?_, fun a ha => ?_, r.grow, r.ext, r.len, r.sl, fun i a x e => ?_, r.phS, r.phD, r.phO, fun a v hv => ?_, ?_, r.spS⟩
  · rw [upd_ne (ne_of_none e h3)]; exact r.keep a x e hm
  · obtain ⟨k1, ⟨x, k2⟩, y, k3⟩ := r.muk a ha
    exact ⟨k1, ⟨x, k2⟩, y, by rw [upd_ne (ne_of_none k2 h3)]; exact k3⟩
  · rw [upd_ne (fun z => by subst z; rw [h4 i] at e; cases e)]
    exact r.phH i a x e
  · rcases List.mem_cons.mp hv with z | z
    · cases z; exact ⟨upd_same, h2, h3, h4⟩
    · obtain ⟨k1, k2, k3⟩ := r.frm a v (List.mem_cons_of_mem _ z)
      refine ⟨?_, k2, k3⟩
      rw [upd_ne (fun w => (List.nodup_cons.mp n).1 (by subst w; exact List.mem_map.mpr ⟨_, z, rfl⟩))]
      exact k1
  · show ((p, u) :: B.fr |>.map (·.1)).Nodup
    rw [List.map_cons]
    exact n
/-- a slot is set to something that holds nothing of its own -/
theorem Rel0.set (R : Rel0 K B S H σ γ) {i : Nat} {v : V} {s : Sl} (hs : SlOk K B S H (some (some v)) s) (hn : s.may = none) : Rel0 K B S H (σ.set i (some v)) (γ.set i s) := by
  by_cases hi : i < γ.length
  case neg =>
    have hl := R.len
    rw [List.set_eq_of_length_le (l := γ) (by omega), List.set_eq_of_length_le (l := σ) (by omega)]
    exact R
  obtain ⟨φ, r⟩ := R
  have e0 : γ[i]? = some γ[i] := List.getElem?_eq_getElem hi
  have f0 : σ[i]? = some (σ[i]'(by rw [r.len]; exact hi)) := List.getElem?_eq_getElem (by rw [r.len]; exact hi)
  have em : ∀ {j a u}, (if j = i then emptyH else φ j) a = some u → j ≠ i ∧ φ j a = some u := fun {j a u} e => by
    by_cases hj : j = i
    · rw [if_pos hj] at e; cases e
    · rw [if_neg hj] at e; exact ⟨hj, e⟩
  refine ⟨fun j => if j = i then emptyH else φ j, r.same, r.keep, r.muk, r.grow, r.ext, by rw [List.length_set, List.length_set, r.len], fun j t e => ?_, fun j a u e => r.phH j a u (em e).2, fun j a u e => r.phS j a u (em e).2, fun j k a u v hjk e1 e2 => r.phD j k a u v hjk (em e1).2 (em e2).2, fun j a u e => ?_, fun q u hq => ?_, r.frn, r.spS⟩
  · rw [set_get e0] at e
    rw [set_get f0]
    by_cases hj : j = i
    · rw [if_pos hj] at e
      cases e
      rw [if_pos hj, if_pos hj]
      cases s with
      | any => trivial
      | val d => exact hs
      | scr ns => exact hs
      | own m ds => cases hn
      | ins m C fs => cases hn
      | hp m L => cases hn
    · rw [if_neg hj] at e
      rw [if_neg hj, if_neg hj]
      exact r.sl j t e
  · obtain ⟨h1, h2⟩ := em e
    rw [List.getElem?_set_ne (fun z => h1 z.symm)]
    exact r.phO j a u h2
  · obtain ⟨k1, k2, k3, k4⟩ := r.frm q u hq
    refine ⟨k1, k2, k3, fun j => ?_⟩
    show (if j = i then emptyH else φ j) q = none
    by_cases hj : j = i
    · rw [if_pos hj]; rfl
    · rw [if_neg hj]; exact k4 j
/-- what is kept aside becomes a slot's own -/
theorem Rel0.setF (R : Rel0 K (B.fram p o) S H σ γ) {i : Nat} {s : Sl} (hs : SlF K B S (upd emptyH p o) (some (some (.ref p))) s) (hm : s.may = some false) : Rel0 K B S H (σ.set i (some (.ref p))) (γ.set i s) := by
  by_cases hi : i < γ.length
  case neg =>
    have hl := R.len
    rw [List.set_eq_of_length_le (l := γ) (by omega), List.set_eq_of_length_le (l := σ) (by omega)]
    exact R.unfram.1
  obtain ⟨φ, r⟩ := R
  obtain ⟨h1, h2, h3, h4⟩ := r.frm p o (List.mem_cons_self ..)
  have n : ((p, o) :: B.fr |>.map (·.1)).Nodup := r.frn
  rw [List.map_cons] at n
  have e0 : γ[i]? = some γ[i] := List.getElem?_eq_getElem hi
  have f0 : σ[i]? = some (σ[i]'(by rw [r.len]; exact hi)) := List.getElem?_eq_getElem (by rw [r.len]; exact hi)
  have em : ∀ {j a u}, (if j = i then L2.upd emptyH p o else φ j) a = some u → (j = i ∧ a = p ∧ u = o) ∨ (j ≠ i ∧ φ j a = some u) := fun {j a u} e => by
    by_cases hj : j = i
    · rw [if_pos hj] at e
      by_cases ha : a = p
      · subst ha; rw [upd_same] at e; cases e; exact .inl ⟨hj, rfl, rfl⟩
      · rw [upd_ne ha] at e; cases e
    · rw [if_neg hj] at e; exact .inr ⟨hj, e⟩
  refine ⟨fun j => if j = i then L2.upd emptyH p o else φ j, r.same, r.keep, r.muk, r.grow, r.ext, by rw [List.length_set, List.length_set, r.len], fun j t e => ?_, fun j a u e => ?_, fun j a u e => ?_, fun j k a u v hjk e1 e2 => ?_, fun j a u e => ?_, fun q u hq => ?_, (List.nodup_cons.mp n).2, r.spS⟩
  · rw [set_get e0] at e
    rw [set_get f0]
    by_cases hj : j = i
    · rw [if_pos hj] at e
      cases e
      rw [if_pos hj, if_pos hj]
      exact hs
    · rw [if_neg hj] at e
      rw [if_neg hj, if_neg hj]
      exact r.sl j t e
  · rcases em e with ⟨_, z, z'⟩ | ⟨_, z⟩
    · subst z z'; exact h1
    · exact r.phH j a u z
  · rcases em e with ⟨_, z, z'⟩ | ⟨_, z⟩
    · subst z; exact h2
    · exact r.phS j a u z
  · rcases em e1 with ⟨z1, z2, _⟩ | ⟨z1, z2⟩
    · rcases em e2 with ⟨y1, _, _⟩ | ⟨y1, y2⟩
      · exact hjk (z1.trans y1.symm)
      · subst z2; rw [h4 k] at y2; cases y2
    · rcases em e2 with ⟨y1, y2, _⟩ | ⟨y1, y2⟩
      · subst y2; rw [h4 j] at z2; cases z2
      · exact r.phD j k a u v hjk z2 y2
  · rcases em e with ⟨z1, z2, _⟩ | ⟨z1, z2⟩
    · rw [z1, List.getElem?_set_self hi, z2]
      exact ⟨s, false, rfl, hm, .inr h3⟩
    · rw [List.getElem?_set_ne (fun z => z1 z.symm)]
      exact r.phO j a u z2
  · obtain ⟨k1, k2, k3, k4⟩ := r.frm q u (List.mem_cons_of_mem _ hq)
    refine ⟨k1, k2, k3, fun j => ?_⟩
    show (if j = i then L2.upd emptyH p o else φ j) q = none
    by_cases hj : j = i
    · rw [if_pos hj, upd_ne (fun z => (List.nodup_cons.mp n).1 (by subst z; exact List.mem_map.mpr ⟨_, hq, rfl⟩))]; rfl
    · rw [if_neg hj]; exact k4 j
/-- a slot is set to a new list of one's own -/
theorem Rel0.setOwn {xs : List V} (R : Rel0 K (B.fram p (.lst xs)) S H σ γ) {i : Nat} {ds : List D} (h : DenL S xs ds) : Rel0 K B S H (σ.set i (some (.ref p))) (γ.set i (.own false ds)) :=
  R.setF (s := .own false ds) ⟨p, xs, rfl, upd_same, h, fun z => by cases z⟩ rfl
/-- the thing at the root of slot i is changed -/
theorem RelF.chg1 (r : RelF K B S H σ γ φ) {i : Nat} {s t : Sl} {u : HO} (hg : γ[i]? = some s) (hp : φ i p = some u) (ht : SlF K B S (L2.upd emptyH p o) σ[i]? t) (hm : t.may = s.may) (ha : ∀ i a, s.at_ B i a → t.at_ B i a) : Rel0 K B S (upd H p o) σ (γ.set i t) := by
  have hS := r.phS i _ _ hp
  have hO := r.phO i _ _ hp
  have em : ∀ {j a u}, (if j = i then L2.upd emptyH p o else φ j) a = some u → (j = i ∧ a = p ∧ u = o) ∨ (j ≠ i ∧ φ j a = some u ∧ a ≠ p) := fun {j a v} e => by
    by_cases hj : j = i
    · rw [if_pos hj] at e
      by_cases ha : a = p
      · subst ha; rw [upd_same] at e; cases e; exact .inl ⟨hj, rfl, rfl⟩
      · rw [upd_ne ha] at e; cases e
    · rw [if_neg hj] at e; exact .inr ⟨hj, e, fun z => by subst z; exact r.phD j i _ _ _ hj e hp⟩
  refine ⟨fun j => if j = i then L2.upd emptyH p o else φ j, Same.updS r.same hS, fun a x e hm => ?_, fun a ha => ?_, r.grow, r.ext, by rw [List.length_set]; exact r.len, fun j t' e => ?_, fun j a v e => ?_, fun j a v e => ?_, fun j k a v w hjk e1 e2 => ?_, fun j a v e => ?_, fun q v hq => ?_, r.frn, r.spS⟩
  · rw [upd_ne (fun z => ?_)]
    · exact r.keep a x e hm
    · subst z
      obtain ⟨s', m, _, _, h | h⟩ := hO
      · exact hm (Sl.at_mem h.2)
      · rw [e] at h; cases h
  · obtain ⟨k1, k2, x, k3⟩ := r.muk a ha
    by_cases hap : a = p
    · subst hap; exact ⟨k1, k2, _, upd_same⟩
    · exact ⟨k1, k2, x, by rw [upd_ne hap]; exact k3⟩
  · rw [set_get hg] at e
    by_cases hj : j = i
    · rw [if_pos hj] at e
      cases e
      show SlF K B S (if j = i then L2.upd emptyH p o else φ j) _ _
      rw [if_pos hj, hj]
      exact ht
    · rw [if_neg hj] at e
      show SlF K B S (if j = i then L2.upd emptyH p o else φ j) _ _
      rw [if_neg hj]
      exact r.sl j t' e
  · rcases em e with ⟨_, z, z'⟩ | ⟨_, z, z'⟩
    · subst z z'; exact upd_same
    · rw [upd_ne z']; exact r.phH j a v z
  · rcases em e with ⟨_, z, z'⟩ | ⟨_, z, z'⟩
    · subst z; exact hS
    · exact r.phS j a v z
  · rcases em e1 with ⟨z1, z2, _⟩ | ⟨z1, z2, z3⟩
    · rcases em e2 with ⟨y1, _, _⟩ | ⟨y1, y2, y3⟩
      · exact hjk (z1.trans y1.symm)
      · exact y3 z2
    · rcases em e2 with ⟨y1, y2, _⟩ | ⟨y1, y2, _⟩
      · exact z3 y2
      · exact r.phD j k a v w hjk z2 y2
  · rcases em e with ⟨z1, z2, _⟩ | ⟨z1, z2, _⟩
    · rw [z1, set_get hg, if_pos rfl, z2]
      obtain ⟨s', m, e1, e2, e3⟩ := hO
      rw [hg] at e1
      cases e1
      exact ⟨t, m, rfl, hm.trans e2, e3.imp (fun z => ⟨z.1, ha _ _ z.2⟩) id⟩
    · rw [List.getElem?_set_ne (fun z => z1 z.symm)]
      exact r.phO j a v z2
  · obtain ⟨k1, k2, k3, k4⟩ := r.frm q v hq
    have nq : q ≠ p := fun z => by subst z; rw [k4 i] at hp; cases hp
    refine ⟨by rw [upd_ne nq]; exact k1, k2, k3, fun j => ?_⟩
    show (if j = i then L2.upd emptyH p o else φ j) q = none
    by_cases hj : j = i
    · rw [if_pos hj, upd_ne nq]; rfl
    · rw [if_neg hj]; exact k4 j
/-- a list of one's own is changed -/
theorem Rel0.chg (R : Rel0 K B S H σ γ) {i : Nat} {m : Bool} {xs' : List V} {ds ds' : List D} (hg : γ[i]? = some (.own m ds)) (hσ : σ[i]? = some (some (.ref p))) (hd : DenL (if m = true then B.SP else S) xs' ds') : Rel0 K B S (upd H p (.lst xs')) σ (γ.set i (.own m ds')) := by
  obtain ⟨φ, r⟩ := R
  obtain ⟨q, ys, e1, e2, e3, e4⟩ := r.sl i _ hg
  rw [hσ] at e1
  cases e1
  exact r.chg1 hg e2 ⟨p, xs', hσ, upd_same, hd, e4⟩ rfl (fun _ _ h => h)
/-- an instance of one's own is changed -/
theorem Rel0.chgI (R : Rel0 K B S H σ γ) {i : Nat} {m : Bool} {C dx : Addr} {vs vs' : List (Str × V)} {fs fs' : List (Str × D)} (hg : γ[i]? = some (.ins m C fs)) (hσ : σ[i]? = some (some (.ref p))) (hd : DenF S vs' fs') : Rel0 K B S (upd H p (.ins C dx vs')) σ (γ.set i (.ins m C fs')) := by
  obtain ⟨φ, r⟩ := R
  obtain ⟨q, dx', ys, e1, e2, e3, e4⟩ := r.sl i _ hg
  rw [hσ] at e1
  cases e1
  exact r.chg1 hg e2 ⟨p, dx, vs', hσ, upd_same, hd, e4⟩ rfl (fun _ _ h => h)
theorem Rel0.lt (_ : Rel0 K B S H σ γ) {i : Nat} {s : Sl} (h : γ[i]? = some s) : i < γ.length := (List.getElem?_eq_some_iff.mp h).1
/-- a slot's part is let go -/
theorem RelF.let_ (r : RelF K B S H σ γ φ) {i : Nat} {s : Sl} (hs : SlOk K B S H σ[i]? s) (hn : s.may = none) : RelF K B S H σ (γ.set i s) (fun j => if j = i then emptyH else φ j) := by
  have em : ∀ {j a u}, (if j = i then emptyH else φ j) a = some u → j ≠ i ∧ φ j a = some u := fun {j a u} e => by
    by_cases hj : j = i
    · rw [if_pos hj] at e; cases e
    · rw [if_neg hj] at e; exact ⟨hj, e⟩
  refine ⟨r.same, r.keep, r.muk, r.grow, r.ext, by rw [List.length_set]; exact r.len, fun j t e => ?_, fun j a u e => r.phH j a u (em e).2, fun j a u e => r.phS j a u (em e).2, fun j k a u v hjk e1 e2 => r.phD j k a u v hjk (em e1).2 (em e2).2, fun j a u e => ?_, fun q u hq => ?_, r.frn, r.spS⟩
  · by_cases hj : j = i
    · subst hj
      by_cases hl : j < γ.length
      · rw [List.getElem?_set_self hl] at e
        cases e
        cases s with
        | any => trivial
        | val d => exact hs
        | scr ns => exact hs
        | own m ds => cases hn
        | ins m C fs => cases hn
        | hp m L => cases hn
      · rw [List.getElem?_eq_none (by rw [List.length_set]; omega)] at e
        cases e
    · rw [List.getElem?_set_ne (fun z => hj z.symm)] at e
      show SlF K B S (if j = i then emptyH else φ j) _ _
      rw [if_neg hj]
      exact r.sl j t e
  · obtain ⟨h1, h2⟩ := em e
    rw [List.getElem?_set_ne (fun z => h1 z.symm)]
    exact r.phO j a u h2
  · obtain ⟨k1, k2, k3, k4⟩ := r.frm q u hq
    refine ⟨k1, k2, k3, fun j => ?_⟩
    show (if j = i then emptyH else φ j) q = none
    by_cases hj : j = i
    · rw [if_pos hj]; rfl
    · rw [if_neg hj]; exact k4 j
/-- a slot is forgotten -/
theorem Rel0.drop (R : Rel0 K B S H σ γ) {i : Nat} : Rel0 K B S H σ (γ.set i .any) := let ⟨_, r⟩ := R; ⟨_, r.let_ (s := .any) trivial rfl⟩
/-- a slot's value is known -/
theorem Rel0.know (R : Rel0 K B S H σ γ) {i : Nat} {s : Sl} (hs : SlOk K B S H σ[i]? s) (hn : s.may = none) : Rel0 K B S H σ (γ.set i s) := let ⟨_, r⟩ := R; ⟨_, r.let_ hs hn⟩
/-- what is slot i's own, at its root, is kept aside -/
theorem RelF.take1 (r : RelF K B S H σ γ φ) {i : Nat} {s : Sl} (hg : γ[i]? = some s) (hp : φ i p = some o) (hm : s.may = some false) : Rel0 K (B.fram p o) S H σ (γ.set i .any) := by
  have r2 := r.let_ (i := i) (s := .any) trivial rfl
  have h0 : B.H0 p = none := by
    obtain ⟨s', m, e1, e2, h | h⟩ := r.phO i _ _ hp
    · rw [hg] at e1; cases e1
      rw [hm] at e2; cases e2
      exact absurd h.1 (by decide)
    · exact h
  refine ⟨_, r2.same, r2.keep, r2.muk, r2.grow, r2.ext, r2.len, r2.sl, r2.phH, r2.phS, r2.phD, r2.phO, fun q u hq => ?_, ?_, r2.spS⟩
  · rcases List.mem_cons.mp hq with z | z
    · cases z
      refine ⟨r.phH i _ _ hp, r.phS i _ _ hp, h0, fun j => ?_⟩
      show (if j = i then emptyH else φ j) p = none
      by_cases hj : j = i
      · rw [if_pos hj]; rfl
      · rw [if_neg hj]
        cases e : φ j p with
        | none => rfl
        | some v => exact (r.phD j i _ _ _ hj e hp).elim
    · exact r2.frm q u z
  · show ((p, o) :: B.fr |>.map (·.1)).Nodup
    rw [List.map_cons]
    refine List.nodup_cons.mpr ⟨fun z => ?_, r.frn⟩
    obtain ⟨⟨q, u⟩, hq, e⟩ := List.mem_map.mp z
    have e : q = p := e
    subst e
    rw [(r.frm _ _ hq).2.2.2 i] at hp
    cases hp
theorem Rel0.takeOwn (R : Rel0 K B S H σ γ) {i : Nat} {ds : List D} (hg : γ[i]? = some (.own false ds)) : ∃ p xs, σ[i]? = some (some (.ref p)) ∧ DenL S xs ds ∧ Rel0 K (B.fram p (.lst xs)) S H σ (γ.set i .any) := by
  obtain ⟨φ, r⟩ := R
  obtain ⟨q, ys, e1, e2, e3, e4⟩ := r.sl i _ hg
  exact ⟨q, ys, e1, e3, r.take1 hg e2 rfl⟩
/-- a list of one's own becomes a value -/
theorem Rel0.val (R : Rel0 K B S H σ γ) {i : Nat} {ds : List D} (hg : γ[i]? = some (.own false ds)) : ∃ S' p, σ[i]? = some (some (.ref p)) ∧ Same S S' ∧ Rel0 K B S' H σ (γ.set i (.val (.lst ds))) ∧ Den S' (.ref p) (.lst ds) := by
  obtain ⟨p, xs, e1, e2, R1⟩ := R.takeOwn hg
  have hS : Same S (upd S p (.lst xs)) := Same.upd (Same.refl S) R1.unfram.2.2.1
  have dn : Den (upd S p (.lst xs)) (.ref p) (.lst ds) := .ofL upd_same (e2.mono hS)
  have R2 := R1.frzF.know (i := i) (s := .val (.lst ds)) ⟨_, e1, dn⟩ rfl
  rw [List.set_set] at R2
  exact ⟨_, p, e1, hS, R2, dn⟩
/-- no slots -/
theorem Rel0.nil (R : Rel0 K B S H σ γ) : Rel0 K B S H [] [] := by
  obtain ⟨φ, r⟩ := R
  exact ⟨fun _ => emptyH, r.same, r.keep, r.muk, r.grow, r.ext, rfl, fun i s e => (by simp at e), fun i a o e => (by cases e), fun i a o e => (by cases e), fun i j a o u _ e => (by cases e), fun i a o e => (by cases e), fun p o hp => (let ⟨k1, k2, k3, _⟩ := r.frm p o hp; ⟨k1, k2, k3, fun _ => rfl⟩), r.frn, r.spS⟩
/-- behind a call that changes nothing that stood -/
theorem RelF.call (r : RelF K B S H σ γ φ) (C : Rel0 K ⟨H, S, [], [], emptyH⟩ S' H' [] []) : RelF K B S' H' σ γ φ := by
  have hk : ∀ a o, H a = some o → H' a = some o := fun a o e => C.keep a o e (by intro z; cases z)
  have hS : ∀ a o, H a = some o → S a = none → S' a = none := fun a o e n => by
    cases q : S' a with
    | none => rfl
    | some u =>
      rcases C.ext a u q with z | z
      · have z' : S a = some u := z
        rw [n] at z'; cases z'
      · have z' : H a = none := z
        rw [e] at z'; cases z'
  refine ⟨C.same, fun a o e hm => hk a o (r.keep a o e hm), fun a ha => ?_, fun a o e => C.grow a o (r.grow a o e), fun a o e => ?_, r.len, fun i s e => (r.sl i s e).mono C.grow, fun i a o e => hk a o (r.phH i a o e), fun i a o e => hS a o (r.phH i a o e) (r.phS i a o e), r.phD, r.phO, fun p o hp => ?_, r.frn, r.spS⟩
  · obtain ⟨h1, h2, xs, h3⟩ := r.muk a ha
    exact ⟨h1, h2, xs, hk a _ h3⟩
  · rcases C.ext a o e with z | z
    · exact r.ext a o z
    · exact .inr (r.fresh0 z)
  · obtain ⟨h1, h2, h3⟩ := r.frm p o hp
    exact ⟨hk p o h1, hS p o h1 h2, h3⟩
theorem Rel0.call (R : Rel0 K B S H σ γ) (C : Rel0 K ⟨H, S, [], [], emptyH⟩ S' H' [] []) : Rel0 K B S' H' σ γ := let ⟨_, r⟩ := R; ⟨_, r.call C⟩
/-- the same behind a call: what it has made and hands out -/
theorem Rel0.callN (R : Rel0 K B S H σ γ) (C : Rel0 K ⟨H, S, [], [], emptyH⟩ S' H' [] []) (h0 : H p = none) (h1 : H' p = some o) (h2 : S' p = none) : Rel0 K (B.fram p o) S' H' σ γ := by
  obtain ⟨φ, r⟩ := R
  have r2 := r.call C
  refine ⟨φ, r2.same, r2.keep, r2.muk, r2.grow, r2.ext, r2.len, r2.sl, r2.phH, r2.phS, r2.phD, r2.phO, fun q u hq => ?_, ?_, r2.spS⟩
  · rcases List.mem_cons.mp hq with z | z
    · cases z; exact ⟨h1, h2, r.fresh0 h0, r.freshP h0⟩
    · exact r2.frm q u z
  · show ((p, o) :: B.fr |>.map (·.1)).Nodup
    rw [List.map_cons]
    exact List.nodup_cons.mpr ⟨r.freshF h0, r.frn⟩
/-- behind a call that may change the thing at slot i's root -/
theorem RelF.call1 (r : RelF K B S H σ γ φ) {i : Nat} {s t : Sl} {u : HO} (hg : γ[i]? = some s) (hp : φ i p = some u) {SP : Hp} (C : Rel0 K ⟨H, S, [p], [], SP⟩ S' H' [] []) (k1 : S' p = none) (k2 : H' p = some o) (ht : SlF K B S' (upd emptyH p o) σ[i]? t) (hm : t.may = s.may) (ha : ∀ i a, s.at_ B i a → t.at_ B i a) : RelF K B S' H' σ (γ.set i t) (fun j => if j = i then upd emptyH p o else φ j) := by
  have hO := r.phO i _ _ hp
  have hk : ∀ a o, H a = some o → a ≠ p → H' a = some o := fun a o e n => C.keep a o e (by intro z; exact n (List.mem_singleton.mp z))
  have hS : ∀ a o, H a = some o → S a = none → S' a = none := fun a o e n => by
    cases q : S' a with
    | none => rfl
    | some u =>
      rcases C.ext a u q with z | z
      · have z' : S a = some u := z
        rw [n] at z'; cases z'
      · have z' : H a = none := z
        rw [e] at z'; cases z'
  have em : ∀ {j a v}, (if j = i then L2.upd emptyH p o else φ j) a = some v → (j = i ∧ a = p ∧ v = o) ∨ (j ≠ i ∧ φ j a = some v ∧ a ≠ p) := fun {j a v} e => by
    by_cases hj : j = i
    · rw [if_pos hj] at e
      by_cases ha : a = p
      · subst ha; rw [upd_same] at e; cases e; exact .inl ⟨hj, rfl, rfl⟩
      · rw [upd_ne ha] at e; cases e
    · rw [if_neg hj] at e; exact .inr ⟨hj, e, fun z => by subst z; exact r.phD j i _ _ _ hj e hp⟩
  refine ⟨C.same, fun a x e hm => ?_, fun a ha => ?_, fun a x e => C.grow a x (r.grow a x e), fun a x e => ?_, by rw [List.length_set]; exact r.len, fun j t' e => ?_, fun j a v e => ?_, fun j a v e => ?_, fun j k a v w hjk e1 e2 => ?_, fun j a v e => ?_, fun q v hq => ?_, r.frn, r.spS⟩
  · refine hk a x (r.keep a x e hm) fun z => ?_
    subst z
    obtain ⟨s', m, _, _, h | h⟩ := hO
    · exact hm (Sl.at_mem h.2)
    · rw [e] at h; cases h
  · obtain ⟨f1, f2, x, f3⟩ := r.muk a ha
    by_cases hap : a = p
    · subst hap; exact ⟨f1, f2, _, k2⟩
    · exact ⟨f1, f2, x, hk a _ f3 hap⟩
  · rcases C.ext a x e with z | z
    · exact r.ext a x z
    · exact .inr (r.fresh0 z)
  · rw [set_get hg] at e
    by_cases hj : j = i
    · rw [if_pos hj] at e
      cases e
      show SlF K B S' (if j = i then L2.upd emptyH p o else φ j) _ _
      rw [if_pos hj, hj]
      exact ht
    · rw [if_neg hj] at e
      show SlF K B S' (if j = i then L2.upd emptyH p o else φ j) _ _
      rw [if_neg hj]
      exact (r.sl j t' e).mono C.grow
  · rcases em e with ⟨_, z, z'⟩ | ⟨_, z, z'⟩
    · subst z z'; exact k2
    · exact hk a v (r.phH j a v z) z'
  · rcases em e with ⟨_, z, z'⟩ | ⟨_, z, z'⟩
    · subst z; exact k1
    · exact hS a v (r.phH j a v z) (r.phS j a v z)
  · rcases em e1 with ⟨z1, z2, _⟩ | ⟨z1, z2, z3⟩
    · rcases em e2 with ⟨y1, _, _⟩ | ⟨y1, y2, y3⟩
      · exact hjk (z1.trans y1.symm)
      · exact y3 z2
    · rcases em e2 with ⟨y1, y2, _⟩ | ⟨y1, y2, _⟩
      · exact z3 y2
      · exact r.phD j k a v w hjk z2 y2
  · rcases em e with ⟨z1, z2, _⟩ | ⟨z1, z2, _⟩
    · rw [z1, set_get hg, if_pos rfl, z2]
      obtain ⟨s', m, e1, e2, e3⟩ := hO
      rw [hg] at e1
      cases e1
      exact ⟨t, m, rfl, hm.trans e2, e3.imp (fun z => ⟨z.1, ha _ _ z.2⟩) id⟩
    · rw [List.getElem?_set_ne (fun z => z1 z.symm)]
      exact r.phO j a v z2
  · obtain ⟨f1, f2, f3, f4⟩ := r.frm q v hq
    have nq : q ≠ p := fun z => by subst z; rw [f4 i] at hp; cases hp
    refine ⟨hk q v f1 nq, hS q v f1 f2, f3, fun j => ?_⟩
    show (if j = i then L2.upd emptyH p o else φ j) q = none
    by_cases hj : j = i
    · rw [if_pos hj, upd_ne nq]; rfl
    · rw [if_neg hj]; exact f4 j
theorem Rel0.callP {i : Nat} {m : Bool} {pl pl' : List D} {xs' : List V} (R : Rel0 K B S H σ γ) (hg : γ[i]? = some (.own m pl)) (hσ : σ[i]? = some (some (.ref p))) {SP : Hp} (C : Rel0 K ⟨H, S, [p], [], SP⟩ S' H' [] []) (k1 : S' p = none) (k2 : H' p = some (.lst xs')) (k3 : DenL (if m = true then B.SP else S') xs' pl') : Rel0 K B S' H' σ (γ.set i (.own m pl')) := by
  obtain ⟨φ, r⟩ := R
  obtain ⟨q, ys, e1, e2, e3, e4⟩ := r.sl i _ hg
  rw [hσ] at e1
  cases e1
  exact ⟨_, r.call1 hg e2 C k1 k2 ⟨p, xs', hσ, upd_same, k3, e4⟩ rfl (fun _ _ h => h)⟩
/-- a thing that such a call has made, kept aside -/
theorem Rel0.callPN {i : Nat} {m : Bool} {a : Addr} {pl pl' : List D} {xs' : List V} (R : Rel0 K B S H σ γ) (hg : γ[i]? = some (.own m pl)) (hσ : σ[i]? = some (some (.ref p))) {SP : Hp} (C : Rel0 K ⟨H, S, [p], [], SP⟩ S' H' [] []) (k1 : S' p = none) (k2 : H' p = some (.lst xs')) (k3 : DenL (if m = true then B.SP else S') xs' pl') (l2 : H a = none) (l3 : H' a = some o) (l1 : S' a = none) : Rel0 K (B.fram a o) S' H' σ (γ.set i (.own m pl')) := by
  obtain ⟨φ, r⟩ := R
  obtain ⟨q, ys, e1, e2, e3, e4⟩ := r.sl i _ hg
  rw [hσ] at e1
  cases e1
  have r2 := r.call1 (t := .own m pl') hg e2 C k1 k2 ⟨p, xs', hσ, upd_same, k3, e4⟩ rfl (fun _ _ h => h)
  have na : a ≠ p := (ne_of_none (r.phH i _ _ e2) l2).symm
  refine ⟨_, r2.same, r2.keep, r2.muk, r2.grow, r2.ext, r2.len, r2.sl, r2.phH, r2.phS, r2.phD, r2.phO, fun q u hq => ?_, ?_, r2.spS⟩
  · rcases List.mem_cons.mp hq with z | z
    · cases z
      refine ⟨l3, l1, r.fresh0 l2, fun j => ?_⟩
      show (if j = i then L2.upd emptyH p _ else φ j) a = none
      by_cases hj : j = i
      · rw [if_pos hj, upd_ne na]; rfl
      · rw [if_neg hj]; exact r.freshP l2 j
    · exact r2.frm q u z
  · show ((a, o) :: B.fr |>.map (·.1)).Nodup
    rw [List.map_cons]
    exact List.nodup_cons.mpr ⟨r.freshF l2, r.frn⟩
end
end DL
set_option Elab.async false
set_option linter.all false
set_option autoImplicit false
set_option maxRecDepth 100000
set_option maxHeartbeats 4000000
/-! DL1b: the relation with what is wanted of an exception. -/
namespace DL
open PySem PySem.Spec PyProof.Rows L2

/-- a context with what is wanted of an exception that leaves the code: over the heap (W), over data (dX: the class, the fields) -/
structure Xb where
  c : Cx
  W : WX := fun _ _ _ _ => False
  dX : Addr → List (Str × D) → List Sl → Prop := fun _ _ _ => False
instance : CoeOut Xb Cx := ⟨Xb.c⟩
namespace Xb
abbrev prog (X : Xb) := X.c.prog
abbrev w (X : Xb) := X.c.w
abbrev K (X : Xb) := X.c.K
abbrev mg (X : Xb) := X.c.mg
abbrev base (X : Xb) := X.c.base
abbrev A (X : Xb) := X.c.A
abbrev N (X : Xb) := X.c.N
abbrev s_0 (X : Xb) := X.c.s_0
abbrev H_0 (X : Xb) := X.c.H_0
abbrev env (X : Xb) := X.c.env
abbrev outer (X : Xb) := X.c.outer
abbrev stack (X : Xb) := X.c.stack
abbrev ex (X : Xb) := X.c.ex
abbrev fn (X : Xb) := X.c.fn
abbrev calm (X : Xb) := X.c.calm
abbrev pn (X : Xb) := X.c.pn
abbrev xe (X : Xb) := X.c.xe
abbrev fs (X : Xb) := X.c.fs
/-- nothing may be raised -/
abbrev noX (X : Xb) : Xb := ⟨X.c, X.W, fun _ _ _ => False⟩
end Xb
/-- the fields of an exception -/
def ExD (S : Hp) (d : Option Addr) (fs : List (Str × D)) : Prop := (d = none ∧ fs = []) ∨ ∃ dd ws, d = some dd ∧ S dd = some (.xd ws) ∧ ∀ f x, fs.lookup f = some x → ∃ v, ws.lookup f = some v ∧ Den S v x
theorem ExD.mono {S S' : Hp} {d : Option Addr} {fs : List (Str × D)} (h : ExD S d fs) (e : Same S S') : ExD S' d fs := by
  rcases h with h | ⟨dd, ws, h1, h2, h3⟩
  · exact .inl h
  · exact .inr ⟨dd, ws, h1, e _ _ h2, fun f x hx => let ⟨v, h4, h5⟩ := h3 f x hx; ⟨v, h4, h5.mono e⟩⟩
/-- the entry without what is kept aside -/
def Bs.core (B : Bs) : Bs := { B with fr := [] }
def XLk (X : Xb) (B : Bs) (S : Hp) : Prop := ∀ S' H' σ' γ' C fs d, Same S S' → Rel0 X.K B.core S' H' σ' γ' → ExD S' d fs → X.dX C fs γ' → X.W (.ref C) d σ' H'
structure Rel (X : Xb) (B : Bs) (S H : Hp) (σ : L2.St) (γ : List Sl) : Prop where
  r : Rel0 X.K B S H σ γ
  x : XLk X B S
section
variable {X : Xb} {B : Bs} {S S' H H' : Hp} {σ : L2.St} {γ : List Sl} {p : Addr} {o : HO}
theorem XLk.mono (h : XLk X B S) (e : Same S S') : XLk X B S' := fun S1 H' σ' γ' C fs d e1 => h S1 H' σ' γ' C fs d (e.trans e1)
theorem XLk.no {X : Xb} : XLk X.noX B S := fun _ _ _ _ _ _ _ _ _ _ h => h.elim
theorem Rel0.no {X : Xb} (R : Rel0 X.K B S H σ γ) : Rel X.noX B S H σ γ := ⟨R, .no⟩
theorem Rel0.core {K : PySem.W.Frag} (R : Rel0 K B S H σ γ) : Rel0 K B.core S H σ γ := by
  obtain ⟨φ, r⟩ := R
  exact ⟨φ, r.same, r.keep, r.muk, r.grow, r.ext, r.len, r.sl, r.phH, r.phS, r.phD, r.phO, fun q u hq => (by cases hq), List.nodup_nil, r.spS⟩
theorem Rel.with (R : Rel X B S H σ γ) {S' H' : Hp} {σ' : L2.St} {γ' : List Sl} (r : Rel0 X.K B S' H' σ' γ') (e : Same S S') : Rel X B S' H' σ' γ' := ⟨r, R.x.mono e⟩
theorem Rel.same (R : Rel X B S H σ γ) : Same S H := R.r.same
theorem Rel.keep (R : Rel X B S H σ γ) : ∀ a o, B.H0 a = some o → a ∉ B.mu → H a = some o := R.r.keep
theorem Rel.muk (R : Rel X B S H σ γ) : ∀ a, a ∈ B.mu → B.S0 a = none ∧ (∃ o, B.H0 a = some o) ∧ ∃ o, H a = some o := R.r.muk
theorem Rel.grow (R : Rel X B S H σ γ) : Same B.S0 S := R.r.grow
theorem Rel.ext (R : Rel X B S H σ γ) : ∀ a o, S a = some o → B.S0 a = some o ∨ B.H0 a = none := R.r.ext
theorem Rel.len (R : Rel X B S H σ γ) : σ.length = γ.length := R.r.len
theorem Rel.sl (R : Rel X B S H σ γ) (i : Nat) (s : Sl) (h : γ[i]? = some s) : SlOk X.K B S H σ[i]? s := R.r.sl i s h
theorem Rel.fresh0 (R : Rel X B S H σ γ) (h : H p = none) : B.H0 p = none := R.r.fresh0 h
theorem Rel.freshS (R : Rel X B S H σ γ) (h : H p = none) : S p = none := R.r.freshS h
theorem Rel.new (R : Rel X B S H σ γ) (h : H p = none) : Rel X B (upd S p o) (upd H p o) σ γ := ⟨R.r.new h, R.x.mono (Same.upd (Same.refl S) (R.r.freshS h))⟩
theorem Rel.newF (R : Rel X B S H σ γ) (h : H p = none) : Rel X (B.fram p o) S (upd H p o) σ γ := ⟨R.r.newF h, R.x⟩
theorem Rel.unfram (R : Rel X (B.fram p o) S H σ γ) : Rel X B S H σ γ ∧ H p = some o ∧ S p = none ∧ B.H0 p = none := ⟨⟨R.r.unfram.1, R.x⟩, R.r.unfram.2⟩
theorem Rel.frzF (R : Rel X (B.fram p o) S H σ γ) : Rel X B (upd S p o) H σ γ := ⟨R.r.frzF, XLk.mono (B := B) R.x (Same.upd (Same.refl S) R.r.unfram.2.2.1)⟩
theorem Rel.chgF {u : HO} (R : Rel X (B.fram p o) S H σ γ) : Rel X (B.fram p u) S (L2.upd H p u) σ γ := ⟨R.r.chgF, R.x⟩
theorem Rel.set (R : Rel X B S H σ γ) {i : Nat} {v : V} {s : Sl} (hs : SlOk X.K B S H (some (some v)) s) (hn : s.may = none) : Rel X B S H (σ.set i (some v)) (γ.set i s) := ⟨R.r.set hs hn, R.x⟩
theorem Rel.setF (R : Rel X (B.fram p o) S H σ γ) {i : Nat} {s : Sl} (hs : SlF X.K B S (upd emptyH p o) (some (some (.ref p))) s) (hm : s.may = some false) : Rel X B S H (σ.set i (some (.ref p))) (γ.set i s) := ⟨R.r.setF hs hm, R.x⟩
theorem Rel.setOwn {xs : List V} (R : Rel X (B.fram p (.lst xs)) S H σ γ) {i : Nat} {ds : List D} (h : DenL S xs ds) : Rel X B S H (σ.set i (some (.ref p))) (γ.set i (.own false ds)) := ⟨R.r.setOwn h, R.x⟩
theorem Rel.chg (R : Rel X B S H σ γ) {i : Nat} {m : Bool} {xs' : List V} {ds ds' : List D} (hg : γ[i]? = some (.own m ds)) (hσ : σ[i]? = some (some (.ref p))) (hd : DenL (if m = true then B.SP else S) xs' ds') : Rel X B S (upd H p (.lst xs')) σ (γ.set i (.own m ds')) := ⟨R.r.chg hg hσ hd, R.x⟩
theorem Rel.chgI (R : Rel X B S H σ γ) {i : Nat} {m : Bool} {C dx : Addr} {vs vs' : List (Str × V)} {fs fs' : List (Str × D)} (hg : γ[i]? = some (.ins m C fs)) (hσ : σ[i]? = some (some (.ref p))) (hd : DenF S vs' fs') : Rel X B S (upd H p (.ins C dx vs')) σ (γ.set i (.ins m C fs')) := ⟨R.r.chgI (dx := dx) (vs := vs) hg hσ hd, R.x⟩
theorem Rel.lt (_ : Rel X B S H σ γ) {i : Nat} {s : Sl} (h : γ[i]? = some s) : i < γ.length := (List.getElem?_eq_some_iff.mp h).1
theorem Rel.drop (R : Rel X B S H σ γ) {i : Nat} : Rel X B S H σ (γ.set i .any) := ⟨R.r.drop, R.x⟩
theorem Rel.know (R : Rel X B S H σ γ) {i : Nat} {s : Sl} (hs : SlOk X.K B S H σ[i]? s) (hn : s.may = none) : Rel X B S H σ (γ.set i s) := ⟨R.r.know hs hn, R.x⟩
theorem Rel.takeOwn (R : Rel X B S H σ γ) {i : Nat} {ds : List D} (hg : γ[i]? = some (.own false ds)) : ∃ p xs, σ[i]? = some (some (.ref p)) ∧ DenL S xs ds ∧ Rel X (B.fram p (.lst xs)) S H σ (γ.set i .any) :=
  let ⟨p, xs, h1, h2, h3⟩ := R.r.takeOwn hg; ⟨p, xs, h1, h2, h3, R.x⟩
theorem Rel.val (R : Rel X B S H σ γ) {i : Nat} {ds : List D} (hg : γ[i]? = some (.own false ds)) : ∃ S' p, σ[i]? = some (some (.ref p)) ∧ Same S S' ∧ Rel X B S' H σ (γ.set i (.val (.lst ds))) ∧ Den S' (.ref p) (.lst ds) :=
  let ⟨S', p, h1, h2, h3, h4⟩ := R.r.val hg; ⟨S', p, h1, h2, ⟨h3, R.x.mono h2⟩, h4⟩
theorem Rel.nil (R : Rel X B S H σ γ) : Rel0 X.K B S H [] [] := R.r.nil
theorem Rel.call (R : Rel X B S H σ γ) (C : Rel0 X.K ⟨H, S, [], [], emptyH⟩ S' H' [] []) : Rel X B S' H' σ γ := ⟨R.r.call C, R.x.mono C.grow⟩
theorem Rel.callN (R : Rel X B S H σ γ) (C : Rel0 X.K ⟨H, S, [], [], emptyH⟩ S' H' [] []) (h0 : H p = none) (h1 : H' p = some o) (h2 : S' p = none) : Rel X (B.fram p o) S' H' σ γ := ⟨R.r.callN C h0 h1 h2, XLk.mono (B := B) R.x C.grow⟩
theorem Rel.callP {i : Nat} {m : Bool} {pl pl' : List D} {xs' : List V} (R : Rel X B S H σ γ) (hg : γ[i]? = some (.own m pl)) (hσ : σ[i]? = some (some (.ref p))) {SP : Hp} (C : Rel0 X.K ⟨H, S, [p], [], SP⟩ S' H' [] []) (k1 : S' p = none) (k2 : H' p = some (.lst xs')) (k3 : DenL (if m = true then B.SP else S') xs' pl') : Rel X B S' H' σ (γ.set i (.own m pl')) := ⟨R.r.callP hg hσ C k1 k2 k3, R.x.mono C.grow⟩
theorem Rel.callPN {i : Nat} {m : Bool} {a : Addr} {pl pl' : List D} {xs' : List V} (R : Rel X B S H σ γ) (hg : γ[i]? = some (.own m pl)) (hσ : σ[i]? = some (some (.ref p))) {SP : Hp} (C : Rel0 X.K ⟨H, S, [p], [], SP⟩ S' H' [] []) (k1 : S' p = none) (k2 : H' p = some (.lst xs')) (k3 : DenL (if m = true then B.SP else S') xs' pl') (l2 : H a = none) (l3 : H' a = some o) (l1 : S' a = none) : Rel X (B.fram a o) S' H' σ (γ.set i (.own m pl')) := ⟨R.r.callPN hg hσ C k1 k2 k3 l2 l3 l1, XLk.mono (B := B) R.x C.grow⟩
end
end DL
namespace DL
open PySem PySem.Spec PyProof.Rows L2
abbrev Xb.blk (X : Xb) (s : Shared) (H : Hp) (scope : Scope) (env : Env) (fp : List Addr) : Xb := ⟨X.c.blk s H scope env fp, X.W, X.dX⟩
section
variable {X : Xb} {s : Shared} {H0 : Hp} {sc : Scope} {env : Env} {fp : List Addr} {B : Bs} {S H : Hp} {σ : L2.St} {γ : List Sl}
theorem Rel.toBlk (R : Rel X B S H σ γ) : Rel (X.blk s H0 sc env fp) B S H σ γ := ⟨R.r, R.x⟩
theorem Rel.ofBlk (R : Rel (X.blk s H0 sc env fp) B S H σ γ) : Rel X B S H σ γ := ⟨R.r, R.x⟩
end
end DL
namespace DL
open PySem PySem.Spec PyProof.Rows L2
/-- a context of code that raises nothing -/
abbrev Xb.of (c : Cx) : Xb := ⟨c, fun _ _ _ _ => False, fun _ _ _ => False⟩
theorem Rel0.of {c : Cx} {B : Bs} {S H : Hp} {σ : L2.St} {γ : List Sl} (R : Rel0 c.K B S H σ γ) : Rel (Xb.of c) B S H σ γ := ⟨R, fun _ _ _ _ _ _ _ _ _ _ h => h.elim⟩
end DL
set_option Elab.async false
set_option linter.all false
set_option autoImplicit false
set_option maxRecDepth 100000
set_option maxHeartbeats 4000000
/-! DL2: judgements over the data: expressions, tests, arguments, iterators, targets, statements. -/
namespace DL
open PySem PySem.Spec PyProof.Rows L2

abbrev WE := List Sl → (D → List Sl → Prop) → Prop
abbrev WF := List Sl → (List D → List Sl → Prop) → Prop
abbrev WT := List Sl → (Bool → List Sl → Prop) → Prop
abbrev WA := List Sl → (List D → List Sl → Prop) → Prop
abbrev WO := List Sl → (Option Int → List Sl → Prop) → Prop
/-- monotone -/
def Mo {α : Type} (w : List Sl → (α → List Sl → Prop) → Prop) : Prop := ∀ γ (P P' : α → List Sl → Prop), (∀ d γ', P d γ' → P' d γ') → w γ P → w γ P'

structure SE (X : Xb) (t : TE) (w : WE) : Prop where
  mono : Mo w
  run : ∀ B S H σ γ (Q : VK), Rel X B S H σ γ → w γ (fun d γ' => ∀ v S' H', Rel X B S' H' σ γ' → Same S S' → Den S' v d → Q v H') → t σ H Q
/-- a new list -/
structure SF (X : Xb) (t : TE) (w : WF) : Prop where
  mono : Mo w
  run : ∀ B S H σ γ (Q : VK), Rel X B S H σ γ → w γ (fun ds γ' => ∀ p xs S' H', Rel X (B.fram p (.lst xs)) S' H' σ γ' → Same S S' → DenL S' xs ds → Q (.ref p) H') → t σ H Q
structure ST (X : Xb) (t : TT) (w : WT) : Prop where
  mono : Mo w
  run : ∀ B S H σ γ (Q : Bool → Hp → Prop), Rel X B S H σ γ → w γ (fun b γ' => ∀ S' H', Rel X B S' H' σ γ' → Same S S' → Q b H') → t σ H Q
structure SA (X : Xb) (t : TA) (w : WA) : Prop where
  mono : Mo w
  run : ∀ B S H σ γ (Q : List V → Hp → Prop), Rel X B S H σ γ → w γ (fun ds γ' => ∀ vs S' H', Rel X B S' H' σ γ' → Same S S' → DenL S' vs ds → Q vs H') → t σ H Q
structure SO (X : Xb) (t : TO) (w : WO) : Prop where
  mono : Mo w
  run : ∀ B S H σ γ (Q : Option Int → Hp → Prop), Rel X B S H σ γ → w γ (fun o γ' => ∀ S' H', Rel X B S' H' σ γ' → Same S S' → Q o H') → t σ H Q

structure DE (X : Xb) (e : Expr) (t : TE) (w : WE) : Prop where
  pe : PE X e t
  se : SE X t w
structure DF (X : Xb) (e : Expr) (t : TE) (w : WF) : Prop where
  pe : PE X e t
  sf : SF X t w
structure DT (X : Xb) (e : Expr) (t : TT) (w : WT) : Prop where
  pt : PT X e t
  st : ST X t w
/-- and, or within tests -/
structure DW (X : Xb) (e : Expr) (t : TT) (w : WT) : Prop where
  pw : PW X e t
  st : ST X t w
structure DA (X : Xb) (es : List Expr) (t : TA) (w : WA) : Prop where
  pa : PA X es t
  sa : SA X t w
structure DO (X : Xb) (e : Option Expr) (t : TO) (w : WO) : Prop where
  po : PO X e t
  so : SO X t w

section
variable {X : Xb} {K : PySem.W.Frag} {a b c e : Expr} {ta tb tc te : TE} {wa wb wc we : WE} {pos : Pos}
theorem DW.dt {t : TT} {w : WT} (h : DW X e t w) : DT X e t w := ⟨h.pw.pt, h.st⟩

/-! ### names, constants -/
def dVar (i : Nat) : WE := fun γ Q => (∃ d, γ[i]? = some (.val d) ∧ Q d γ) ∨ (∃ ds, γ[i]? = some (.own false ds) ∧ Q (.lst ds) (γ.set i (.val (.lst ds))))
theorem se_var {i : Nat} : SE X (tVar i) (dVar i) := by
  refine ⟨fun γ P P' h q => ?_, fun B S H σ γ Q R h => ?_⟩
  · rcases q with ⟨d, e, q⟩ | ⟨ds, e, q⟩
    · exact .inl ⟨d, e, h _ _ q⟩
    · exact .inr ⟨ds, e, h _ _ q⟩
  · rcases h with ⟨d, e, q⟩ | ⟨ds, e, q⟩
    · obtain ⟨v, e1, e2⟩ := R.sl i _ e
      exact ⟨v, e1, q v S H R (Same.refl S) e2⟩
    · obtain ⟨S', p, e1, e2, R', dn⟩ := R.val e
      exact ⟨.ref p, e1, q _ S' H R' e2 dn⟩
theorem de_var (i : Nat) {x : Str} (hN : X.N[i]? = some x := by rfl) (hv : Vis X.env.scope x := by first | exact Or.inl rfl | exact Or.inr (Or.inl rfl) | exact Or.inr (Or.inr rfl)) (hd : (x == ("__debug__" : Str)) = false := by decide)
    (hcd : (x == ("__classdict__" : Str)) = false := by decide) : DE X (.Name x pos) (tVar i) (dVar i) := ⟨pe_var hN hv hd hcd, se_var⟩
def dC (d : D) : WE := fun γ Q => Q d γ
theorem se_c {v : V} {d : D} (h : ∀ S, Den S v d) : SE X (tC v) (dC d) := ⟨fun γ P P' h q => h _ _ q, fun B S H σ γ Q R q => q v S H R (Same.refl S) (h S)⟩
theorem de_int {i : Int} {j} : DE X (.Constant (.int i) j pos) (tC (.int i)) (dC (.int i)) := ⟨pe_int, se_c fun _ => .int i⟩
theorem de_bl {i : Bool} {j} : DE X (.Constant (.bool i) j pos) (tC (.bl i)) (dC (.bl i)) := ⟨pe_bl, se_c fun _ => .bl i⟩
theorem de_non {j} : DE X (.Constant .none j pos) (tC .non) (dC .non) := ⟨pe_non, se_c fun _ => .non⟩
theorem de_str {x : Str} {j} : DE X (.Constant (.str x) j pos) (tC (.str x)) (dC (.str x)) := ⟨pe_str, se_c fun _ => .str x⟩
/-- a new list taken as a value -/
def dV (w : WF) : WE := fun γ Q => w γ fun ds γ' => Q (.lst ds) γ'
theorem se_of {t : TE} {w : WF} (h : SF X t w) : SE X t (dV w) := by
  refine ⟨fun γ P P' k q => h.mono γ _ _ (fun d γ' x => k _ _ x) q, fun B S H σ γ Q R q => ?_⟩
  refine h.run B S H σ γ Q R (h.mono γ _ _ (fun ds γ' k p xs S' H' R' e e4 => ?_) q)
  have e6 : Same S' (upd S' p (.lst xs)) := Same.upd (Same.refl S') R'.unfram.2.2.1
  exact k (.ref p) (upd S' p (.lst xs)) H' R'.frzF (e.trans e6) (.ofL upd_same (e4.mono e6))
theorem DF.v {t : TE} {w : WF} (h : DF X e t w) : DE X e t (dV w) := ⟨h.pe, se_of h.sf⟩

/-! ### operators -/
/-- an operation's rule by values and what it is on data -/
structure OpS (r : R2) (f : D → D → (D → Prop) → Prop) : Prop where
  mono : ∀ x y (P P' : D → Prop), (∀ d, P d → P' d) → f x y P → f x y P'
  run : ∀ X B S H σ γ (Q : VK) v u x y, Rel X B S H σ γ → Den S v x → Den S u y → f x y (fun d => ∀ z S' H', Rel X B S' H' σ γ → Same S S' → Den S' z d → Q z H') → r v u H Q
def dOp (f : D → D → (D → Prop) → Prop) (wa wb : WE) : WE := fun γ Q => wa γ fun x γ1 => wb γ1 fun y γ2 => f x y fun d => Q d γ2
theorem se_op {r : R2} {f : D → D → (D → Prop) → Prop} (ho : OpS r f) (ha : SE X ta wa) (hb : SE X tb wb) : SE X (tOp r ta tb) (dOp f wa wb) := by
  refine ⟨fun γ P P' k q => ha.mono γ _ _ (fun x γ1 q => hb.mono γ1 _ _ (fun y γ2 q => ho.mono x y _ _ (fun d q => k _ _ q) q) q) q, fun B S H σ γ Q R q => ?_⟩
  refine ha.run B S H σ γ _ R (ha.mono γ _ _ (fun x γ1 q v S1 H1 R1 e1 d1 => ?_) q)
  refine hb.run B S1 H1 σ γ1 _ R1 (hb.mono γ1 _ _ (fun y γ2 q u S2 H2 R2 e2 d2 => ?_) q)
  exact ho.run X B S2 H2 σ γ2 Q v u x y R2 (d1.mono e2) d2 (ho.mono _ _ _ _ (fun d q z S' H' R' e d' => q z S' H' R' ((e1.trans e2).trans e) d') q)
theorem de_op {op : Operator} {r : R2} {f : D → D → (D → Prop) → Prop} (h : OpR X (binaryOp op) r) (ho : OpS r f) (ha : DE X a ta wa) (hb : DE X b tb wb) : DE X (.BinOp a op b pos) (tOp r ta tb) (dOp f wa wb) := ⟨pe_op h ha.pe hb.pe, se_op ho ha.se hb.se⟩
theorem de_cmp {op : CmpOp} {r : R2} {f : D → D → (D → Prop) → Prop} (h : OpR X (compareOp op) r) (ho : OpS r f) (ha : DE X a ta wa) (hb : DE X b tb wb) (hm : behindInMarks op b = false) : DE X (.Compare a [op] [b] pos) (tOp r ta tb) (dOp f wa wb) := ⟨pe_cmpR h ha.pe hb.pe hm, se_op ho ha.se hb.se⟩
/-- ints to a datum, under a condition -/
def dI (C : Int → Int → Prop) (g : Int → Int → D) (x y : D) (Q : D → Prop) : Prop := ∃ i j, x = .int i ∧ y = .int j ∧ C i j ∧ Q (g i j)
def dI0 (g : Int → Int → D) (x y : D) (Q : D → Prop) : Prop := ∃ i j, x = .int i ∧ y = .int j ∧ Q (g i j)
theorem ops_I {C : Int → Int → Prop} {g : Int → Int → V} {h : Int → Int → D} (e : ∀ S i j, Den S (g i j) (h i j)) : OpS (rI C g) (dI C h) := by
  refine ⟨fun x y P P' k q => ?_, fun X B S H σ γ Q v u x y R d1 d2 q => ?_⟩
  · obtain ⟨i, j, e1, e2, c, q⟩ := q
    exact ⟨i, j, e1, e2, c, k _ q⟩
  · obtain ⟨i, j, e1, e2, c, q⟩ := q
    subst e1; subst e2
    cases d1; cases d2
    exact ⟨i, j, rfl, rfl, c, q _ S H R (Same.refl S) (e S i j)⟩
theorem ops_I0 {g : Int → Int → V} {h : Int → Int → D} (e : ∀ S i j, Den S (g i j) (h i j)) : OpS (rI0 g) (dI0 h) := by
  refine ⟨fun x y P P' k q => ?_, fun X B S H σ γ Q v u x y R d1 d2 q => ?_⟩
  · obtain ⟨i, j, e1, e2, q⟩ := q
    exact ⟨i, j, e1, e2, k _ q⟩
  · obtain ⟨i, j, e1, e2, q⟩ := q
    subst e1; subst e2
    cases d1; cases d2
    exact ⟨i, j, rfl, rfl, q _ S H R (Same.refl S) (e S i j)⟩
abbrev dAdd := dOp (dI0 fun i j => .int (i + j))
abbrev dSub := dOp (dI0 fun i j => .int (i - j))
abbrev dMul := dOp (dI CMul fun i j => .int (i * j))
abbrev dMulW := dOp (dI CMulW fun i j => .int (i * j))
abbrev dFdv := dOp (dI CDivW fun i j => .int (i / j))
abbrev dMod := dOp (dI (fun _ j => 0 < j) fun i j => .int (i % j))
abbrev dPow := dOp (dI CPow fun i j => .int (i ^ j.toNat))
abbrev dLt := dOp (dI0 fun i j => .bl (decide (i < j)))
abbrev dLe := dOp (dI0 fun i j => .bl (decide (i ≤ j)))
abbrev dGt := dOp (dI0 fun i j => .bl (decide (j < i)))
abbrev dGe := dOp (dI0 fun i j => .bl (decide (j ≤ i)))
theorem de_add (ha : DE X a ta wa) (hb : DE X b tb wb) : DE X (.BinOp a .Add b pos) (tOp (rI0 fun i j => .int (i + j)) ta tb) (dAdd wa wb) := de_op op_add (ops_I0 fun _ _ _ => .int _) ha hb
theorem de_sub (ha : DE X a ta wa) (hb : DE X b tb wb) : DE X (.BinOp a .Sub b pos) (tOp (rI0 fun i j => .int (i - j)) ta tb) (dSub wa wb) := de_op op_sub (ops_I0 fun _ _ _ => .int _) ha hb
theorem de_fdv (ha : DE X a ta wa) (hb : DE X b tb wb) : DE X (.BinOp a .FloorDiv b pos) (tOp (rI CDivW fun i j => .int (i / j)) ta tb) (dFdv wa wb) := de_op op_fdivW (ops_I fun _ _ _ => .int _) ha hb
theorem de_mod (ha : DE X a ta wa) (hb : DE X b tb wb) : DE X (.BinOp a .Mod b pos) (tOp (rI (fun _ j => 0 < j) fun i j => .int (i % j)) ta tb) (dMod wa wb) := de_op op_mod (ops_I fun _ _ _ => .int _) ha hb
theorem de_pow (ha : DE X a ta wa) (hb : DE X b tb wb) : DE X (.BinOp a .Pow b pos) (tOp (rI CPow fun i j => .int (i ^ j.toNat)) ta tb) (dPow wa wb) := de_op op_pow (ops_I fun _ _ _ => .int _) ha hb
/-- == of scalars: None, bools, ints, texts -/
def scalD : D → Option V
  | .non => some .non | .bl b => some (.bl b) | .int i => some (.int i) | .str s => some (.str s) | _ => none
theorem scalD_den {S : Hp} {d : D} {v u : V} (h : Den S v d) (e : scalD d = some u) : v = u := by
  cases h <;> first | (cases e; rfl) | cases e
def dSc (neg : Bool) (x y : D) (Q : D → Prop) : Prop := ∃ v u, scalD x = some v ∧ scalD y = some u ∧ scal v u = true ∧ Q (.bl (if neg then !decide (v = u) else decide (v = u)))
theorem ops_eq : OpS rEq (dSc false) := by
  refine ⟨fun x y P P' k q => ?_, fun X B S H σ γ Q v u x y R d1 d2 q => ?_⟩
  · obtain ⟨i, j, e1, e2, c, q⟩ := q
    exact ⟨i, j, e1, e2, c, k _ q⟩
  · obtain ⟨i, j, e1, e2, c, q⟩ := q
    rw [scalD_den d1 e1, scalD_den d2 e2]
    exact ⟨c, q _ S H R (Same.refl S) (.bl _)⟩
theorem ops_ne : OpS rNe (dSc true) := by
  refine ⟨fun x y P P' k q => ?_, fun X B S H σ γ Q v u x y R d1 d2 q => ?_⟩
  · obtain ⟨i, j, e1, e2, c, q⟩ := q
    exact ⟨i, j, e1, e2, c, k _ q⟩
  · obtain ⟨i, j, e1, e2, c, q⟩ := q
    rw [scalD_den d1 e1, scalD_den d2 e2]
    exact ⟨c, q _ S H R (Same.refl S) (.bl _)⟩
abbrev dEq := dOp (dSc false)
abbrev dNe := dOp (dSc true)
theorem de_eq (ha : DE X a ta wa) (hb : DE X b tb wb) : DE X (.Compare a [.Eq] [b] pos) (tOp rEq ta tb) (dEq wa wb) := de_cmp op_eq ops_eq ha hb (nomark _)
/-- is None, is not None -/
def dIsN (neg : Bool) (x y : D) (Q : D → Prop) : Prop := y = .non ∧ Q (.bl (match x with | .non => !neg | _ => neg))
/-- - x -/
def dNeg (wa : WE) : WE := fun γ Q => wa γ fun x γ1 => ∃ i, x = .int i ∧ Q (.int (-i)) γ1
theorem de_neg (ha : DE X a ta wa) : DE X (.UnaryOp .USub a pos) (tUn (rU fun i => .int (-i)) ta) (dNeg wa) := by
  refine ⟨pe_un un_neg ha.pe, fun γ P P' k q => ha.se.mono γ _ _ (fun x γ1 ⟨i, e, q⟩ => ⟨i, e, k _ _ q⟩) q, fun B S H σ γ Q R q => ?_⟩
  refine ha.se.run B S H σ γ _ R (ha.se.mono γ _ _ (fun x γ1 ⟨i, e, q⟩ v S1 H1 R1 e1 d1 => ?_) q)
  subst e
  cases d1
  exact ⟨i, rfl, q _ S1 H1 R1 e1 (.int _)⟩

/-! ### tests -/
/-- a value's truth -/
def truD : D → Bool
  | .non => false | .bl b => b | .int i => i != 0 | .str s => (s.length : Int) != 0 | .lst ds => !ds.isEmpty | .tup ds => !ds.isEmpty | .obj _ _ => true | .emp => false | .ref _ => true
def okT : D → Prop
  | .str s => s.length ≤ sizeLine | .obj _ _ => False | .emp => False | .ref _ => False | _ => True
def dTr (wa : WE) : WT := fun γ Q => wa γ fun x γ1 => okT x ∧ Q (truD x) γ1
theorem isEmpty_len {α β : Type} {xs : List α} {ds : List β} (h : xs.length = ds.length) : xs.isEmpty = ds.isEmpty := by
  cases xs <;> cases ds <;> simp_all
theorem truV_of {H S : Hp} {v : V} {d : D} (h : Den S v d) (e : Same S H) (ok : okT d) : TruV K v H (truD d) := by
  cases h with
  | non => rfl
  | bl b => rfl
  | int i => rfl
  | str s => exact ⟨ok, rfl⟩
  | lst h hl hs => exact .inl ⟨_, SqL.of (e _ _ h), by show (!_) = _; rw [isEmpty_len hl]⟩
  | tup h hl hs => exact .inr (.inl ⟨_, SqT.of (e _ _ h), by show (!_) = _; rw [isEmpty_len hl]⟩)
  | obj h hl hn hs => exact ok.elim
  | emp h => exact ok.elim
  | ref p => exact ok.elim
theorem dt_tr (K' : PySem.W.Frag) (ha : DE X a ta wa) (he : ∀ whole, isTrue a X.env whole = (do let v ← whole; standAt a.pos; holding [v] (truthy v)) := by intro _; rfl) (hK : X.K = K' := by rfl) : DT X a (fun σ H Q => ta σ H fun x H' => ∃ k, TruV K' x H' k ∧ Q k H') (dTr wa) := by
  subst hK
  refine ⟨pt_truth ha.pe he, fun γ P P' k q => ha.se.mono γ _ _ (fun x γ1 ⟨e, q⟩ => ⟨e, k _ _ q⟩) q, fun B S H σ γ Q R q => ?_⟩
  refine ha.se.run B S H σ γ _ R (ha.se.mono γ _ _ (fun x γ1 ⟨ok, q⟩ v S1 H1 R1 e1 d1 => ?_) q)
  exact ⟨_, truV_of d1 R1.same ok, q S1 H1 R1 e1⟩
/-- a comparison as a test -/
def dB (wa : WE) : WT := fun γ Q => wa γ fun x γ1 => ∃ b, x = .bl b ∧ Q b γ1
theorem st_test (ha : SE X ta wa) : ST X (tTest ta) (dB wa) := by
  refine ⟨fun γ P P' k q => ha.mono γ _ _ (fun x γ1 ⟨i, e, q⟩ => ⟨i, e, k _ _ q⟩) q, fun B S H σ γ Q R q => ?_⟩
  refine ha.run B S H σ γ _ R (ha.mono γ _ _ (fun x γ1 ⟨i, e, q⟩ v S1 H1 R1 e1 d1 => ?_) q)
  subst e
  cases d1
  exact ⟨i, rfl, q S1 H1 R1 e1⟩
theorem dt_cmp {op : CmpOp} {r : R2} {f : D → D → (D → Prop) → Prop} (h : OpR X (compareOp op) r) (ho : OpS r f) (ha : DE X a ta wa) (hb : DE X b tb wb) (hm : behindInMarks op b = false) : DT X (.Compare a [op] [b] pos) (tTest (tOp r ta tb)) (dB (dOp f wa wb)) := ⟨pt_cmpR h ha.pe hb.pe hm, st_test (se_op ho ha.se hb.se)⟩
theorem dt_eq (ha : DE X a ta wa) (hb : DE X b tb wb) : DT X (.Compare a [.Eq] [b] pos) (tTest (tOp rEq ta tb)) (dB (dEq wa wb)) := dt_cmp op_eq ops_eq ha hb (nomark _)
theorem dt_ne (ha : DE X a ta wa) (hb : DE X b tb wb) : DT X (.Compare a [.NotEq] [b] pos) (tTest (tOp rNe ta tb)) (dB (dNe wa wb)) := dt_cmp op_ne ops_ne ha hb (nomark _)
theorem dt_lt (ha : DE X a ta wa) (hb : DE X b tb wb) : DT X (.Compare a [.Lt] [b] pos) (tTest (tOp (rI0 fun i j => .bl (decide (i < j))) ta tb)) (dB (dLt wa wb)) := dt_cmp op_lt (ops_I0 fun _ _ _ => .bl _) ha hb (nomark _)
theorem dt_le (ha : DE X a ta wa) (hb : DE X b tb wb) : DT X (.Compare a [.LtE] [b] pos) (tTest (tOp (rI0 fun i j => .bl (decide (i ≤ j))) ta tb)) (dB (dLe wa wb)) := dt_cmp op_le (ops_I0 fun _ _ _ => .bl _) ha hb (nomark _)
theorem dt_gt (ha : DE X a ta wa) (hb : DE X b tb wb) : DT X (.Compare a [.Gt] [b] pos) (tTest (tOp (rI0 fun i j => .bl (decide (j < i))) ta tb)) (dB (dGt wa wb)) := dt_cmp op_gt (ops_I0 fun _ _ _ => .bl _) ha hb (nomark _)
theorem dt_ge (ha : DE X a ta wa) (hb : DE X b tb wb) : DT X (.Compare a [.GtE] [b] pos) (tTest (tOp (rI0 fun i j => .bl (decide (j ≤ i))) ta tb)) (dB (dGe wa wb)) := dt_cmp op_ge (ops_I0 fun _ _ _ => .bl _) ha hb (nomark _)
variable {t u : TT} {w w' : WT} {rest : List Expr}
def dAnd (w w' : WT) : WT := fun γ Q => w γ fun c γ1 => if c = true then w' γ1 Q else Q false γ1
def dOr (w w' : WT) : WT := fun γ Q => w γ fun c γ1 => if c = true then Q true γ1 else w' γ1 Q
def dNot (w : WT) : WT := fun γ Q => w γ fun c γ1 => Q (!c) γ1
theorem Mo.ite {α : Type} {w w' : List Sl → (α → List Sl → Prop) → Prop} (h : Mo w) (h' : Mo w') {γ} {P P' : α → List Sl → Prop} {c : Bool} (k : ∀ d γ', P d γ' → P' d γ') (q : if c = true then w γ P else w' γ P) : if c = true then w γ P' else w' γ P' := by
  cases c with
  | true => exact h γ _ _ k q
  | false => exact h' γ _ _ k q
theorem dw_and1 (h : DT X a t w) : DW X (.BoolOp .And [a] pos) t w := ⟨pw_and1 h.pt, h.st⟩
theorem dw_or1 (h : DT X a t w) : DW X (.BoolOp .Or [a] pos) t w := ⟨pw_or1 h.pt, h.st⟩
theorem dw_and (h : DT X a t w) (h' : DW X (.BoolOp .And (b :: rest) pos) u w') : DW X (.BoolOp .And (a :: b :: rest) pos) (tAnd t u) (dAnd w w') := by
  refine ⟨pw_and h.pt h'.pw, fun γ P P' k q => h.st.mono γ _ _ (fun c γ1 q => ?_) q, fun B S H σ γ Q R q => ?_⟩
  · cases c with
    | true => exact h'.st.mono γ1 _ _ k q
    | false => exact k _ _ q
  · refine h.st.run B S H σ γ _ R (h.st.mono γ _ _ (fun c γ1 q S1 H1 R1 e1 => ?_) q)
    cases c with
    | true => exact h'.st.run B S1 H1 σ γ1 _ R1 (h'.st.mono γ1 _ _ (fun b γ2 q S' H' R' e => q S' H' R' (e1.trans e)) q)
    | false => exact q S1 H1 R1 e1
theorem dw_or (h : DT X a t w) (h' : DW X (.BoolOp .Or (b :: rest) pos) u w') : DW X (.BoolOp .Or (a :: b :: rest) pos) (tOr t u) (dOr w w') := by
  refine ⟨pw_or h.pt h'.pw, fun γ P P' k q => h.st.mono γ _ _ (fun c γ1 q => ?_) q, fun B S H σ γ Q R q => ?_⟩
  · cases c with
    | true => exact k _ _ q
    | false => exact h'.st.mono γ1 _ _ k q
  · refine h.st.run B S H σ γ _ R (h.st.mono γ _ _ (fun c γ1 q S1 H1 R1 e1 => ?_) q)
    cases c with
    | true => exact q S1 H1 R1 e1
    | false => exact h'.st.run B S1 H1 σ γ1 _ R1 (h'.st.mono γ1 _ _ (fun b γ2 q S' H' R' e => q S' H' R' (e1.trans e)) q)
theorem dt_not (h : DT X a t w) : DT X (.UnaryOp .Not a pos) (tNot t) (dNot w) :=
  ⟨pt_not h.pt, fun γ P P' k q => h.st.mono γ _ _ (fun c γ1 q => k _ _ q) q, fun B S H σ γ Q R q => h.st.run B S H σ γ _ R q⟩
/-- .. as values (of bools) -/
def dAndV (wa wb : WE) : WE := fun γ Q => wa γ fun x γ1 => ∃ c, x = .bl c ∧ if c = true then wb γ1 Q else Q (.bl false) γ1
def dOrV (wa wb : WE) : WE := fun γ Q => wa γ fun x γ1 => ∃ c, x = .bl c ∧ if c = true then Q (.bl true) γ1 else wb γ1 Q
def dNotV (wa : WE) : WE := fun γ Q => wa γ fun x γ1 => ∃ c, x = .bl c ∧ Q (.bl (!c)) γ1
theorem de_one {op} (h : DE X a ta wa) : DE X (.BoolOp op [a] pos) ta wa := ⟨pe_one h.pe, h.se⟩
theorem de_and (h : DE X a ta wa) (h' : DE X (.BoolOp .And (b :: rest) pos) tb wb) : DE X (.BoolOp .And (a :: b :: rest) pos) (tAndV ta tb) (dAndV wa wb) := by
  refine ⟨L2.pe_and h.pe h'.pe, fun γ P P' k q => h.se.mono γ _ _ (fun x γ1 ⟨c, e, q⟩ => ⟨c, e, Mo.ite (w' := fun γ (Q : D → List Sl → Prop) => Q (D.bl false) γ) h'.se.mono (fun _ _ _ k q => k _ _ q) k q⟩) q, fun B S H σ γ Q R q => ?_⟩
  · refine h.se.run B S H σ γ _ R (h.se.mono γ _ _ (fun x γ1 ⟨c, e, q⟩ v S1 H1 R1 e1 d1 => ?_) q)
    subst e
    cases d1
    refine ⟨c, rfl, ?_⟩
    cases c with
    | true => exact h'.se.run B S1 H1 σ γ1 _ R1 (h'.se.mono γ1 _ _ (fun b γ2 q v S' H' R' e => q v S' H' R' (e1.trans e)) q)
    | false => exact q _ S1 H1 R1 e1 (.bl _)
theorem de_not (h : DE X a ta wa) : DE X (.UnaryOp .Not a pos) (tNotV ta) (dNotV wa) := by
  refine ⟨L2.pe_not h.pe, fun γ P P' k q => h.se.mono γ _ _ (fun x γ1 ⟨c, e, q⟩ => ⟨c, e, k _ _ q⟩) q, fun B S H σ γ Q R q => ?_⟩
  refine h.se.run B S H σ γ _ R (h.se.mono γ _ _ (fun x γ1 ⟨c, e, q⟩ v S1 H1 R1 e1 d1 => ?_) q)
  subst e
  cases d1
  exact ⟨c, rfl, q _ S1 H1 R1 e1 (.bl _)⟩
/-- a if c else b -/
def dIfE (w : WT) (wa wb : WE) : WE := fun γ Q => w γ fun c γ1 => if c = true then wa γ1 Q else wb γ1 Q
end

/-! ### argument lists, displays -/
section
variable {X : Xb} {K : PySem.W.Frag} {e : Expr} {es : List Expr} {te : TE} {we : WE} {t : TA} {w : WA} {pos : Pos}
def dNil : WA := fun γ Q => Q [] γ
def dCons (we : WE) (w : WA) : WA := fun γ Q => we γ fun x γ1 => w γ1 fun ds γ2 => Q (x :: ds) γ2
theorem da_nil : DA X [] tNil dNil := ⟨pa_nil, fun γ P P' k q => k _ _ q, fun B S H σ γ Q R q => q [] S H R (Same.refl S) .nil⟩
theorem da_cons (he : DE X e te we) (h : DA X es t w) (hs : starEach (e :: es) X.env = (false, eval e X.env) :: starEach es X.env := by rfl) : DA X (e :: es) (tCons te t) (dCons we w) := by
  refine ⟨pa_cons he.pe h.pa hs, fun γ P P' k q => he.se.mono γ _ _ (fun x γ1 q => h.sa.mono γ1 _ _ (fun ds γ2 q => k _ _ q) q) q, fun B S H σ γ Q R q => ?_⟩
  refine he.se.run B S H σ γ _ R (he.se.mono γ _ _ (fun x γ1 q v S1 H1 R1 e1 d1 => ?_) q)
  exact h.sa.run B S1 H1 σ γ1 _ R1 (h.sa.mono γ1 _ _ (fun ds γ2 q vs S2 H2 R2 e2 d2 => q _ S2 H2 R2 (e1.trans e2) (.cons (d1.mono e2) d2)) q)
def dTup (w : WA) : WE := fun γ Q => w γ fun ds γ1 => ds.length ≤ sizeLine ∧ Q (.tup ds) γ1
theorem de_tup {x1} (h : DA X es t w) : DE X (.Tuple es x1 pos) (tTup t) (dTup w) := by
  refine ⟨pe_tup h.pa, fun γ P P' k q => h.sa.mono γ _ _ (fun x γ1 q => ⟨q.1, k _ _ q.2⟩) q, fun B S H σ γ Q R q => ?_⟩
  refine h.sa.run B S H σ γ _ R (h.sa.mono γ _ _ (fun x γ1 q vs S1 H1 R1 e1 d1 => ⟨by rw [d1.1]; exact q.1, fun p hp => ?_⟩) q)
  have e2 : Same S1 (upd S1 p (.tup vs)) := Same.upd (Same.refl S1) (R1.freshS hp)
  exact q.2 _ _ _ (R1.new hp) (e1.trans e2) (.ofT upd_same (d1.mono e2))
def dLst (w : WA) : WF := fun γ Q => w γ fun ds γ1 => ds.length ≤ sizeLine ∧ Q ds γ1
theorem df_lst (h : DA X es t w) : DF X (.List es pos) (tLst t) (dLst w) := by
  refine ⟨pe_lst h.pa, fun γ P P' k q => h.sa.mono γ _ _ (fun x γ1 q => ⟨q.1, k _ _ q.2⟩) q, fun B S H σ γ Q R q => ?_⟩
  refine h.sa.run B S H σ γ _ R (h.sa.mono γ _ _ (fun x γ1 q vs S1 H1 R1 e1 d1 => ⟨by rw [d1.1]; exact q.1, fun p hp => ?_⟩) q)
  exact q.2 p vs S1 _ (R1.newF hp) e1 d1
end
end DL
set_option Elab.async false
set_option linter.all false
set_option autoImplicit false
set_option maxRecDepth 100000
set_option maxHeartbeats 4000000
/-! DL3: subscripts, slices, calls, iterators, comprehensions. -/
namespace DL
open PySem PySem.Spec PyProof.Rows L2

section
variable {X : Xb} {K : PySem.W.Frag} {a b c e : Expr} {ta tb tc te : TE} {wa wb wc we : WE} {pos : Pos}
/-! ### x[i] -/
def rIxLT (K : PySem.W.Frag) : R2 := fun x y H Q => rIxL K x y H Q ∨ rIxT K x y H Q
theorem ix_LT : IxR X (rIxLT X.K) := IxR.or ix_list ix_tup
def itemD (x y : D) (Q : D → Prop) : Prop := ∃ i d, y = .int i ∧ ((∃ ds, x = .lst ds ∧ atI ds i = some d) ∨ (∃ ds, x = .tup ds ∧ atI ds i = some d)) ∧ Q d
theorem DenL.atI {S : Hp} {xs : List V} {ds : List D} {i : Int} {d : D} (h : DenL S xs ds) (e : atI ds i = some d) : ∃ v, atI xs i = some v ∧ Den S v d := by
  unfold L2.atI at e ⊢
  rw [h.1]
  cases q : ixN ds.length i with
  | none => rw [q] at e; cases e
  | some j =>
    rw [q] at e
    exact h.get e
theorem se_ix {ta tb : TE} {wa wb : WE} (ha : SE X ta wa) (hb : SE X tb wb) : SE X (tOp (rIxLT K) ta tb) (dOp itemD wa wb) := by
  refine ⟨fun γ P P' k q => ha.mono γ _ _ (fun x γ1 q => hb.mono γ1 _ _ (fun y γ2 ⟨i, d, e1, e2, q⟩ => ⟨i, d, e1, e2, k _ _ q⟩) q) q, fun B S H σ γ Q R q => ?_⟩
  refine ha.run B S H σ γ _ R (ha.mono γ _ _ (fun x γ1 q1 v S1 H1 R1 e1 d1 => ?_) q)
  refine hb.run B S1 H1 σ γ1 _ R1 (hb.mono γ1 _ _ (fun y γ2 q2 u S2 H2 R2 e2 d2 => ?_) q1)
  obtain ⟨i, d, f1, f2, q3⟩ := q2
  clear q1
  subst f1
  cases d2
  rcases f2 with ⟨ds, f2, f3⟩ | ⟨ds, f2, f3⟩
  · subst f2
    obtain ⟨a, xs, g1, g2, g3⟩ := d1.lst_inv
    subst g1
    obtain ⟨z, g4, g5⟩ := g3.atI f3
    exact .inl ⟨a, xs, i, z, rfl, rfl, SqL.of (R2.same _ _ (e2 _ _ g2)), g4, q3 z S2 H2 R2 (e1.trans e2) (g5.mono e2)⟩
  · subst f2
    obtain ⟨a, xs, g1, g2, g3⟩ := d1.tup_inv
    subst g1
    obtain ⟨z, g4, g5⟩ := g3.atI f3
    exact .inr ⟨a, xs, i, z, rfl, rfl, SqT.of (R2.same _ _ (e2 _ _ g2)), g4, q3 z S2 H2 R2 (e1.trans e2) (g5.mono e2)⟩
theorem de_ix (K' : PySem.W.Frag) (ha : DE X a ta wa) (hb : DE X b tb wb) (hs : PlainIx b := by exact fun _ _ => rfl) (hK : X.K = K' := by rfl) : DE X (.Subscript a b pos) (tOp (rIxLT K') ta tb) (dOp itemD wa wb) := by
  subst hK
  exact ⟨pe_ix ix_LT ha.pe hb.pe hs, se_ix ha.se hb.se⟩
/-- an item of a list of one's own, at a name -/
def dIxO (i : Nat) (wb : WE) : WE := fun γ Q => (∃ m ds, γ[i]? = some (.own m ds)) ∧ wb γ fun y γ1 => ∃ k m ds d, y = .int k ∧ γ1[i]? = some (.own m ds) ∧ atI ds k = some d ∧ Q d γ1
theorem de_ixO (K' : PySem.W.Frag) (i : Nat) {x : Str} {px : Pos} (hb : DE X b tb wb) (hN : X.N[i]? = some x := by rfl) (hv : Vis X.env.scope x := by first | exact Or.inl rfl | exact Or.inr (Or.inl rfl) | exact Or.inr (Or.inr rfl)) (hd : (x == ("__debug__" : Str)) = false := by decide)
    (hcd : (x == ("__classdict__" : Str)) = false := by decide) (hs : PlainIx b := by exact fun _ _ => rfl) (hK : X.K = K' := by rfl) : DE X (.Subscript (.Name x px) b pos) (tOp (rIxLT K') (tVar i) tb) (dIxO i wb) := by
  subst hK
  refine ⟨pe_ix ix_LT (pe_var hN hv hd hcd) hb.pe hs, fun γ P P' k q => ⟨q.1, hb.se.mono γ _ _ (fun y γ1 ⟨n, m, ds, d, e1, e2, e3, q⟩ => ⟨n, m, ds, d, e1, e2, e3, k _ _ q⟩) q.2⟩, fun B S H σ γ Q R q => ?_⟩
  obtain ⟨⟨m0, ds0, e0⟩, q⟩ := q
  obtain ⟨p0, xs0, g0, _⟩ := R.sl i _ e0
  refine ⟨_, g0, ?_⟩
  refine hb.se.run B S H σ γ _ R (hb.se.mono γ _ _ (fun y γ1 q u S1 H1 R1 e1 d1 => ?_) q)
  obtain ⟨n, m, ds, d, f1, f2, f3, q⟩ := q
  subst f1
  cases d1
  obtain ⟨p, xs, g1, g2, g3, g4, g5⟩ := R1.sl i _ f2
  rw [g0] at g1
  cases g1
  obtain ⟨z, g6, g7⟩ := g4.atI f3
  exact .inl ⟨p0, xs, n, z, rfl, rfl, SqL.of g3, g6, q z S1 H1 R1 e1 g7⟩

/-! ### slices of lists -/
def dNoPart : WO := fun γ Q => Q none γ
def dPart (w : WE) : WO := fun γ Q => w γ fun x γ1 => ∃ i, x = .int i ∧ Q (some i) γ1
theorem do_none : DO X none tNoPart dNoPart := ⟨po_none, fun γ P P' k q => k _ _ q, fun B S H σ γ Q R q => q S H R (Same.refl S)⟩
theorem do_some (h : DE X e te we) : DO X (some e) (tPart te) (dPart we) := by
  refine ⟨po_some h.pe, fun γ P P' k q => h.se.mono γ _ _ (fun x γ1 ⟨i, e, q⟩ => ⟨i, e, k _ _ q⟩) q, fun B S H σ γ Q R q => ?_⟩
  refine h.se.run B S H σ γ _ R (h.se.mono γ _ _ (fun x γ1 ⟨i, e, q⟩ u S1 H1 R1 e1 d1 => ?_) q)
  subst e
  cases d1
  exact ⟨i, rfl, q S1 H1 R1 e1⟩
def cutL (xs : List D) (lo hi : Option Int) : List D := (xs.drop (HT.sIx xs.length 0 lo)).take (HT.sIx xs.length xs.length hi - HT.sIx xs.length 0 lo)
theorem DenL.cut {S : Hp} {xs : List V} {ds : List D} (h : DenL S xs ds) (lo hi : Option Int) : DenL S (cutV xs lo hi) (cutL ds lo hi) := by
  unfold cutV cutL
  rw [h.1]
  exact (h.drop _).take _
def dSl (wa : WE) (wl wh : WO) : WF := fun γ Q => wa γ fun x γ1 => wl γ1 fun l γ2 => wh γ2 fun h γ3 => ∃ ds, x = .lst ds ∧ Q (cutL ds l h) γ3
theorem df_sl (K' : PySem.W.Frag) {lo hi : Option Expr} {tl th : TO} {wl wh : WO} {p2 : Pos} (ha : DE X a ta wa) (hl : DO X lo tl wl) (hh : DO X hi th wh) (hK : X.K = K' := by rfl) : DF X (.Subscript a (.Slice lo hi none p2) pos) (tSl (rSlL K') ta tl th) (dSl wa wl wh) := by
  subst hK
  refine ⟨pe_slice sl_list ha.pe hl.po hh.po, fun γ P P' k q => ha.se.mono γ _ _ (fun x γ1 q => hl.so.mono γ1 _ _ (fun l γ2 q => hh.so.mono γ2 _ _ (fun h γ3 ⟨ds, e, q⟩ => ⟨ds, e, k _ _ q⟩) q) q) q, fun B S H σ γ Q R q => ?_⟩
  refine ha.se.run B S H σ γ _ R (ha.se.mono γ _ _ (fun x γ1 q1 v S1 H1 R1 e1 d1 => ?_) q)
  refine hl.so.run B S1 H1 σ γ1 _ R1 (hl.so.mono γ1 _ _ (fun l γ2 q2 S2 H2 R2 e2 => ?_) q1)
  refine hh.so.run B S2 H2 σ γ2 _ R2 (hh.so.mono γ2 _ _ (fun h γ3 q3 S3 H3 R3 e3 => ?_) q2)
  obtain ⟨ds, e, q4⟩ := q3
  clear q1 q2
  subst e
  obtain ⟨p, xs, g1, g2, g3⟩ := d1.lst_inv
  subst g1
  refine ⟨p, xs, rfl, SqL.of (R3.same _ _ (e3 _ _ (e2 _ _ g2))), fun p' hp => ?_⟩
  exact q4 p' _ S3 _ (R3.newF hp) (e1.trans (e2.trans e3)) ((g3.cut l h).mono (e2.trans e3))
/-- a slice of the script -/
def dSlS (i : Nat) (wl wh : WO) : WF := fun γ Q => (∃ ns, γ[i]? = some (.scr ns)) ∧ wl γ fun l γ2 => wh γ2 fun h γ3 => ∃ ns, γ3[i]? = some (.scr ns) ∧ Q (cutL (ns.map D.int) l h) γ3
theorem df_slS (K' : PySem.W.Frag) (i : Nat) {x : Str} {px : Pos} {lo hi : Option Expr} {tl th : TO} {wl wh : WO} {p2 : Pos} (hl : DO X lo tl wl) (hh : DO X hi th wh) (hN : X.N[i]? = some x := by rfl) (hv : Vis X.env.scope x := by first | exact Or.inl rfl | exact Or.inr (Or.inl rfl) | exact Or.inr (Or.inr rfl)) (hd : (x == ("__debug__" : Str)) = false := by decide)
    (hcd : (x == ("__classdict__" : Str)) = false := by decide) (hK : X.K = K' := by rfl) : DF X (.Subscript (.Name x px) (.Slice lo hi none p2) pos) (tSl (rSlL K') (tVar i) tl th) (dSlS i wl wh) := by
  subst hK
  refine ⟨pe_slice sl_list (pe_var hN hv hd hcd) hl.po hh.po, fun γ P P' k q => ⟨q.1, hl.so.mono γ _ _ (fun l γ2 q => hh.so.mono γ2 _ _ (fun h γ3 ⟨ds, e, q⟩ => ⟨ds, e, k _ _ q⟩) q) q.2⟩, fun B S H σ γ Q R q => ?_⟩
  obtain ⟨⟨ns0, e0⟩, q⟩ := q
  obtain ⟨a0, g0, _⟩ := R.sl i _ e0
  refine ⟨_, g0, ?_⟩
  refine hl.so.run B S H σ γ _ R (hl.so.mono γ _ _ (fun l γ2 q S2 H2 R2 e2 => ?_) q)
  refine hh.so.run B S2 H2 σ γ2 _ R2 (hh.so.mono γ2 _ _ (fun h γ3 q S3 H3 R3 e3 => ?_) q)
  obtain ⟨ns, e, q⟩ := q
  obtain ⟨a1, g1, g2⟩ := R3.sl i _ e
  rw [g0] at g1
  cases g1
  refine ⟨a0, _, rfl, R3.same.seq g2, fun p' hp => ?_⟩
  exact q p' _ S3 _ (R3.newF hp) (e2.trans e3) ((DenL.ints ns).cut l h)

/-! ### calls of built-ins by values -/
/-- a call's rule by values and what it is on data -/
structure CallS (X : Xb) (r : List V → Hp → VK → Prop) (f : List D → (D → Prop) → Prop) : Prop where
  mono : ∀ ds (P P' : D → Prop), (∀ d, P d → P' d) → f ds P → f ds P'
  run : ∀ B S H σ γ (Q : VK) vs ds, Rel X B S H σ γ → DenL S vs ds → f ds (fun d => ∀ z S' H', Rel X B S' H' σ γ → Same S S' → Den S' z d → Q z H') → r vs H Q
def dCall (f : List D → (D → Prop) → Prop) (w : WA) : WE := fun γ Q => w γ fun ds γ1 => f ds fun d => Q d γ1
theorem se_call {r : List V → Hp → VK → Prop} {f : List D → (D → Prop) → Prop} {t : TA} {w : WA} (h : CallS X r f) (ha : SA X t w) : SE X (tCB r t) (dCall f w) := by
  refine ⟨fun γ P P' k q => ha.mono γ _ _ (fun ds γ1 q => h.mono ds _ _ (fun d q => k _ _ q) q) q, fun B S H σ γ Q R q => ?_⟩
  refine ha.run B S H σ γ _ R (ha.mono γ _ _ (fun ds γ1 q vs S1 H1 R1 e1 d1 => ?_) q)
  exact h.run B S1 H1 σ γ1 Q vs ds R1 d1 (h.mono _ _ _ (fun d q z S' H' R' e d' => q z S' H' R' (e1.trans e) d') q)
variable {x : Str} {es : List Expr} {t : TA} {w : WA} {p : Pos} {nm T : String}
theorem de_callB {r : List V → Hp → VK → Prop} {f : List D → (D → Prop) → Prop} (hs : CallS X r f) (hc : CallR X (.builtin nm) r) (hm : X.mg x = none) (hv : bootBuiltins x = some (.builtin nm)) (ha : DA X (e :: es) t w) (hg : Gl X x := by rfl) (hn : x ≠ "__name__" := by decide) (hdb : (x == ("__debug__" : Str)) = false := by decide)
    (he : starEach (e :: es) X.env = (false, eval e X.env) :: starEach es X.env := by rfl) (hpl : (backTo pos (starEach es X.env)).any (·.1) = false := by rfl) : DE X (.Call (.Name x p) (e :: es) [] pos) (tCB r t) (dCall f w) := ⟨pe_callB hc hg hm hv ha.pa hn hdb he hpl, se_call hs ha.sa⟩
theorem de_callTy {r : List V → Hp → VK → Prop} {f : List D → (D → Prop) → Prop} (hs : CallS X r f) (hc : CallR X (.type T) r) (hm : X.mg x = none) (hv : bootBuiltins x = some (.type T)) (ha : DA X (e :: es) t w) (hg : Gl X x := by rfl) (hn : x ≠ "__name__" := by decide) (hdb : (x == ("__debug__" : Str)) = false := by decide)
    (he : starEach (e :: es) X.env = (false, eval e X.env) :: starEach es X.env := by rfl) (hpl : (backTo pos (starEach es X.env)).any (·.1) = false := by rfl) : DE X (.Call (.Name x p) (e :: es) [] pos) (tCB r t) (dCall f w) := ⟨pe_callTy hc hg hm hv ha.pa hn hdb he hpl, se_call hs ha.sa⟩
/-- len -/
def lenD (ds : List D) (Q : D → Prop) : Prop := ∃ es, (ds = [.lst es] ∨ ds = [.tup es]) ∧ Q (.int es.length)
theorem DenL.one {S : Hp} {vs : List V} {d : D} (h : DenL S vs [d]) : ∃ v, vs = [v] ∧ Den S v d := by
  obtain ⟨v, r, rfl, h1, h2⟩ := h.cons_inv
  rw [h2.nil_inv]
  exact ⟨v, rfl, h1⟩
theorem DenL.two {S : Hp} {vs : List V} {d d' : D} (h : DenL S vs [d, d']) : ∃ v u, vs = [v, u] ∧ Den S v d ∧ Den S u d' := by
  obtain ⟨v, r, rfl, h1, h2⟩ := h.cons_inv
  obtain ⟨u, rfl, h3⟩ := h2.one
  exact ⟨v, u, rfl, h1, h3⟩
theorem cs_len : CallS X (fun xs H Q => ∃ p ys, xs = [.ref p] ∧ (SqL K H p ys ∨ SqT K H p ys) ∧ Q (.int ys.length) H) lenD := by
  refine ⟨fun ds P P' k ⟨es, e, q⟩ => ⟨es, e, k _ q⟩, fun B S H σ γ Q vs ds R d q => ?_⟩
  obtain ⟨es, e, q⟩ := q
  rcases e with e | e
  · subst e
    obtain ⟨v, rfl, d1⟩ := d.one
    obtain ⟨a, xs, rfl, g2, g3⟩ := d1.lst_inv
    refine ⟨a, xs, rfl, .inl (SqL.of (R.same _ _ g2)), ?_⟩
    rw [g3.1]
    exact q _ S H R (Same.refl S) (.int _)
  · subst e
    obtain ⟨v, rfl, d1⟩ := d.one
    obtain ⟨a, xs, rfl, g2, g3⟩ := d1.tup_inv
    refine ⟨a, xs, rfl, .inr (SqT.of (R.same _ _ g2)), ?_⟩
    rw [g3.1]
    exact q _ S H R (Same.refl S) (.int _)
/-- len of a list of one's own -/
def dLenO (i : Nat) : WE := fun γ Q => ∃ m ds, γ[i]? = some (.own m ds) ∧ Q (.int ds.length) γ
theorem de_lenO (K' : PySem.W.Frag) (i : Nat) (hm : X.mg "len" = none) {x : Str} {px : Pos} (hN : X.N[i]? = some x := by rfl) (hv : Vis X.env.scope x := by first | exact Or.inl rfl | exact Or.inr (Or.inl rfl) | exact Or.inr (Or.inr rfl)) (hd : (x == ("__debug__" : Str)) = false := by decide)
    (hcd : (x == ("__classdict__" : Str)) = false := by decide) (hg : Gl X "len" := by rfl) (hK : X.K = K' := by rfl) : DE X (.Call (.Name "len" p) [.Name x px] [] pos) (tCB (fun xs H Q => ∃ p ys, xs = [.ref p] ∧ (SqL K' H p ys ∨ SqT K' H p ys) ∧ Q (.int ys.length) H) (tCons (tVar i) tNil)) (dLenO i) := by
  subst hK
  refine ⟨pe_callB call_len_seq hg hm PySem.boot_len (pa_cons (pe_var hN hv hd hcd) pa_nil), fun γ P P' k ⟨m, ds, e, q⟩ => ⟨m, ds, e, k _ _ q⟩, fun B S H σ γ Q R q => ?_⟩
  obtain ⟨m, ds, e, q⟩ := q
  obtain ⟨p, xs, g1, g2, g3, g4, g5⟩ := R.sl i _ e
  refine ⟨_, g1, p, xs, rfl, .inl (SqL.of g3), ?_⟩
  rw [g4.1]
  exact q _ S H R (Same.refl S) (.int _)
/-- sum of ints -/
def sumD (ds : List D) (Q : D → Prop) : Prop := ∃ ns : List Int, ds = [.lst (ns.map D.int)] ∧ Q (.int ns.sum)
/-- all, any of bools -/
def allD (ds : List D) (Q : D → Prop) : Prop := ∃ bs : List Bool, ds = [.lst (bs.map D.bl)] ∧ Q (.bl (bs.all id))
def anyD (ds : List D) (Q : D → Prop) : Prop := ∃ bs : List Bool, ds = [.lst (bs.map D.bl)] ∧ Q (.bl (bs.any id))
theorem cs_all : CallS X (rAll K) allD := by
  refine ⟨fun ds P P' k ⟨es, e, q⟩ => ⟨es, e, k _ q⟩, fun B S H σ γ Q vs ds R d q => ?_⟩
  obtain ⟨ns, e, q⟩ := q
  subst e
  obtain ⟨v, rfl, d1⟩ := d.one
  obtain ⟨a, xs, rfl, g2, g3⟩ := d1.lst_inv
  have e := g3.bls_inv
  subst e
  exact ⟨a, ns, rfl, SqL.of (R.same _ _ g2), q _ S H R (Same.refl S) (.bl _)⟩
/-- int(x) of an int or a bool -/
def intD (ds : List D) (Q : D → Prop) : Prop := (∃ i, ds = [.int i] ∧ Q (.int i)) ∨ ∃ b, ds = [.bl b] ∧ Q (.int (if b then 1 else 0))
theorem cs_int : CallS X (fun xs H Q => (∃ i, xs = [.int i] ∧ Q (.int i) H) ∨ ∃ k, xs = [.bl k] ∧ Q (.int (if k then 1 else 0)) H) intD := by
  refine ⟨fun ds P P' k q => ?_, fun B S H σ γ Q vs ds R d q => ?_⟩
  · rcases q with ⟨i, e, q⟩ | ⟨i, e, q⟩
    · exact .inl ⟨i, e, k _ q⟩
    · exact .inr ⟨i, e, k _ q⟩
  · rcases q with ⟨i, e, q⟩ | ⟨i, e, q⟩
    · subst e
      obtain ⟨v, rfl, d1⟩ := d.one
      cases d1
      exact .inl ⟨i, rfl, q _ S H R (Same.refl S) (.int _)⟩
    · subst e
      obtain ⟨v, rfl, d1⟩ := d.one
      cases d1
      exact .inr ⟨i, rfl, q _ S H R (Same.refl S) (.int _)⟩
end
end DL
set_option Elab.async false
set_option linter.all false
set_option autoImplicit false
set_option maxRecDepth 100000
set_option maxHeartbeats 4000000
/-! DL4: iterators, comprehensions, targets, statements. -/
namespace DL
open PySem PySem.Spec PyProof.Rows L2

/-! ### what is walked -/
structure StI (J : It) (S : Hp) (ds : List D) : Prop where
  go : ∀ i H, Same S H → i < ds.length → J.go i H
  stop : ∀ i H, Same S H → ds.length ≤ i → J.stop i H
  yld : ∀ i H x H', Same S H → i < ds.length → J.yld i H x H' → ∃ d, ds[i]? = some d ∧ ((H' = H ∧ Den S x d) ∨ ∃ T xs es, x = .ref T ∧ H T = none ∧ H' = upd H T (.tup xs) ∧ d = .tup es ∧ DenL S xs es)
structure SI (X : Xb) (t : TI) (w : WA) : Prop where
  mono : Mo w
  run : ∀ B S H σ γ (Q : It → Hp → Prop), Rel X B S H σ γ → w γ (fun ds γ' => ∀ J S' H', Rel X B S' H' σ γ' → Same S S' → StI J S' ds → Q J H') → t σ H Q
structure DI (X : Xb) (tg iter : Expr) (t : TI) (w : WA) : Prop where
  pi : PI X tg iter t
  si : SI X t w
theorem StI.mono {J : It} {S S' : Hp} {ds : List D} (h : StI J S ds) (e : Same S S') : StI J S' ds :=
  ⟨fun i H e1 hi => h.go i H (e.trans e1) hi, fun i H e1 hi => h.stop i H (e.trans e1) hi, fun i H x H' e1 hi y => by
    obtain ⟨d, hd, q⟩ := h.yld i H x H' (e.trans e1) hi y
    refine ⟨d, hd, ?_⟩
    rcases q with ⟨e2, q⟩ | ⟨T, xs, es, e2, e3, e4, e5, q⟩
    · exact .inl ⟨e2, q.mono e⟩
    · exact .inr ⟨T, xs, es, e2, e3, e4, e5, q.mono e⟩⟩
section
variable {X : Xb} {K : PySem.W.Frag} {tg a b e l : Expr} {ta tb te tl : TE} {wa wb we wl : WE} {pos p : Pos}
theorem sti_list {S : Hp} {a : Addr} {xs : List V} {ds : List D} (h : S a = some (.lst xs)) (hd : DenL S xs ds) : StI (Itl K a) S ds := by
  refine ⟨fun i H e hi => ?_, fun i H e hi => ⟨xs, SqL.of (e _ _ h), by rw [hd.1]; exact hi⟩, fun i H x H' e hi y => ?_⟩
  · have hx : i < xs.length := by rw [hd.1]; exact hi
    exact ⟨xs, xs[i], SqL.of (e _ _ h), List.getElem?_eq_getElem hx⟩
  · obtain ⟨e1, y⟩ := y
    obtain ⟨d, h1, h2⟩ := hd.getV (y xs (SqL.of (e _ _ h)))
    exact ⟨d, h1, .inl ⟨e1, h2⟩⟩
/-- a list -/
def dIL (wl : WE) : WA := fun γ Q => wl γ fun x γ1 => ∃ ds, x = .lst ds ∧ Q ds γ1
theorem di_list (K' : PySem.W.Frag) (h : DE X l tl wl) (hK : X.K = K' := by rfl) : DI X tg l (iList K' tl) (dIL wl) := by
  subst hK
  refine ⟨pi_list h.pe, fun γ P P' k q => h.se.mono γ _ _ (fun x γ1 ⟨ds, e, q⟩ => ⟨ds, e, k _ _ q⟩) q, fun B S H σ γ Q R q => ?_⟩
  refine h.se.run B S H σ γ _ R (h.se.mono γ _ _ (fun x γ1 ⟨ds, e, q⟩ v S1 H1 R1 e1 d1 => ?_) q)
  subst e
  obtain ⟨a, xs, rfl, g2, g3⟩ := d1.lst_inv
  exact ⟨a, rfl, ⟨xs, SqL.of (R1.same _ _ g2)⟩, q _ S1 H1 R1 e1 (sti_list g2 g3)⟩
/-- a tuple -/
def dIT (wl : WE) : WA := fun γ Q => wl γ fun x γ1 => ∃ ds, x = .tup ds ∧ Q ds γ1
/-- range(n) -/
def rngD (lo : Int) (n : Nat) : List D := (List.range n).map fun (i : Nat) => .int (lo + (i : Int))
theorem sti_rng {S : Hp} {lo : Int} {n : Nat} : StI (Itr lo n) S (rngD lo n) := by
  have hl : (rngD lo n).length = n := by simp [rngD]
  refine ⟨fun i H e hi => by rw [hl] at hi; exact hi, fun i H e hi => by rw [hl] at hi; exact hi, fun i H x H' e hi y => ?_⟩
  rw [hl] at hi
  obtain ⟨e1, y⟩ := y
  refine ⟨.int (lo + (i : Int)), ?_, .inl ⟨e1, by rw [y]; exact .int _⟩⟩
  simp [rngD, List.getElem?_map, List.getElem?_range hi]
def dIR1 (w : WA) : WA := fun γ Q => w γ fun ds γ1 => ∃ n, ds = [.int n] ∧ (-(2 ^ 62) ≤ n ∧ n < 2 ^ 62) ∧ Q (rngD 0 n.toNat) γ1
theorem di_range1 {t : TA} {w : WA} (hm : X.mg "range" = none) (ha : DA X [a] t w) (hg : Gl X "range" := by rfl) (hs : starEach [a] X.env = [(false, eval a X.env)] := by rfl) : DI X tg (.Call (.Name "range" p) [a] [] pos) (iRng1 t) (dIR1 w) := by
  refine ⟨pi_range1 hg hm ha.pa hs, fun γ P P' k q => ha.sa.mono γ _ _ (fun x γ1 ⟨n, e, c, q⟩ => ⟨n, e, c, k _ _ q⟩) q, fun B S H σ γ Q R q => ?_⟩
  refine ha.sa.run B S H σ γ _ R (ha.sa.mono γ _ _ (fun ds γ1 ⟨n, e, ⟨c1, c2⟩, q⟩ vs S1 H1 R1 e1 d1 => ?_) q)
  subst e
  obtain ⟨v, rfl, d2⟩ := d1.one
  cases d2
  exact ⟨n, rfl, c1, c2, q _ S1 H1 R1 e1 sti_rng⟩
def dIR2 (w : WA) : WA := fun γ Q => w γ fun ds γ1 => ∃ i j, ds = [.int i, .int j] ∧ (-(2 ^ 62) ≤ i ∧ i < 2 ^ 62 ∧ -(2 ^ 62) ≤ j ∧ j < 2 ^ 62) ∧ Q (rngD i (j - i).toNat) γ1
/-- enumerate(list), zip(list, list) -/
def enumD (ds : List D) : List D := ds.zipIdx.map fun q => .tup [.int (q.2 : Nat), q.1]
theorem enumD_len (ds : List D) : (enumD ds).length = ds.length := by simp [enumD]
theorem enumD_get {ds : List D} {i : Nat} {d : D} (h : ds[i]? = some d) : (enumD ds)[i]? = some (.tup [.int (i : Nat), d]) := by
  simp [enumD, List.getElem?_map, List.getElem?_zipIdx, h]
def dIEn (w : WA) : WA := fun γ Q => w γ fun ds γ1 => ∃ es, ds = [.lst es] ∧ Q (enumD es) γ1
theorem di_enum (K' : PySem.W.Frag) {elts : List Expr} {kk : Nat} {tpos : Pos} {t : TA} {w : WA} (hm : X.mg "enumerate" = none) (ha : DA X [e] t w) (hg : Gl X "enumerate" := by rfl) (hs : starEach [e] X.env = [(false, eval e X.env)] := by rfl) (hK : X.K = K' := by rfl) : DI X (.Tuple elts kk tpos) (.Call (.Name "enumerate" p) [e] [] pos) (iEnum K' t) (dIEn w) := by
  subst hK
  refine ⟨pi_enum hg hm ha.pa hs, fun γ P P' k q => ha.sa.mono γ _ _ (fun x γ1 ⟨n, e, q⟩ => ⟨n, e, k _ _ q⟩) q, fun B S H σ γ Q R q => ?_⟩
  refine ha.sa.run B S H σ γ _ R (ha.sa.mono γ _ _ (fun ds γ1 ⟨es, e, q⟩ vs S1 H1 R1 e1 d1 => ?_) q)
  subst e
  obtain ⟨v, rfl, d2⟩ := d1.one
  obtain ⟨a, xs, rfl, g2, g3⟩ := d2.lst_inv
  refine ⟨a, xs, rfl, SqL.of (R1.same _ _ g2), q _ S1 H1 R1 e1 ?_⟩
  refine ⟨fun i H e hi => ?_, fun i H e hi => ⟨xs, SqL.of (e _ _ g2), by rw [g3.1, ← enumD_len]; exact hi⟩, fun i H x H' e hi y => ?_⟩
  · rw [enumD_len] at hi
    have hx : i < xs.length := by rw [g3.1]; exact hi
    exact ⟨xs, xs[i], SqL.of (e _ _ g2), List.getElem?_eq_getElem hx⟩
  · obtain ⟨T, x1, f1, f2, f3, f4⟩ := y
    obtain ⟨d, h1, h2⟩ := g3.getV (f4 xs (SqL.of (e _ _ g2)))
    exact ⟨_, enumD_get h1, .inr ⟨T, _, _, f1, f2, f3, rfl, .cons (.int _) (.cons h2 .nil)⟩⟩
def zipD (xs ys : List D) : List D := List.zipWith (fun a b => .tup [a, b]) xs ys
def dIZ (w : WA) : WA := fun γ Q => w γ fun ds γ1 => ∃ es fs, ds = [.lst es, .lst fs] ∧ Q (zipD es fs) γ1
theorem di_zip (K' : PySem.W.Frag) {e2 : Expr} {elts : List Expr} {kk : Nat} {tpos : Pos} {t : TA} {w : WA} (hm : X.mg "zip" = none) (ha : DA X [e, e2] t w) (hg : Gl X "zip" := by rfl) (hs : starEach [e, e2] X.env = (false, eval e X.env) :: starEach [e2] X.env := by rfl) (hpl : (backTo pos (starEach [e2] X.env)).any (·.1) = false := by rfl) (hK : X.K = K' := by rfl) : DI X (.Tuple elts kk tpos) (.Call (.Name "zip" p) [e, e2] [] pos) (iZip K' t) (dIZ w) := by
  subst hK
  refine ⟨pi_zip hg hm ha.pa hs hpl, fun γ P P' k q => ha.sa.mono γ _ _ (fun x γ1 ⟨n, m, e, q⟩ => ⟨n, m, e, k _ _ q⟩) q, fun B S H σ γ Q R q => ?_⟩
  refine ha.sa.run B S H σ γ _ R (ha.sa.mono γ _ _ (fun ds γ1 ⟨es, fs, e, q⟩ vs S1 H1 R1 e1 d1 => ?_) q)
  subst e
  obtain ⟨v, u, rfl, d2, d3⟩ := d1.two
  obtain ⟨a, xs, rfl, g2, g3⟩ := d2.lst_inv
  obtain ⟨b, ys, rfl, k2, k3⟩ := d3.lst_inv
  refine ⟨a, b, xs, ys, rfl, SqL.of (R1.same _ _ g2), SqL.of (R1.same _ _ k2), q _ S1 H1 R1 e1 ?_⟩
  have hl : (zipD es fs).length = min es.length fs.length := by simp [zipD]
  refine ⟨fun i H e hi => ?_, fun i H e hi => ⟨xs, ys, SqL.of (e _ _ g2), SqL.of (e _ _ k2), by rw [g3.1, k3.1]; omega⟩, fun i H x H' e hi y => ?_⟩
  · have hx : i < xs.length := by rw [g3.1]; omega
    have hy : i < ys.length := by rw [k3.1]; omega
    exact ⟨xs, ys, xs[i], ys[i], SqL.of (e _ _ g2), SqL.of (e _ _ k2), List.getElem?_eq_getElem hx, List.getElem?_eq_getElem hy⟩
  · obtain ⟨T, x1, x2, f1, f2, f3, f4, f5⟩ := y
    obtain ⟨d, h1, h2⟩ := g3.getV (f4 xs (SqL.of (e _ _ g2)))
    obtain ⟨d', h3, h4⟩ := k3.getV (f5 ys (SqL.of (e _ _ k2)))
    refine ⟨.tup [d, d'], ?_, .inr ⟨T, _, _, f1, f2, f3, rfl, .cons h2 (.cons h4 .nil)⟩⟩
    simp [zipD, List.getElem?_zipWith, h1, h3]
/-- the script -/
def dIS (i : Nat) : WA := fun γ Q => ∃ ns, γ[i]? = some (.scr ns) ∧ Q (ns.map D.int) γ
end

/-! ### targets -/
abbrev WG := D → List Sl → (List Sl → Prop) → Prop
abbrev WGs := List D → List Sl → (List Sl → Prop) → Prop
structure SG (X : Xb) (g : TG) (w : WG) : Prop where
  mono : ∀ d γ (P P' : List Sl → Prop), (∀ γ', P γ' → P' γ') → w d γ P → w d γ P'
  run : ∀ B S H σ γ v d (Q : L2.St → Hp → Prop), Rel X B S H σ γ → Den S v d → w d γ (fun γ' => ∀ σ', Rel X B S H σ' γ' → Q σ' H) → g v σ H Q
structure SGs (X : Xb) (g : TGs) (w : WGs) : Prop where
  mono : ∀ ds γ (P P' : List Sl → Prop), (∀ γ', P γ' → P' γ') → w ds γ P → w ds γ P'
  run : ∀ B S H σ γ vs ds (Q : L2.St → Hp → Prop), Rel X B S H σ γ → DenL S vs ds → w ds γ (fun γ' => ∀ σ', Rel X B S H σ' γ' → Q σ' H) → g vs σ H Q
/-- only the slots vs are stored -/
def GIn (g : TG) (vs : List Nat) : Prop := ∀ v σ H (Q : L2.St → Hp → Prop), g v σ H Q → g v σ H fun σ' H' => wipe σ' vs = wipe σ vs ∧ Q σ' H'
def GsIn (g : TGs) (vs : List Nat) : Prop := ∀ xs σ H (Q : L2.St → Hp → Prop), g xs σ H Q → g xs σ H fun σ' H' => wipe σ' vs = wipe σ vs ∧ Q σ' H'
structure DG (X : Xb) (tg : Expr) (g : TG) (w : WG) : Prop where
  pg : PG X tg g
  sg : SG X g w
structure DGs (X : Xb) (es : List Expr) (g : TGs) (w : WGs) : Prop where
  pg : PGs X es g
  sg : SGs X g w
theorem wipe_set {σ : L2.St} {j : Nat} {x : Option V} : ∀ {vs : List Nat}, j ∈ vs → wipe (σ.set j x) vs = wipe σ vs
  | v :: vs, h => by
    show (wipe (σ.set j x) vs).set v none = (wipe σ vs).set v none
    by_cases hj : j ∈ vs
    · rw [wipe_set hj]
    · have e : v = j := by
        rcases List.mem_cons.mp h with h | h
        · exact h.symm
        · exact absurd h hj
      subst e
      have : ∀ (vs : List Nat), v ∉ vs → wipe (σ.set v x) vs = (wipe σ vs).set v x := by
        intro vs
        induction vs with
        | nil => intro _; rfl
        | cons u us ih =>
          intro hv
          show (wipe (σ.set v x) us).set u none = ((wipe σ us).set u none).set v x
          rw [ih (fun z => hv (List.mem_cons_of_mem _ z)), List.set_comm]
          intro z
          exact hv (by rw [z]; exact List.mem_cons_self)
      rw [this vs hj, List.set_set]
section
variable {X : Xb} {K : PySem.W.Frag} {pos : Pos}
def dName (i : Nat) : WG := fun d γ Q => Q (γ.set i (.val d))
theorem dg_name {i : Nat} {x : Str} (hN : X.N.Nodup) (hi : X.N[i]? = some x := by rfl) (hx : Loc X.env.scope x := by first | exact Or.inl rfl | exact Or.inr rfl) (hf : X.fn x = true ∨ X.env.scope.names.lookup x = some .local := by first | exact .inl rfl | exact .inr rfl | assumption) : DG X (.Name x pos) (gName i) (dName i) :=
  ⟨pg_name hN hi hx hf, fun d γ P P' k q => k _ q, fun B S H σ γ v d Q R h q => q _ (R.set ⟨v, rfl, h⟩ rfl)⟩
theorem gin_name {i : Nat} {vs : List Nat} (h : i ∈ vs) : GIn (gName i) vs := fun v σ H Q q => ⟨wipe_set h, q⟩
def dgNil : WGs := fun ds γ Q => ds = [] ∧ Q γ
def dgCons (w : WG) (w' : WGs) : WGs := fun ds γ Q => ∃ d r, ds = d :: r ∧ w d γ fun γ1 => w' r γ1 Q
theorem dgs_nil : DGs X [] gNil dgNil := ⟨pgs_nil, fun ds γ P P' k q => ⟨q.1, k _ q.2⟩, fun B S H σ γ vs ds Q R h q => by
  obtain ⟨e, q⟩ := q
  subst e
  exact ⟨h.nil_inv, q σ R⟩⟩
theorem dgs_cons {e : Expr} {es : List Expr} {g : TG} {u : TGs} {w : WG} {w' : WGs} (h : DG X e g w) (h' : DGs X es u w') (hs : (assignEach (e :: es) X.env).map (·.2) = assign e X.env :: (assignEach es X.env).map (·.2) := by rfl) : DGs X (e :: es) (gCons g u) (dgCons w w') :=
  ⟨pgs_cons h.pg h'.pg hs, fun ds γ P P' k ⟨d, r, e, q⟩ => ⟨d, r, e, h.sg.mono _ _ _ _ (fun γ1 q => h'.sg.mono _ _ _ _ k q) q⟩, fun B S H σ γ vs ds Q R hd q => by
  obtain ⟨d, r, e, q⟩ := q
  subst e
  obtain ⟨x, t, rfl, h1, h2⟩ := hd.cons_inv
  refine ⟨x, t, rfl, h.sg.run B S H σ γ x d _ R h1 (h.sg.mono _ _ _ _ (fun γ1 q σ1 R1 => ?_) q)⟩
  exact h'.sg.run B S H σ1 γ1 t r _ R1 h2 (h'.sg.mono _ _ _ _ (fun γ2 q σ2 R2 => q σ2 R2) q)⟩
theorem gsin_nil {vs : List Nat} : GsIn gNil vs := fun xs σ H Q q => ⟨q.1, rfl, q.2⟩
theorem gsin_cons {g : TG} {u : TGs} {w : WG} {w' : WGs} {vs : List Nat} (gm : ∀ v σ H (P P' : L2.St → Hp → Prop), (∀ σ' H', P σ' H' → P' σ' H') → g v σ H P → g v σ H P') (um : ∀ v σ H (P P' : L2.St → Hp → Prop), (∀ σ' H', P σ' H' → P' σ' H') → u v σ H P → u v σ H P') (h : GIn g vs) (h' : GsIn u vs) : GsIn (gCons g u) vs := fun xs σ H Q q => by
  obtain ⟨d, r, e, q⟩ := q
  refine ⟨d, r, e, gm _ _ _ _ _ (fun σ1 H1 ⟨e1, q⟩ => ?_) (h _ _ _ _ q)⟩
  exact um _ _ _ _ _ (fun σ2 H2 ⟨e2, q⟩ => ⟨e2.trans e1, q⟩) (h' _ _ _ _ q)
/-- two names -/
theorem gsin_two {i j : Nat} {vs : List Nat} (hi : i ∈ vs) (hj : j ∈ vs) : GsIn (gCons (gName i) (gCons (gName j) gNil)) vs :=
  gsin_cons (w := dName i) (w' := dgNil) (fun v σ H P P' k q => k _ _ q) (fun v σ H P P' k ⟨d, r, e, e2, q⟩ => ⟨d, r, e, e2, k _ _ q⟩) (gin_name hi)
    (gsin_cons (w := dName j) (w' := dgNil) (fun v σ H P P' k q => k _ _ q) (fun v σ H P P' k q => ⟨q.1, k _ _ q.2⟩) (gin_name hj) gsin_nil)
def dgTup (n : Nat) (w : WGs) : WG := fun d γ Q => ∃ ds, d = .tup ds ∧ ds.length = n ∧ w ds γ Q
theorem dg_tup (K' : PySem.W.Frag) {es : List Expr} {k : Nat} {t : TGs} {w : WGs} {n : Nat} (hc : X.calm = true) (h : DGs X es t w)
    (hn : (assignEach es X.env).length = n := by rfl) (hst : (assignEach es X.env).findIdx? (·.1) = none := by rfl) (hK : X.K = K' := by rfl) : DG X (.Tuple es k pos) (gTup K' n t) (dgTup n w) := by
  subst hK
  exact ⟨pg_tup hc h.pg hn hst, fun d γ P P' k ⟨ds, e, l, q⟩ => ⟨ds, e, l, h.sg.mono _ _ _ _ k q⟩, fun B S H σ γ v d Q R hd q => by
  obtain ⟨ds, e, l, q⟩ := q
  subst e
  obtain ⟨a, xs, rfl, g2, g3⟩ := hd.tup_inv
  exact ⟨a, xs, rfl, SqT.of (R.same _ _ g2), g3.1.trans l, h.sg.run B S H σ γ xs ds Q R g3 q⟩⟩
theorem gin_tup {n : Nat} {t : TGs} {vs : List Nat} (h : GsIn t vs) : GIn (gTup K n t) vs := fun v σ H Q ⟨a, xs, e1, e2, e3, q⟩ => ⟨a, xs, e1, e2, e3, h _ _ _ _ q⟩
end

/-! ### comprehensions -/
def wipeG (γ : List Sl) : List Nat → List Sl
  | [] => γ
  | v :: vs => (wipeG γ vs).set v .any
theorem Rel.wipe {X : Xb} {B : Bs} {S H : Hp} {σ : L2.St} {γ : List Sl} (R : Rel X B S H σ γ) : ∀ vs : List Nat, Rel X B S H σ (wipeG γ vs)
  | [] => R
  | v :: vs => (R.wipe vs).drop
theorem wipeG_len (γ : List Sl) : ∀ vs : List Nat, (wipeG γ vs).length = γ.length
  | [] => rfl
  | v :: vs => by unfold wipeG; rw [List.length_set, wipeG_len γ vs]
theorem wipeG_at {γ : List Sl} {j : Nat} (hj : j < γ.length) : ∀ {vs : List Nat}, j ∈ vs → (wipeG γ vs)[j]? = some .any
  | v :: vs, h => by
    unfold wipeG
    by_cases e : v = j
    · subst e; rw [List.getElem?_set_self (by rw [wipeG_len]; exact hj)]
    · rw [List.getElem?_set_ne e]
      exact wipeG_at hj (by rcases List.mem_cons.mp h with h | h; exact absurd h.symm e; exact h)
theorem wipe_get {σ : L2.St} {j : Nat} : ∀ {vs : List Nat}, j ∉ vs → (L2.wipe σ vs)[j]? = σ[j]?
  | [], _ => rfl
  | v :: vs, h => by
    unfold L2.wipe
    rw [List.getElem?_set_ne (fun z => h (by rw [z]; exact List.mem_cons_self)), wipe_get (fun z => h (List.mem_cons_of_mem _ z))]
/-- other values in slots of which nothing is known -/
theorem Rel.other {X : Xb} {B : Bs} {S H : Hp} {σ σ' : L2.St} {γ : List Sl} (R : Rel X B S H σ γ) (hl : σ'.length = σ.length) (h : ∀ (i : Nat) s, γ[i]? = some s → s ≠ Sl.any → σ'[i]? = σ[i]?) : Rel X B S H σ' γ := by
  obtain ⟨φ, r⟩ := R.r
  refine R.with ?_ (Same.refl S)
  refine ⟨φ, r.same, r.keep, r.muk, r.grow, r.ext, hl.trans r.len, fun i s e => ?_, r.phH, r.phS, r.phD, r.phO, r.frm, r.frn, r.spS⟩
  by_cases hs : s = Sl.any
  · subst hs; trivial
  · rw [h i _ e hs]; exact r.sl i _ e
theorem Rel.wiped {X : Xb} {B : Bs} {S H : Hp} {σ : L2.St} {γ : List Sl} {vs : List Nat} (R : Rel X B S H σ γ) (h : ∀ v ∈ vs, ∀ s, γ[v]? = some s → s = .any) : Rel X B S H (L2.wipe σ vs) γ :=
  R.other (wipe_length σ vs) fun i s e hs => wipe_get fun hi => hs (h i hi s e)
theorem Rel.unwiped {X : Xb} {B : Bs} {S H : Hp} {σ : L2.St} {γ : List Sl} {vs : List Nat} (R : Rel X B S H (L2.wipe σ vs) γ) (h : ∀ v ∈ vs, ∀ s, γ[v]? = some s → s = .any) : Rel X B S H σ γ :=
  R.other (wipe_length σ vs).symm fun i s e hs => (wipe_get fun hi => hs (h i hi s e)).symm
theorem wipeG_any {γ : List Sl} {vs : List Nat} : ∀ v ∈ vs, ∀ s, (wipeG γ vs)[v]? = some s → s = .any := fun v hv s e => by
  by_cases hj : v < γ.length
  · rw [wipeG_at hj hv] at e; exact (Option.some.inj e).symm
  · rw [List.getElem?_eq_none (by rw [wipeG_len]; omega)] at e; cases e
structure STs (X : Xb) (t : TT) (w : WT) : Prop where
  st : ST X t w
structure DTs (X : Xb) (ifs : List Expr) (t : TT) (w : WT) : Prop where
  pt : PTs X ifs t
  st : ST X t w
def dYes : WT := fun γ Q => Q true γ
theorem dts_nil {X : Xb} : DTs X [] tYes dYes := ⟨pts_nil, fun γ P P' k q => k _ _ q, fun B S H σ γ Q R q => q S H R (Same.refl S)⟩
theorem dts_one {X : Xb} {c : Expr} {t : TT} {w : WT} (h : DT X c t w) : DTs X [c] t w := ⟨pts_one h.pt, h.st⟩
def dLc (wi : WA) (wg : WG) (wt : WT) (we : WE) (vs : List Nat) : WF := fun γ Q => wi γ fun ds γ1 => ds.length ≤ sizeLine ∧ (∀ v ∈ vs, ∀ s, γ1[v]? = some s → s = .any) ∧ ∃ I : Nat → List D → List Sl → Prop, I 0 [] γ1 ∧
  (∀ i acc γ d, ds[i]? = some d → I i acc γ → (∀ v ∈ vs, ∀ s, γ[v]? = some s → s = .any) ∧ wg d γ fun γ2 => wt γ2 fun b γ3 => if b = true then we γ3 fun y γ4 => I (i + 1) (acc ++ [y]) (wipeG γ4 vs) else I (i + 1) acc (wipeG γ3 vs)) ∧
  ∀ acc γ, I ds.length acc γ → (∀ v ∈ vs, ∀ s, γ[v]? = some s → s = .any) ∧ Q acc γ
theorem wipe_wipe {σ : L2.St} : ∀ (vs us : List Nat), (∀ v ∈ vs, v ∈ us) → L2.wipe (L2.wipe σ us) vs = L2.wipe σ us
  | [], _, _ => rfl
  | v :: vs, us, h => by
    show (L2.wipe (L2.wipe σ us) vs).set v none = _
    rw [wipe_wipe vs us fun u hu => h u (List.mem_cons_of_mem _ hu)]
    have : ∀ us : List Nat, v ∈ us → (L2.wipe σ us).set v none = L2.wipe σ us := by
      intro us
      induction us with
      | nil => intro z; cases z
      | cons u us ih =>
        intro hv
        show ((L2.wipe σ us).set u none).set v none = (L2.wipe σ us).set u none
        by_cases e : u = v
        · subst e; rw [List.set_set]
        · rw [List.set_comm _ _ e, ih (by rcases List.mem_cons.mp hv with z | z; exact absurd z.symm e; exact z)]
    exact this us (h v List.mem_cons_self)
section
variable {X : Xb} {K : PySem.W.Frag}
section
variable {s0 : Shared} {H0 : Hp} {sc : Scope} {env : Env} {fp : List Addr}
theorem SE.ofBlk {t : TE} {w : WE} (h : SE (X.blk s0 H0 sc env fp) t w) : SE X t w := ⟨h.mono, fun B S H σ γ Q R q => h.run B S H σ γ Q R.toBlk (h.mono _ _ _ (fun d γ' q v S' H' R' e dn => q v S' H' R'.ofBlk e dn) q)⟩
theorem ST.ofBlk {t : TT} {w : WT} (h : ST (X.blk s0 H0 sc env fp) t w) : ST X t w := ⟨h.mono, fun B S H σ γ Q R q => h.run B S H σ γ Q R.toBlk (h.mono _ _ _ (fun d γ' q S' H' R' e => q S' H' R'.ofBlk e) q)⟩
theorem SG.ofBlk {g : TG} {w : WG} (h : SG (X.blk s0 H0 sc env fp) g w) : SG X g w := ⟨h.mono, fun B S H σ γ v d Q R dn q => h.run B S H σ γ v d Q R.toBlk dn (h.mono _ _ _ _ (fun γ' q σ' R' => q σ' R'.ofBlk) q)⟩
theorem SI.ofBlk {t : TI} {w : WA} (h : SI (X.blk s0 H0 sc env fp) t w) : SI X t w := ⟨h.mono, fun B S H σ γ Q R q => h.run B S H σ γ Q R.toBlk (h.mono _ _ _ (fun ds γ' q J S' H' R' e hJ => q J S' H' R'.ofBlk e hJ) q)⟩
end
theorem sf_lc {ti : TI} {wi : WA} {g : TG} {wg : WG} {tt : TT} {wt : WT} {te : TE} {we : WE} {vs : List Nat} (hi : SI X ti wi) (hg : SG X g wg) (hgi : GIn g vs) (hgm : ∀ v σ H (P P' : L2.St → Hp → Prop), (∀ σ' H', P σ' H' → P' σ' H') → g v σ H P → g v σ H P') (ht : ST X tt wt) (he : SE X te we) : SF X (tLc ti g tt te vs) (dLc wi wg wt we vs) := by
  refine ⟨fun γ P P' k q => hi.mono γ _ _ (fun ds γ1 ⟨hz, ha, I, h0, hs, hd⟩ => ⟨hz, ha, I, h0, hs, fun acc γ q => ⟨(hd acc γ q).1, k _ _ (hd acc γ q).2⟩⟩) q, fun B S H σ γ Q R q => ?_⟩
  refine hi.run B S H σ γ _ R (hi.mono γ _ _ (fun ds γ1 ⟨hz, ha, I, h0, hs, hd⟩ J S1 H1 R1 e1 hJ A hA => ?_) q)
  refine ⟨fun i m H => m = ds.length - i ∧ i ≤ ds.length ∧ ∃ S2 γ2 acc xs, Rel X (B.fram A (.lst xs)) S2 H (L2.wipe σ vs) γ2 ∧ Same S1 S2 ∧ I i acc γ2 ∧ acc.length ≤ i ∧ DenL S2 xs acc, ⟨ds.length, by simp, Nat.zero_le _, S1, γ1, [], [], (R1.newF hA).wiped ha, Same.refl S1, h0, Nat.le_refl _, .nil⟩, ?_⟩
  rintro i m H2 ⟨rfl, hi2, S2, γ2, acc, xs, R2, e2, hI, hal, k5⟩
  by_cases hlt : i < ds.length
  · refine .inr ⟨(hJ.mono e2).go i H2 R2.same hlt, fun H' => i + 1 ≤ ds.length ∧ ∃ S3 γ3 acc xs, Rel X (B.fram A (.lst xs)) S3 H' (L2.wipe σ vs) γ3 ∧ Same S1 S3 ∧ I (i + 1) acc γ3 ∧ acc.length ≤ i + 1 ∧ DenL S3 xs acc, fun H' q => ⟨_, by omega, rfl, q⟩, fun x H' y => ?_⟩
    obtain ⟨d, hdi, hy⟩ := (hJ.mono e2).yld i H2 x H' R2.same hlt y
    obtain ⟨hany, body⟩ := hs i acc γ2 d hdi hI
    -- the item's heap
    obtain ⟨S3, R3, e3, d3⟩ : ∃ S3, Rel X (B.fram A (.lst xs)) S3 H' (L2.wipe σ vs) γ2 ∧ Same S2 S3 ∧ Den S3 x d := by
      rcases hy with ⟨f1, f2⟩ | ⟨T, ys, es, f1, f2, f3, f4, f5⟩
      · subst f1; exact ⟨S2, R2, Same.refl S2, f2⟩
      · subst f1 f3 f4
        have e4 : Same S2 (upd S2 T (.tup ys)) := Same.upd (Same.refl S2) (R2.freshS f2)
        exact ⟨_, R2.new f2, e4, .ofT upd_same (f5.mono e4)⟩
    refine hgm _ _ _ _ _ (fun σ4 H4 ⟨w4, q4⟩ => ⟨w4.trans (wipe_wipe vs vs fun _ h => h), q4 (w4.trans (wipe_wipe vs vs fun _ h => h))⟩) (hgi _ _ _ (fun σ4 H4 => L2.wipe σ4 vs = L2.wipe σ vs → tt σ4 H4 _) ?_)
    refine hg.run _ S3 H' _ γ2 x d _ R3 d3 (hg.mono _ _ _ _ (fun γ4 body σ4 R4 w4 => ?_) body)
    refine ht.run _ S3 H' σ4 γ4 _ R4 (ht.mono _ _ _ (fun b γ5 body S5 H5 R5 e5 => ?_) body)
    have back : ∀ {S6 : Hp} {H6 : Hp} {γ6 : List Sl}, Rel X (B.fram A (.lst xs)) S6 H6 σ4 γ6 → Rel X (B.fram A (.lst xs)) S6 H6 (L2.wipe σ vs) (wipeG γ6 vs) := fun {S6 H6 γ6} R6 => by
      have W := (R6.wipe vs).wiped wipeG_any
      rw [w4] at W
      exact W
    cases b with
    | false => exact ⟨hlt, S5, _, acc, xs, back R5, e2.trans (e3.trans e5), body, by omega, k5.mono (e3.trans e5)⟩
    | true =>
      refine he.run _ S5 H5 σ4 γ5 _ R5 (he.mono _ _ _ (fun y γ6 body v S6 H6 R6 e6 d6 => ?_) body)
      have W := back R6
      have e7 : Same S2 S6 := e3.trans (e5.trans e6)
      exact ⟨xs, W.unfram.2.1, by rw [k5.1]; omega, hlt, S6, _, acc ++ [y], xs ++ [v], W.chgF, e2.trans e7, body, by rw [List.length_append, List.length_singleton]; omega, (k5.mono e7).snoc d6⟩
  · have e : i = ds.length := by omega
    subst e
    obtain ⟨g1, g2⟩ := hd acc γ2 hI
    exact .inl ⟨(hJ.mono e2).stop _ H2 R2.same (Nat.le_refl _), g2 A xs S2 H2 (R2.unwiped g1) (e1.trans e2) k5⟩
end
end DL
set_option Elab.async false
set_option linter.all false
set_option autoImplicit false
set_option maxRecDepth 100000
set_option maxHeartbeats 4000000
/-! DL5: comprehensions as expressions, statements, defs by their data, calls. -/
namespace DL
open PySem PySem.Spec PyProof.Rows L2

/-- targets of names and pairs of names do what is wanted monotonically -/
def GMo (g : TG) : Prop := ∀ v σ H (P P' : L2.St → Hp → Prop), (∀ σ' H', P σ' H' → P' σ' H') → g v σ H P → g v σ H P'
def GsMo (g : TGs) : Prop := ∀ v σ H (P P' : L2.St → Hp → Prop), (∀ σ' H', P σ' H' → P' σ' H') → g v σ H P → g v σ H P'
theorem gmo_name {i : Nat} : GMo (gName i) := fun v σ H P P' k q => k _ _ q
theorem gsmo_nil : GsMo gNil := fun v σ H P P' k q => ⟨q.1, k _ _ q.2⟩
theorem gsmo_cons {g : TG} {u : TGs} (h : GMo g) (h' : GsMo u) : GsMo (gCons g u) := fun v σ H P P' k ⟨d, r, e, q⟩ => ⟨d, r, e, h _ _ _ _ _ (fun σ1 H1 q => h' _ _ _ _ _ k q) q⟩
theorem gmo_tup {K : PySem.W.Frag} {n : Nat} {t : TGs} (h : GsMo t) : GMo (gTup K n t) := fun v σ H P P' k ⟨a, xs, e1, e2, e3, q⟩ => ⟨a, xs, e1, e2, e3, h _ _ _ _ _ k q⟩

section
variable {X : Xb} {K : PySem.W.Frag}
theorem df_lc {elt tg iter : Expr} {ifs : List Expr} {scope : Scope} {own : List (Str × Nat)} {pos : Pos} {ti : TI} {wi : WA} {g : TG} {wg : WG} {tt : TT} {wt : WT} {te : TE} {we : WE} (hc : X.calm = true) (hN : X.N.Nodup) (hi : DI X tg iter ti wi) (ok : BlkOk X.N X.env.scope scope own)
    (hg : ∀ (s : Shared) (H : Hp) (C : Addr) (cl : List (Str × Addr)) (fp : List Addr), DG (X.blk s H scope (compEnvC scope cl C X.env) fp) tg g wg) (hgi : GIn g (own.map (·.2))) (hgm : GMo g)
    (ht : ∀ (s : Shared) (H : Hp) (C : Addr) (cl : List (Str × Addr)) (fp : List Addr), DTs (X.blk s H scope (compEnvC scope cl C X.env) fp) ifs tt wt)
    (he : ∀ (s : Shared) (H : Hp) (C : Addr) (cl : List (Str × Addr)) (fp : List Addr), DE (X.blk s H scope (compEnvC scope cl C X.env) fp) elt te we) (hs : ∀ x, foldedSetIterable iter X.env x = pure x := by intro _; rfl) :
    DF X (.ListComp elt [⟨tg, iter, ifs, 0⟩] scope pos) (tLc ti g tt te (own.map (·.2))) (dLc wi wg wt we (own.map (·.2))) :=
  ⟨pe_lc hc hN hi.pi ok (fun s H C cl fp => (hg s H C cl fp).pg) (fun s H C cl fp => (ht s H C cl fp).pt) (fun s H C cl fp => (he s H C cl fp).pe) hs,
   sf_lc hi.si (hg X.s_0 X.H_0 0 [] []).sg.ofBlk hgi hgm (ht X.s_0 X.H_0 0 [] []).st.ofBlk (he X.s_0 X.H_0 0 [] []).se.ofBlk⟩

/-- a datum without parts -/
def flat : D → Prop
  | .lst _ => False
  | .tup _ => False
  | .obj _ _ => False
  | .emp => False
  | _ => True
theorem Den.flat {S S' : Hp} {v : V} {d : D} (h : Den S v d) (f : flat d) : Den S' v d := by
  cases h with
  | non => exact .non
  | bl b => exact .bl b
  | int i => exact .int i
  | str s => exact .str s
  | lst h hl hs => cases f
  | tup h hl hs => cases f
  | obj h hl hn hs => cases f
  | emp h => cases f
  | ref p => exact .ref p
def flats (ds : List D) : Prop := ∀ d ∈ ds, flat d
theorem DenL.flat {S S' : Hp} {xs : List V} {ds : List D} (h : DenL S xs ds) (f : flats ds) : DenL S' xs ds := ⟨h.1, fun i x d h1 h2 => (h.2 i x d h1 h2).flat (f d (List.mem_of_getElem? h2))⟩
/-- what is put into a list: the caller's lists take flat things alone -/
theorem own_den {B : Bs} {S S1 : Hp} {m : Bool} {v : V} {d : D} (h : Den S v d) (f : m = true → DL.flat d) : Den (if m = true then B.SP else S) v d := by
  cases m with
  | true => exact h.flat (f rfl)
  | false => exact h
theorem own_old {B : Bs} {S : Hp} {m : Bool} {p : Addr} {xs : List V} {ds : List D} (h : DenL S xs ds) (f : m = true → p ∈ B.mu ∧ DenL B.SP xs ds) : DenL (if m = true then B.SP else S) xs ds := by
  cases m with
  | true => exact (f rfl).2
  | false => exact h
/-! ### statements -/
inductive Rv where
  | d (d : D) | f (ds : List D) | o (C : Addr) (fs : List (Str × D))
def Rv.val : Rv → D
  | .d x => x | .f xs => .lst xs | .o C fs => .obj C fs
def RvOk (B : Bs) (S H : Hp) (v : V) : Rv → Prop
  | .d d => Den S v d
  | .f ds => ∃ p xs, v = .ref p ∧ S p = none ∧ B.H0 p = none ∧ H p = some (.lst xs) ∧ DenL S xs ds
  | .o C fs => ∃ p dx vs, v = .ref p ∧ S p = none ∧ B.H0 p = none ∧ H p = some (.ins C dx vs) ∧ DenF S vs fs
structure EndsD where
  nx : List Sl → Prop
  rt : Rv → List Sl → Prop
  bk : List Sl → Prop := fun _ => False
  ct : List Sl → Prop := fun _ => False
abbrev WS := EndsD → List Sl → Prop
structure Link (X : Xb) (B : Bs) (S0 : Hp) (Dd : EndsD) (D : Ends) : Prop where
  nx : ∀ S H σ γ, Same S0 S → Rel X B S H σ γ → Dd.nx γ → D.nx σ H
  rt : ∀ S H σ γ v r, Same S0 S → Rel X B S H σ γ → RvOk B S H v r → Dd.rt r γ → D.rt v H
  bk : ∀ S H σ γ, Same S0 S → Rel X B S H σ γ → Dd.bk γ → D.bk σ H
  ct : ∀ S H σ γ, Same S0 S → Rel X B S H σ γ → Dd.ct γ → D.ct σ H
structure SS (X : Xb) (t : TS) (w : WS) : Prop where
  run : ∀ B S0 S H σ γ Dd D, Rel X B S H σ γ → Same S0 S → Link X B S0 Dd D → w Dd γ → t D σ H
structure DS (X : Xb) (st : Stmt) (t : TS) (w : WS) : Prop where
  ps : PS X st t
  ss : SS X t w
structure DSs (X : Xb) (st : List Stmt) (t : TS) (w : WS) : Prop where
  ps : PSs X st t
  ss : SS X t w
variable {e a b : Expr} {te ta tb : TE} {we wa wb : WE} {wf : WF} {pos : Pos} {st : Stmt} {rest sts : List Stmt} {t u : TS} {w w' : WS}
def dNext : WS := fun Dd γ => Dd.nx γ
theorem dss_nil : DSs X [] tNext dNext := ⟨pss_nil, ⟨fun B S0 S H σ γ Dd D R e L q => L.nx S H σ γ e R q⟩⟩
def dSeq (w w' : WS) : WS := fun Dd γ => w { Dd with nx := w' Dd } γ
theorem dss_cons (h : DS X st t w) (h' : DSs X rest u w') : DSs X (st :: rest) (tSeq t u) (dSeq w w') :=
  ⟨pss_cons h.ps h'.ps, ⟨fun B S0 S H σ γ Dd D R e L q => h.ss.run B S0 S H σ γ { Dd with nx := w' Dd } _ R e ⟨fun S1 H1 σ1 γ1 e1 R1 q1 => h'.ss.run B S0 S1 H1 σ1 γ1 Dd D R1 e1 L q1, L.rt, L.bk, L.ct⟩ q⟩⟩
theorem dss_one (h : DS X st t w) : DSs X [st] t w := ⟨pss_one h.ps, h.ss⟩
def dBrk : WS := fun Dd γ => Dd.bk γ
def dCont : WS := fun Dd γ => Dd.ct γ
theorem ds_break : DS X (.Break pos) tBreak dBrk := ⟨ps_break, ⟨fun B S0 S H σ γ Dd D R e L q => L.bk S H σ γ e R q⟩⟩
/-- e -/
def dDrop (we : WE) : WS := fun Dd γ => we γ fun _ γ1 => Dd.nx γ1
/-- return e -/
def dRet (we : WE) : WS := fun Dd γ => we γ fun d γ1 => Dd.rt (.d d) γ1
theorem ds_ret (h : DE X e te we) : DS X (.Return (some e) pos) (tRet te) (dRet we) :=
  ⟨ps_ret h.pe, ⟨fun B S0 S H σ γ Dd D R e L q => h.se.run B S H σ γ _ R (h.se.mono γ _ _ (fun d γ1 q v S1 H1 R1 e1 d1 => L.rt S1 H1 σ γ1 v (.d d) (e.trans e1) R1 d1 q) q)⟩⟩
def dRetF (wf : WF) : WS := fun Dd γ => wf γ fun ds γ1 => Dd.rt (.f ds) γ1
theorem ds_retF (h : DF X e te wf) : DS X (.Return (some e) pos) (tRet te) (dRetF wf) :=
  ⟨ps_ret h.pe, ⟨fun B S0 S H σ γ Dd D R e L q => h.sf.run B S H σ γ _ R (h.sf.mono γ _ _ (fun ds γ1 q p xs S1 H1 R1 e1 k4 => let ⟨U, u1, u2, u3⟩ := R1.unfram; L.rt S1 H1 σ γ1 (.ref p) (.f ds) (e.trans e1) U ⟨p, xs, rfl, u2, u3, u1, k4⟩ q) q)⟩⟩
/-- return of a list of one's own, at a name -/
def dRetO (i : Nat) : WS := fun Dd γ => ∃ ds, γ[i]? = some (.own false ds) ∧ Dd.rt (.f ds) (γ.set i .any)
theorem ds_retO (i : Nat) {x : Str} {px : Pos} (hN : X.N[i]? = some x := by rfl) (hv : Vis X.env.scope x := by first | exact Or.inl rfl | exact Or.inr (Or.inl rfl) | exact Or.inr (Or.inr rfl)) (hd : (x == ("__debug__" : Str)) = false := by decide)
    (hcd : (x == ("__classdict__" : Str)) = false := by decide) : DS X (.Return (some (.Name x px)) pos) (tRet (tVar i)) (dRetO i) :=
  ⟨ps_ret (pe_var hN hv hd hcd), ⟨fun B S0 S H σ γ Dd D R e L ⟨ds, g, q⟩ => by
    obtain ⟨p, xs, g1, g4, R1⟩ := R.takeOwn g
    obtain ⟨U, u1, u2, u3⟩ := R1.unfram
    exact ⟨_, g1, L.rt S H σ _ (.ref p) (.f ds) e U ⟨p, xs, rfl, u2, u3, u1, g4⟩ q⟩⟩⟩
def dRetN : WS := fun Dd γ => Dd.rt (.d .non) γ
/-- x = e -/
def dSet (i : Nat) (we : WE) : WS := fun Dd γ => we γ fun d γ1 => Dd.nx (γ1.set i (.val d))
theorem ds_set {i : Nat} {x : Str} {px : Pos} (hN : X.N.Nodup) (h : DE X e te we) (hi : X.N[i]? = some x := by rfl) (hx : Loc X.env.scope x := by first | exact Or.inl rfl | exact Or.inr rfl) (hs : swapsWith e (some (.Name x px)) pos.line X.env = pure false := by rfl)
    (hf : X.fn x = true ∨ X.env.scope.names.lookup x = some .local := by first | exact .inl rfl | exact .inr rfl | assumption) : DS X (.Assign [.Name x px] e pos) (tAsg te (gName i)) (dSet i we) :=
  ⟨ps_set hN hi hx h.pe hs hf, ⟨fun B S0 S H σ γ Dd D R e L q => h.se.run B S H σ γ _ R (h.se.mono γ _ _ (fun d γ1 q v S1 H1 R1 e1 d1 => L.nx S1 H1 _ _ (e.trans e1) (R1.set (s := .val d) ⟨v, rfl, d1⟩ rfl) q) q)⟩⟩
/-- x = a new list, kept as one's own -/
def dSetO (i : Nat) (wf : WF) : WS := fun Dd γ => wf γ fun ds γ1 => Dd.nx (γ1.set i (.own false ds))
theorem ds_setO {i : Nat} {x : Str} {px : Pos} (hN : X.N.Nodup) (h : DF X e te wf) (hi : X.N[i]? = some x := by rfl) (hx : Loc X.env.scope x := by first | exact Or.inl rfl | exact Or.inr rfl) (hs : swapsWith e (some (.Name x px)) pos.line X.env = pure false := by rfl)
    (hf : X.fn x = true ∨ X.env.scope.names.lookup x = some .local := by first | exact .inl rfl | exact .inr rfl | assumption) : DS X (.Assign [.Name x px] e pos) (tAsg te (gName i)) (dSetO i wf) :=
  ⟨ps_set hN hi hx h.pe hs hf, ⟨fun B S0 S H σ γ Dd D R e L q => h.sf.run B S H σ γ _ R (h.sf.mono γ _ _ (fun ds γ1 q p xs S1 H1 R1 e1 k4 => L.nx S1 H1 _ _ (e.trans e1) (R1.setOwn k4) q) q)⟩⟩
/-- x = [..], the comprehension given to a name on one line -/
theorem ds_setLc {i : Nat} {y : Str} {py : Pos} {elt tg iter : Expr} {ifs : List Expr} {scope : Scope} {own : List (Str × Nat)} {pos spos : Pos} {ti : TI} {wi : WA} {g : TG} {wg : WG} {tt : TT} {wt : WT} {te : TE} {we : WE} (hc : X.calm = true) (hN : X.N.Nodup)
    (hi : DI X tg iter ti wi) (ok : BlkOk X.N X.env.scope scope own)
    (hg : ∀ (s : Shared) (H : Hp) (C : Addr) (cl : List (Str × Addr)) (fp : List Addr), DG (X.blk s H scope (compEnvC scope cl C X.env) fp) tg g wg) (hgi : GIn g (own.map (·.2))) (hgm : GMo g)
    (ht : ∀ (s : Shared) (H : Hp) (C : Addr) (cl : List (Str × Addr)) (fp : List Addr), DTs (X.blk s H scope (compEnvC scope cl C X.env) fp) ifs tt wt)
    (he : ∀ (s : Shared) (H : Hp) (C : Addr) (cl : List (Str × Addr)) (fp : List Addr), DE (X.blk s H scope (compEnvC scope cl C X.env) fp) elt te we)
    (hy : X.N[i]? = some y := by rfl) (hyl : X.env.scope.names.lookup y = some .local := by rfl)
    (hsw : swapsWith (.ListComp elt [⟨tg, iter, ifs, 0⟩] scope pos) (some (.Name y py)) spos.line X.env = pure true := by exact sw_true rfl rfl rfl (by decide +kernel)) (hs : ∀ x, foldedSetIterable iter X.env x = pure x := by intro _; rfl) :
    DS X (.Assign [.Name y py] (.ListComp elt [⟨tg, iter, ifs, 0⟩] scope pos) spos) (tAsg (tLc ti g tt te (own.map (·.2))) (gName i)) (dSetO i (dLc wi wg wt we (own.map (·.2)))) :=
  have h : SF X (tLc ti g tt te (own.map (·.2))) (dLc wi wg wt we (own.map (·.2))) := sf_lc hi.si (hg X.s_0 X.H_0 0 [] []).sg.ofBlk hgi hgm (ht X.s_0 X.H_0 0 [] []).st.ofBlk (he X.s_0 X.H_0 0 [] []).se.ofBlk
  ⟨ps_setLc hc hN hy hyl hsw hi.pi ok (fun s H C cl fp => (hg s H C cl fp).pg) (fun s H C cl fp => (ht s H C cl fp).pt) (fun s H C cl fp => (he s H C cl fp).pe) hs,
   ⟨fun B S0 S H σ γ Dd D R e L q => h.run B S H σ γ _ R (h.mono γ _ _ (fun ds γ1 q p xs S1 H1 R1 e1 k4 => L.nx S1 H1 _ _ (e.trans e1) (R1.setOwn k4) q) q)⟩⟩
/-- the list of one's own in slot i is a value from here on -/
def dFrz (i : Nat) (w : WS) : WS := fun Dd γ => ∃ ds, γ[i]? = some (.own false ds) ∧ w Dd (γ.set i (.val (.lst ds)))
theorem dss_frz (i : Nat) (h : DSs X sts t w) : DSs X sts t (dFrz i w) := ⟨h.ps, ⟨fun B S0 S H σ γ Dd D R e L ⟨ds, g, q⟩ => by
  obtain ⟨S', p, e1, e2, R', dn⟩ := R.val g
  exact h.ss.run B S0 S' H σ _ Dd D R' (e.trans e2) L q⟩⟩
/-- a, b = .. -/
def dAsg (we : WE) (wg : WG) : WS := fun Dd γ => we γ fun d γ1 => wg d γ1 Dd.nx
/-- xs[k] = e, xs of one's own -/
def dStI (i : Nat) (we wk : WE) : WS := fun Dd γ => we γ fun d γ1 => (∃ m ds, γ1[i]? = some (.own m ds)) ∧ wk γ1 fun k γ2 => ∃ n m ds j, k = .int n ∧ γ2[i]? = some (.own m ds) ∧ ixN ds.length n = some j ∧ (m = true → flat d) ∧ Dd.nx (γ2.set i (.own m (ds.set j d)))
theorem ds_sub (i : Nat) {x : Str} {px ps : Pos} {k : Expr} {tk : TE} {wk : WE} (h : DE X e te we) (hk : DE X k tk wk) (hN : X.N[i]? = some x := by rfl) (hv : Vis X.env.scope x := by first | exact Or.inl rfl | exact Or.inr (Or.inl rfl) | exact Or.inr (Or.inr rfl)) (hd : (x == ("__debug__" : Str)) = false := by decide)
    (hcd : (x == ("__classdict__" : Str)) = false := by decide) (ha : ∀ v, assign (.Subscript (.Name x px) k ps) X.env v = (do
      let ov ← holding [v] (eval (.Name x px) X.env)
      let iv ← holding [v, ov] (eval k X.env)
      standAt ps
      holding [v, ov, iv] (setItem ov iv v)
      release [v, ov, iv] []) := by intro _; rfl) (hs : swapsWithSole [.Subscript (.Name x px) k ps] e pos.line X.env = pure false := by rfl) (hw : swappedStores [.Subscript (.Name x px) k ps] e X.env = pure none := by rfl)
    (h1 : (assignEach [.Subscript (.Name x px) k ps] X.env).map (·.2) = [assign (.Subscript (.Name x px) k ps) X.env] := by rfl) : DS X (.Assign [.Subscript (.Name x px) k ps] e pos) (tAsg te (gSub (tVar i) tk rSetL)) (dStI i we wk) :=
  ⟨ps_asg h.pe (pg_sub (pe_var hN hv hd hcd) hk.pe set_list ha) hs hw h1, ⟨fun B S0 S H σ γ Dd D R e L q => h.se.run B S H σ γ _ R (h.se.mono γ _ _ (fun d γ1 ⟨⟨m0, ds0, g0⟩, q⟩ v S1 H1 R1 e1 d1 => by
    obtain ⟨p0, xs0, f0, _⟩ := R1.sl i _ g0
    refine ⟨_, f0, ?_⟩
    refine hk.se.run B S1 H1 σ γ1 _ R1 (hk.se.mono γ1 _ _ (fun y γ2 ⟨n, m, ds, j, k1, k2, k3, kf, q⟩ u S2 H2 R2 e2 d2 => ?_) q)
    subst k1
    cases d2
    obtain ⟨p, xs, g1, g2, g3, g4, g5⟩ := R2.sl i _ k2
    rw [f0] at g1
    cases g1
    refine ⟨p0, xs, n, j, rfl, rfl, g3, by rw [g4.1]; exact k3, ?_⟩
    exact L.nx S2 _ σ _ (e.trans (e1.trans e2)) (R2.chg k2 f0 ((own_old g4 g5).set (own_den (S1 := S2) (d1.mono e2) kf) j)) q) q)⟩⟩
/-- xs.append(e) -/
def dApp (i : Nat) (we : WE) : WS := fun Dd γ => (∃ m ds, γ[i]? = some (.own m ds)) ∧ we γ fun d γ1 => ∃ m ds, γ1[i]? = some (.own m ds) ∧ ds.length < sizeLine ∧ (m = true → flat d) ∧ Dd.nx (γ1.set i (.own m (ds ++ [d])))
theorem ds_app (i : Nat) {x : Str} {px p1 p2 : Pos} (hpe : PE X e te → PE X (.Call (.Attribute (.Name x px) "append" p1) [e] [] p2) (tBM X.K "list" rAppend (tVar i) (tCons te tNil))) (h : DE X e te we)
    (hs : swapsWith (.Call (.Attribute (.Name x px) "append" p1) [e] [] p2) none pos.line X.env = pure false := by rfl) : DS X (.Expr (.Call (.Attribute (.Name x px) "append" p1) [e] [] p2) pos) (tDrop (tBM X.K "list" rAppend (tVar i) (tCons te tNil))) (dApp i we) :=
  ⟨ps_expr (hpe h.pe) hs, ⟨fun B S0 S H σ γ Dd D R e L ⟨⟨m0, ds0, g0⟩, q⟩ => by
    obtain ⟨p0, xs0, f0, f1, f2, f3⟩ := R.sl i _ g0
    refine ⟨_, f0, .inl ⟨rfl, _, SqL.of f2⟩, ?_⟩
    refine h.se.run B S H σ γ _ R (h.se.mono γ _ _ (fun d γ1 ⟨m, ds, k1, k2, kf, q⟩ v S1 H1 R1 e1 d1 => ?_) q)
    obtain ⟨p, xs, g1, g2, g3, g4, g5⟩ := R1.sl i _ k1
    rw [f0] at g1
    cases g1
    exact ⟨p0, xs, v, rfl, rfl, g3, by rw [g4.1]; exact k2, L.nx S1 _ σ _ (e.trans e1) (R1.chg k1 f0 ((own_old g4 g5).snoc (own_den (S1 := S1) d1 kf))) q⟩⟩⟩
/-- xs.extend(e) -/
def dExt (i : Nat) (we : WE) : WS := fun Dd γ => (∃ m ds, γ[i]? = some (.own m ds)) ∧ we γ fun d γ1 => ∃ es m ds, d = .lst es ∧ γ1[i]? = some (.own m ds) ∧ ds.length + es.length ≤ sizeLine ∧ (m = true → flats es) ∧ Dd.nx (γ1.set i (.own m (ds ++ es)))
/-- x += e of ints -/
def dAug (i : Nat) (f : Int → Int → Int) (we : WE) : WS := fun Dd γ => ∃ n, γ[i]? = some (.val (.int n)) ∧ we γ fun d γ1 => ∃ k, d = .int k ∧ Dd.nx (γ1.set i (.val (.int (f n k))))
/-- if -/
def dIf (wc : WT) (w w' : WS) : WS := fun Dd γ => wc γ fun b γ1 => if b = true then w Dd γ1 else w' Dd γ1
theorem ds_if {c : Expr} {p q : List Stmt} {tc : TT} {wc : WT} (hc : DT X c tc wc) (h : DSs X p t w) (h' : DSs X q u w') : DS X (.If c p q pos) (tIfS tc t u) (dIf wc w w') :=
  ⟨ps_if hc.pt h.ps h'.ps, ⟨fun B S0 S H σ γ Dd D R e L q => hc.st.run B S H σ γ _ R (hc.st.mono γ _ _ (fun b γ1 q S1 H1 R1 e1 => by
    cases b with
    | true => exact h.ss.run B S0 S1 H1 σ γ1 Dd D R1 (e.trans e1) L q
    | false => exact h'.ss.run B S0 S1 H1 σ γ1 Dd D R1 (e.trans e1) L q) q)⟩⟩
/-- an if whose ways meet: what is known behind it is said once -/
def dCut (w w' : WS) : WS := fun Dd γ => ∃ M : List Sl → Prop, w { Dd with nx := M } γ ∧ ∀ γ', M γ' → w' Dd γ'
theorem dss_cut (h : DS X st t w) (h' : DSs X rest u w') : DSs X (st :: rest) (tSeq t u) (dCut w w') :=
  ⟨pss_cons h.ps h'.ps, ⟨fun B S0 S H σ γ Dd D R e L ⟨M, q, k⟩ => h.ss.run B S0 S H σ γ { Dd with nx := M } _ R e ⟨fun S1 H1 σ1 γ1 e1 R1 q1 => h'.ss.run B S0 S1 H1 σ1 γ1 Dd D R1 e1 L (k _ q1), L.rt, L.bk, L.ct⟩ q⟩⟩
/-- for -/
def dFor (wi : WA) (wg : WG) (wb : WS) : WS := fun Dd γ => wi γ fun ds γ1 => ∃ I : Nat → List Sl → Prop, I 0 γ1 ∧ (∀ i d γ, ds[i]? = some d → I i γ → wg d γ fun γ2 => wb { Dd with nx := I (i + 1), ct := I (i + 1), bk := Dd.nx } γ2) ∧ ∀ γ, I ds.length γ → Dd.nx γ
theorem ss_for {ti : TI} {wi : WA} {g : TG} {wg : WG} {tb : TS} {wb : WS} (hi : SI X ti wi) (hg : SG X g wg) (hb : SS X tb wb) : SS X (tFor ti g tb) (dFor wi wg wb) := by
  refine ⟨fun B S0 S H σ γ Dd D R e L q => ?_⟩
  refine hi.run B S H σ γ _ R (hi.mono γ _ _ (fun ds γ1 ⟨I, h0, hs, hd⟩ J S1 H1 R1 e1 hJ => ?_) q)
  refine ⟨fun i m σ H => m = ds.length - i ∧ i ≤ ds.length ∧ ∃ S2 γ2, Rel X B S2 H σ γ2 ∧ Same S1 S2 ∧ I i γ2, ⟨ds.length, by simp, Nat.zero_le _, S1, γ1, R1, Same.refl S1, h0⟩, ?_⟩
  rintro i m σ2 H2 ⟨rfl, hi2, S2, γ2, R2, e2, hI⟩
  by_cases hlt : i < ds.length
  · refine .inr ⟨(hJ.mono e2).go i H2 R2.same hlt, fun σ' H' => i + 1 ≤ ds.length ∧ ∃ S3 γ3, Rel X B S3 H' σ' γ3 ∧ Same S1 S3 ∧ I (i + 1) γ3, fun σ' H' q => ⟨_, by omega, rfl, q⟩, fun x H' y => ?_⟩
    obtain ⟨d, hdi, hy⟩ := (hJ.mono e2).yld i H2 x H' R2.same hlt y
    have body := hs i d γ2 hdi hI
    obtain ⟨S3, R3, e3, d3⟩ : ∃ S3, Rel X B S3 H' σ2 γ2 ∧ Same S2 S3 ∧ Den S3 x d := by
      rcases hy with ⟨f1, f2⟩ | ⟨T, ys, es, f1, f2, f3, f4, f5⟩
      · subst f1; exact ⟨S2, R2, Same.refl S2, f2⟩
      · subst f1 f3 f4
        have e4 : Same S2 (upd S2 T (.tup ys)) := Same.upd (Same.refl S2) (R2.freshS f2)
        exact ⟨_, R2.new f2, e4, .ofT upd_same (f5.mono e4)⟩
    refine hg.run B S3 H' σ2 γ2 x d _ R3 d3 (hg.mono _ _ _ _ (fun γ4 body σ4 R4 => ?_) body)
    have e5 : Same S1 S3 := e2.trans e3
    have e6 : Same S0 S1 := e.trans e1
    refine hb.run B S3 S3 H' σ4 γ4 { Dd with nx := I (i + 1), ct := I (i + 1), bk := Dd.nx } _ R4 (Same.refl S3) ⟨fun S6 H6 σ6 γ6 k R6 q => ⟨hlt, S6, γ6, R6, e5.trans k, q⟩, fun S6 H6 σ6 γ6 v r k R6 rv q => L.rt S6 H6 σ6 γ6 v r (e6.trans (e5.trans k)) R6 rv q, fun S6 H6 σ6 γ6 k R6 q => L.nx S6 H6 σ6 γ6 (e6.trans (e5.trans k)) R6 q, fun S6 H6 σ6 γ6 k R6 q => ⟨hlt, S6, γ6, R6, e5.trans k, q⟩⟩ body
  · have e' : i = ds.length := by omega
    subst e'
    exact .inl ⟨(hJ.mono e2).stop _ H2 R2.same (Nat.le_refl _), L.nx S2 H2 σ2 γ2 ((e.trans e1).trans e2) R2 (hd γ2 hI)⟩
theorem ds_for {tg iter : Expr} {body : List Stmt} {ti : TI} {wi : WA} {g : TG} {wg : WG} {tb : TS} {wb : WS} (hp : PassesOwn (model X.prog X.w) X.A X.env X.xe) (hc : X.calm = true) (hi : DI X tg iter ti wi) (hg : DG X tg g wg) (hb : DSs X body tb wb)
    (hs : ∀ x, foldedSetIterable iter X.env x = pure x := by intro _; rfl) : DS X (.For tg iter body [] pos) (tFor ti g tb) (dFor wi wg wb) :=
  ⟨ps_for hp hc hi.pi hg.pg hb.ps hs, ss_for hi.si hg.sg hb.ss⟩
end

/-! ### defs -/
structure SpecD where
  S : List D → (Rv → Prop) → Prop
  mono : ∀ ds P P', (∀ r, P r → P' r) → S ds P → S ds P'
/-- a promise by parameters: the arguments, what is asked, what comes -/
def SpecD.of {α : Type} (args : α → List D) (pre : α → Prop) (post : α → Rv → Prop) : SpecD := ⟨fun ds Q => ∃ a, ds = args a ∧ pre a ∧ ∀ r, post a r → Q r, fun ds P P' k ⟨a, e, h, q⟩ => ⟨a, e, h, fun r hr => k r (q r hr)⟩⟩
structure SpecP where
  S : List D → List D → (Rv → List D → Prop) → Prop
  mono : ∀ pl ds P P', (∀ r pl, P r pl → P' r pl) → S pl ds P → S pl ds P'
def SpecP.of {α : Type} (args : α → List D) (pool : List D → Prop) (pre : α → Prop) (post : α → Rv → Prop) : SpecP :=
  ⟨fun pl ds Q => pool pl ∧ ∃ a, ds = args a ∧ pre a ∧ ∀ r pl', post a r → pool pl' → Q r pl', fun pl ds P P' k ⟨h0, a, e, h, q⟩ => ⟨h0, a, e, h, fun r pl' hr hp => k r pl' (q r pl' hr hp)⟩⟩
def spV (K : PySem.W.Frag) (s : SpecD) : Sp := fun vs H Q _ => ∃ S ds, Same S H ∧ DenL S vs ds ∧ s.S ds fun r => ∀ v S' H', Rel0 K ⟨H, S, [], [], emptyH⟩ S' H' [] [] → RvOk ⟨H, S, [], [], emptyH⟩ S' H' v r → Q v H'
def spP (K : PySem.W.Frag) (s : SpecP) : Sp := fun vs H Q _ => ∃ S SP p xs pl vs' ds, vs = .ref p :: vs' ∧ Same S H ∧ Same SP S ∧ S p = none ∧ H p = some (.lst xs) ∧ DenL SP xs pl ∧ DenL S vs' ds ∧
  s.S pl ds fun r pl' => ∀ v S' H' xs', Rel0 K ⟨H, S, [p], [], SP⟩ S' H' [] [] → S' p = none → H' p = some (.lst xs') → DenL SP xs' pl' → RvOk ⟨H, S, [p], [], SP⟩ S' H' v r → Q v H'
section
variable {K : PySem.W.Frag} {B : Bs} {S S' H H' : Hp} {σ : L2.St} {γ : List Sl}
end
section
variable {X : Xb} {K : PySem.W.Frag} {f : Addr} {fd : FuncData} {ps : List Str} {k : Nat} {x : Str} {e : Expr} {es : List Expr} {t : TA} {w : WA} {p pos : Pos}
def dCallS (s : SpecD) (w : WA) : WE := fun γ Q => w γ fun ds γ1 => s.S ds fun r => Q r.val γ1
theorem se_callS {s : SpecD} {t : TA} {w : WA} (h : SA X t w) : SE X (tCall (spV X.K s) [] E0 t) (dCallS s w) := by
  refine ⟨fun γ P P' k q => h.mono γ _ _ (fun ds γ1 q => s.mono _ _ _ (fun r q => k _ _ q) q) q, fun B S H σ γ Q R q => ?_⟩
  refine h.run B S H σ γ _ R (h.mono γ _ _ (fun ds γ1 q vs S1 H1 R1 e1 d1 => ?_) q)
  rw [List.append_nil]
  refine ⟨S1, ds, R1.same, d1, s.mono _ _ _ (fun r q v S' H' C rv => ?_) q⟩
  cases r with
  | d d => exact q v S' H' (R1.call C) (e1.trans C.grow) rv
  | f ds' =>
    obtain ⟨a, xs, rfl, k1, k2, k3, k4⟩ := rv
    have k2' : H1 a = none := k2
    have e6 : Same S' (upd S' a (.lst xs)) := Same.upd (Same.refl S') k1
    exact q (.ref a) _ H' (R1.callN C k2' k3 k1).frzF (e1.trans (C.grow.trans e6)) (.ofL upd_same (k4.mono e6))
  | o C' fs =>
    obtain ⟨a, dx, xs, rfl, k1, k2, k3, k4⟩ := rv
    have k2' : H1 a = none := k2
    have e6 : Same S' (upd S' a (.ins C' dx xs)) := Same.upd (Same.refl S') k1
    exact q (.ref a) _ H' (R1.callN C k2' k3 k1).frzF (e1.trans (C.grow.trans e6)) (.ofO upd_same (k4.mono e6))
def dCallF (s : SpecD) (w : WA) : WF := fun γ Q => w γ fun ds γ1 => s.S ds fun r => ∃ es, r = .f es ∧ Q es γ1
theorem sf_callF {s : SpecD} {t : TA} {w : WA} (h : SA X t w) : SF X (tCall (spV X.K s) [] E0 t) (dCallF s w) := by
  refine ⟨fun γ P P' k q => h.mono γ _ _ (fun ds γ1 q => s.mono _ _ _ (fun r ⟨es, e, q⟩ => ⟨es, e, k _ _ q⟩) q) q, fun B S H σ γ Q R q => ?_⟩
  refine h.run B S H σ γ _ R (h.mono γ _ _ (fun ds γ1 q vs S1 H1 R1 e1 d1 => ?_) q)
  rw [List.append_nil]
  refine ⟨S1, ds, R1.same, d1, s.mono _ _ _ (fun r ⟨es, e, q⟩ v S' H' C rv => ?_) q⟩
  subst e
  obtain ⟨a, xs, rfl, k1, k2, k3, k4⟩ := rv
  have k2' : H1 a = none := k2
  exact q a xs S' H' (R1.callN C k2' k3 k1) (e1.trans C.grow) k4
theorem de_call (K' : PySem.W.Frag) {s : SpecD} (F : FnOk X.prog X.w X.K X.mg X.base CX0 k f fd ps (spV K' s)) (hr : Room k X.A) (hm : X.mg x = some (.ref f)) (hk : PySem.W.keepIn X.K (.ref f) = true) (hb : Binds X.K fd ps []) (ha : DA X (e :: es) t w) (hg : Gl X x := by rfl)
    (hdb : (x == ("__debug__" : Str)) = false := by decide) (he : starEach (e :: es) X.env = (false, eval e X.env) :: starEach es X.env := by rfl) (hpl : (backTo pos (starEach es X.env)).any (·.1) = false := by rfl) (hK : X.K = K' := by rfl) : DE X (.Call (.Name x p) (e :: es) [] pos) (tCall (spV K' s) [] E0 t) (dCallS s w) := by
  subst hK
  exact ⟨pe_call F hr hg hm hk hb .nil pass0 ha.pa hdb he hpl, se_callS ha.sa⟩
theorem df_call (K' : PySem.W.Frag) {s : SpecD} (F : FnOk X.prog X.w X.K X.mg X.base CX0 k f fd ps (spV K' s)) (hr : Room k X.A) (hm : X.mg x = some (.ref f)) (hk : PySem.W.keepIn X.K (.ref f) = true) (hb : Binds X.K fd ps []) (ha : DA X (e :: es) t w) (hg : Gl X x := by rfl)
    (hdb : (x == ("__debug__" : Str)) = false := by decide) (he : starEach (e :: es) X.env = (false, eval e X.env) :: starEach es X.env := by rfl) (hpl : (backTo pos (starEach es X.env)).any (·.1) = false := by rfl) (hK : X.K = K' := by rfl) : DF X (.Call (.Name x p) (e :: es) [] pos) (tCall (spV K' s) [] E0 t) (dCallF s w) := by
  subst hK
  exact ⟨pe_call F hr hg hm hk hb .nil pass0 ha.pa hdb he hpl, sf_callF ha.sa⟩
/-- a call that draws from the list in slot i -/
def dCallP (i : Nat) (s : SpecP) (w : WA) : WE := fun γ Q => (∃ m pl, γ[i]? = some (.own m pl)) ∧ w γ fun ds γ1 => ∃ m pl, γ1[i]? = some (.own m pl) ∧ s.S pl ds fun r pl' => Q r.val (γ1.set i (.own m pl'))
theorem se_callP {i : Nat} {s : SpecP} {t : TA} {w : WA} (h : SA X t w) : SE X (tCall (spP X.K s) [] E0 (tCons (tVar i) t)) (dCallP i s w) := by
  refine ⟨fun γ P P' k q => ⟨q.1, h.mono γ _ _ (fun ds γ1 ⟨m, pl, e, q⟩ => ⟨m, pl, e, s.mono _ _ _ _ (fun r pl' q => k _ _ q) q⟩) q.2⟩, fun B S H σ γ Q R q => ?_⟩
  obtain ⟨⟨m0, pl0, g0⟩, q⟩ := q
  obtain ⟨p0, xs0, f0, _⟩ := R.sl i _ g0
  refine ⟨_, f0, ?_⟩
  refine h.run B S H σ γ _ R (h.mono γ _ _ (fun ds γ1 ⟨m, pl, g, q⟩ vs S1 H1 R1 e1 d1 => ?_) q)
  show spP X.K s ((.ref p0 :: vs) ++ []) H1 Q E0
  rw [List.append_nil]
  obtain ⟨p, xs, g1, g2, g3, g4, g5⟩ := R1.sl i _ g
  rw [f0] at g1
  cases g1
  have spS : Same (if m = true then B.SP else S1) S1 := by
    obtain ⟨φ, r⟩ := R1.r
    cases m with
    | true => exact r.spS.trans r.grow
    | false => exact Same.refl _
  refine ⟨S1, (if m = true then B.SP else S1), p0, xs, pl, vs, ds, rfl, R1.same, spS, g2, g3, own_old g4 g5, d1, s.mono _ _ _ _ (fun r pl' q v S' H' xs' C k1 k2 k3' rv => ?_) q⟩
  have k3 : DenL (if m = true then B.SP else S') xs' pl' := by
    cases m with
    | true => exact k3'
    | false => exact DenL.mono k3' C.grow
  have R2 := R1.callP g f0 C k1 k2 k3
  cases r with
  | d d => exact q v S' H' R2 (e1.trans C.grow) rv
  | f ds' =>
    obtain ⟨a, ys, rfl, l1, l2, l3, l4⟩ := rv
    have l2' : H1 a = none := l2
    have e6 : Same S' (upd S' a (.lst ys)) := Same.upd (Same.refl S') l1
    exact q (.ref a) _ H' (R1.callPN g f0 C k1 k2 k3 l2' l3 l1).frzF (e1.trans (C.grow.trans e6)) (.ofL upd_same (l4.mono e6))
  | o C' fs =>
    obtain ⟨a, dx, ys, rfl, l1, l2, l3, l4⟩ := rv
    have l2' : H1 a = none := l2
    have e6 : Same S' (upd S' a (.ins C' dx ys)) := Same.upd (Same.refl S') l1
    exact q (.ref a) _ H' (R1.callPN g f0 C k1 k2 k3 l2' l3 l1).frzF (e1.trans (C.grow.trans e6)) (.ofO upd_same (l4.mono e6))
theorem de_callP (K' : PySem.W.Frag) (i : Nat) {s : SpecP} {y : Str} {py : Pos} (F : FnOk X.prog X.w X.K X.mg X.base CX0 k f fd ps (spP K' s)) (hr : Room k X.A) (hm : X.mg x = some (.ref f)) (hk : PySem.W.keepIn X.K (.ref f) = true) (hb : Binds X.K fd ps []) (ha : DA X es t w) (hN : X.N[i]? = some y := by rfl) (hv : Vis X.env.scope y := by first | exact Or.inl rfl | exact Or.inr (Or.inl rfl) | exact Or.inr (Or.inr rfl)) (hd : (y == ("__debug__" : Str)) = false := by decide)
    (hcd : (y == ("__classdict__" : Str)) = false := by decide) (hg : Gl X x := by rfl)
    (hdb : (x == ("__debug__" : Str)) = false := by decide) (he : starEach (.Name y py :: es) X.env = (false, eval (.Name y py) X.env) :: starEach es X.env := by rfl) (hpl : (backTo pos (starEach es X.env)).any (·.1) = false := by rfl) (hK : X.K = K' := by rfl) : DE X (.Call (.Name x p) (.Name y py :: es) [] pos) (tCall (spP K' s) [] E0 (tCons (tVar i) t)) (dCallP i s w) := by
  subst hK
  exact ⟨pe_call F hr hg hm hk hb .nil pass0 (pa_cons (pe_var hN hv hd hcd) ha.pa he) hdb he hpl, se_callP ha.sa⟩
end

/-! ### a def's body to its promise -/
def gam (N : List Str) (ds : List D) : List Sl := ds.map .val ++ List.replicate (N.length - ds.length) .any
section
variable {P : Program} {w : World} {K : PySem.W.Frag} {mg : Str → Option Value} {base : Heap} {x qual : Str} {st : Stmt} {f : Addr} {fd : FuncData} {N ps : List Str} {k : Nat}
theorem gam_may {N : List Str} {ds : List D} {i : Nat} {s : Sl} (h : (gam N ds)[i]? = some s) : s.may = none := by
  unfold gam at h
  by_cases hi : i < ds.length
  · rw [List.getElem?_append_left (by simpa using hi), List.getElem?_map] at h
    rw [List.getElem?_eq_getElem hi] at h
    cases h
    rfl
  · rw [List.getElem?_append_right (by simpa using hi), List.getElem?_replicate] at h
    split at h
    · cases h; rfl
    · cases h
theorem start_rel {H S : Hp} {vs : List V} {ds : List D} (e : Same S H) (hd : DenL S vs ds) : Rel0 K ⟨H, S, [], [], emptyH⟩ S H (L2.start N vs) (gam N ds) := by
  refine ⟨fun _ => emptyH, e, fun a o h _ => h, fun a ha => (by cases ha), Same.refl S, fun a o h => .inl h, ?_, fun i s h => ?_, fun i a o e => (by cases e), fun i a o e => (by cases e), fun i j a o u _ e => (by cases e), fun i a o e => (by cases e), fun p o hp => (by cases hp), List.nodup_nil, fun a o e => (by cases e)⟩
  · unfold L2.start gam
    simp [hd.1]
  · have hm := gam_may h
    unfold gam at h
    by_cases hi : i < ds.length
    · rw [List.getElem?_append_left (by simpa using hi), List.getElem?_map] at h
      obtain ⟨d, hdi⟩ : ∃ d, ds[i]? = some d := ⟨_, List.getElem?_eq_getElem hi⟩
      rw [hdi] at h
      cases h
      obtain ⟨v, hv, dn⟩ := hd.get hdi
      refine ⟨v, ?_, dn⟩
      unfold L2.start
      rw [List.getElem?_append_left (by simpa [hd.1] using hi), List.getElem?_map, hv]
      rfl
    · rw [List.getElem?_append_right (by simpa using hi), List.getElem?_replicate] at h
      split at h
      · cases h; trivial
      · cases h
/-- THE RULE for a def that raises nothing -/
theorem fn_ok {s : SpecD} (F : Fun K x qual st f fd) (Sc : FnScope N ps (defScope st)) (len : ∀ ds Q, s.S ds Q → ds.length = ps.length)
    (hbody : ∀ (cdv : Value) (A : Around) (outer : List Env) (s0 : Shared) (H : Hp) (E : XK), Room k (A.deeper (envOfC qual (defScope st) s0.heap.objs.size f cdv)) →
      ∃ t w', DSs (Xb.of (cxOf CX0 P w K mg base N qual (defScope st) f cdv A outer s0 H E).nox) (defBody st) t w' ∧ ∀ ds Q, s.S ds Q → w' { nx := fun _ => Q (.d .non), rt := fun r _ => Q r } (gam N ds)) : FnOk P w K mg base CX0 (k + 1) f fd ps (spV K s) := by
  refine F.ok Sc (fun vs H Q E h => ?_) (fun cdv A outer s0 H vs Q E hr h => ?_)
  · obtain ⟨S, ds, e, hd, q⟩ := h
    rw [hd.1]
    exact len _ _ q
  · obtain ⟨S, ds, e, hd, q⟩ := h
    obtain ⟨t, w', h1, h2⟩ := hbody cdv A outer s0 H E hr
    refine ⟨t, h1.ps, ?_⟩
    exact h1.ss.run ⟨H, S, [], [], emptyH⟩ S S H (L2.start N vs) (gam N ds) { nx := fun _ => _, rt := fun r _ => _ } _ (Rel0.of (start_rel e hd)) (Same.refl S) ⟨fun S' H' σ' γ' _ R q => q _ _ _ R.nil .non, fun S' H' σ' γ' v r _ R rv q => q v _ _ R.nil rv, fun S' H' σ' γ' _ R q => q.elim, fun S' H' σ' γ' _ R q => q.elim⟩ (h2 ds _ q)
def gamP (N : List Str) (pl ds : List D) : List Sl := .own true pl :: (ds.map .val ++ List.replicate (N.length - (ds.length + 1)) .any)
theorem start_relT {H S SP : Hp} {p : Addr} {o : HO} {s : Sl} {vs : List V} {ds : List D} (e : Same S H) (eP : Same SP S) (h1 : S p = none) (h2 : H p = some o) (hs : SlF K ⟨H, S, [p], [], SP⟩ S (upd emptyH p o) (some (some (.ref p))) s) (hm : s.may = some true) (hd : DenL S vs ds) : Rel0 K ⟨H, S, [p], [], SP⟩ S H (L2.start N (.ref p :: vs)) (s :: (ds.map .val ++ List.replicate (N.length - (ds.length + 1)) .any)) := by
  have es : L2.start N (.ref p :: vs) = some (.ref p) :: (vs.map some ++ List.replicate (N.length - (vs.length + 1)) none) := rfl
  have em : ∀ {j a u}, (if j = 0 then L2.upd emptyH p o else emptyH) a = some u → j = 0 ∧ a = p ∧ u = o := fun {j a u} e => by
    by_cases hj : j = 0
    · rw [if_pos hj] at e
      by_cases ha : a = p
      · subst ha; rw [upd_same] at e; cases e; exact ⟨hj, rfl, rfl⟩
      · rw [upd_ne ha] at e; cases e
    · rw [if_neg hj] at e; cases e
  refine ⟨fun j => if j = 0 then L2.upd emptyH p o else emptyH, e, fun a o h _ => h, fun a ha => ?_, Same.refl S, fun a o h => .inl h, ?_, fun i t h => ?_, fun i a u e => ?_, fun i a u e => ?_, fun i j a u v hij e1 e2 => ?_, fun i a u e => ?_, fun p o hp => (by cases hp), List.nodup_nil, eP⟩
  · have : a = p := List.mem_singleton.mp ha
    subst this
    exact ⟨h1, ⟨_, h2⟩, o, h2⟩
  · rw [es]
    simp [hd.1]
  · rw [es]
    cases i with
    | zero => cases h; exact hs
    | succ i =>
      rw [List.getElem?_cons_succ] at h ⊢
      by_cases hi : i < ds.length
      · rw [List.getElem?_append_left (by simpa using hi), List.getElem?_map] at h
        obtain ⟨d, hdi⟩ : ∃ d, ds[i]? = some d := ⟨_, List.getElem?_eq_getElem hi⟩
        rw [hdi] at h
        cases h
        obtain ⟨v, hv, dn⟩ := hd.get hdi
        refine ⟨v, ?_, dn⟩
        rw [List.getElem?_append_left (by simpa [hd.1] using hi), List.getElem?_map, hv]
        rfl
      · rw [List.getElem?_append_right (by simpa using hi), List.getElem?_replicate] at h
        split at h
        · cases h; trivial
        · cases h
  · obtain ⟨_, z, z'⟩ := em e; subst z z'; exact h2
  · obtain ⟨_, z, z'⟩ := em e; subst z z'; exact h1
  · exact hij ((em e1).1.trans (em e2).1.symm)
  · obtain ⟨z0, z, z'⟩ := em e
    subst z0 z z'
    refine ⟨s, true, rfl, hm, .inl ⟨rfl, ?_⟩⟩
    cases s with
    | hp m L => exact List.mem_singleton.mpr rfl
    | _ => exact rfl
theorem start_relP {H S SP : Hp} {p : Addr} {xs : List V} {pl : List D} {vs : List V} {ds : List D} (e : Same S H) (eP : Same SP S) (h1 : S p = none) (h2 : H p = some (.lst xs)) (h3 : DenL SP xs pl) (hd : DenL S vs ds) : Rel0 K ⟨H, S, [p], [], SP⟩ S H (L2.start N (.ref p :: vs)) (gamP N pl ds) :=
  start_relT e eP h1 h2 (s := .own true pl) ⟨p, xs, rfl, upd_same, h3, fun _ => List.mem_singleton.mpr rfl⟩ rfl hd
/-- THE RULE for a def that draws from a list handed in first -/
theorem fn_okP {s : SpecP} (F : Fun K x qual st f fd) (Sc : FnScope N ps (defScope st)) (len : ∀ pl ds Q, s.S pl ds Q → ds.length + 1 = ps.length)
    (hbody : ∀ (cdv : Value) (A : Around) (outer : List Env) (s0 : Shared) (H : Hp) (E : XK), Room k (A.deeper (envOfC qual (defScope st) s0.heap.objs.size f cdv)) →
      ∃ t w', DSs (Xb.of (cxOf CX0 P w K mg base N qual (defScope st) f cdv A outer s0 H E).nox) (defBody st) t w' ∧ ∀ pl ds Q, s.S pl ds Q → w' { nx := fun γ => ∃ pl', γ[0]? = some (.own true pl') ∧ Q (.d .non) pl', rt := fun r γ => ∃ pl', γ[0]? = some (.own true pl') ∧ Q r pl' } (gamP N pl ds)) : FnOk P w K mg base CX0 (k + 1) f fd ps (spP K s) := by
  refine F.ok Sc (fun vs H Q E h => ?_) (fun cdv A outer s0 H vs Q E hr h => ?_)
  · obtain ⟨S, SP, p, xs, pl, vs', ds, rfl, e, eP, h1, h2, h3, hd, q⟩ := h
    rw [List.length_cons, hd.1]
    exact len _ _ _ q
  · obtain ⟨S, SP, p, xs, pl, vs', ds, rfl, e, eP, h1, h2, h3, hd, q⟩ := h
    obtain ⟨t, w', k1, k2⟩ := hbody cdv A outer s0 H E hr
    refine ⟨t, k1.ps, ?_⟩
    have fin : ∀ {S' H' : Hp} {σ' : L2.St} {γ' : List Sl} {pl' : List D}, Rel0 K ⟨H, S, [p], [], SP⟩ S' H' σ' γ' → γ'[0]? = some (.own true pl') → ∃ xs', S' p = none ∧ H' p = some (.lst xs') ∧ DenL SP xs' pl' := fun {S' H' σ' γ' pl'} R g => by
      obtain ⟨q, ys, f1, f2, f3, f4, f5⟩ := R.sl 0 _ g
      have : q = p := List.mem_singleton.mp (f5 rfl).1
      subst this
      exact ⟨ys, f2, f3, (f5 rfl).2⟩
    exact k1.ss.run ⟨H, S, [p], [], SP⟩ S S H _ (gamP N pl ds) { nx := fun γ => ∃ pl', γ[0]? = some (.own true pl') ∧ _, rt := fun r γ => ∃ pl', γ[0]? = some (.own true pl') ∧ _ } _ (Rel0.of (start_relP e eP h1 h2 h3 hd)) (Same.refl S) ⟨fun S' H' σ' γ' _ R ⟨pl', g, q⟩ => by
        obtain ⟨ys, f2, f3, f4⟩ := fin R.r g
        exact q _ _ _ ys R.nil f2 f3 f4 .non, fun S' H' σ' γ' v r _ R rv ⟨pl', g, q⟩ => by
        obtain ⟨ys, f2, f3, f4⟩ := fin R.r g
        exact q v _ _ ys R.nil f2 f3 f4 rv, fun S' H' σ' γ' _ R q => q.elim, fun S' H' σ' γ' _ R q => q.elim⟩ (k2 pl ds _ q)
end
end DL
set_option Elab.async false
set_option linter.all false
set_option autoImplicit false
set_option maxRecDepth 100000
set_option maxHeartbeats 4000000
/-! DL6: chains, isinstance, list(..), list + list, products. -/
namespace DL
open PySem PySem.Spec PyProof.Rows L2
section
variable {X : Xb} {K : PySem.W.Frag} {a b c e : Expr} {ta tb tc te : TE} {wa wb wc we : WE} {pos p : Pos}
/-! ### a op b op' c -/
def dChain (f f' : D → D → (D → Prop) → Prop) (wa wb wc : WE) : WE := fun γ Q => wa γ fun x γ1 => wb γ1 fun y γ2 => f x y fun z => ∃ k, z = .bl k ∧ if k = true then wc γ2 fun u γ3 => f' y u fun d => Q d γ3 else Q (.bl false) γ2
theorem se_chain {r r' : R2} {f f' : D → D → (D → Prop) → Prop} (ho : OpS r f) (ho' : OpS r' f') (ha : SE X ta wa) (hb : SE X tb wb) (hc : SE X tc wc) : SE X (tChain r r' ta tb tc) (dChain f f' wa wb wc) := by
  refine ⟨fun γ P P' k q => ha.mono γ _ _ (fun x γ1 q => hb.mono γ1 _ _ (fun y γ2 q => ho.mono x y _ _ (fun d ⟨b, e, q⟩ => ⟨b, e, Mo.ite (w := fun γ (Q : D → List Sl → Prop) => wc γ fun u γ3 => f' y u fun d => Q d γ3) (w' := fun γ (Q : D → List Sl → Prop) => Q (D.bl false) γ) (fun γ P P' k q => hc.mono γ _ _ (fun u γ3 q => ho'.mono _ _ _ _ (fun d q => k _ _ q) q) q) (fun _ _ _ k q => k _ _ q) k q⟩) q) q) q, fun B S H σ γ Q R q => ?_⟩
  refine ha.run B S H σ γ _ R (ha.mono γ _ _ (fun x γ1 q v S1 H1 R1 e1 d1 => ?_) q)
  refine hb.run B S1 H1 σ γ1 _ R1 (hb.mono γ1 _ _ (fun y γ2 q u S2 H2 R2 e2 d2 => ?_) q)
  refine ho.run X B S2 H2 σ γ2 _ v u x y R2 (d1.mono e2) d2 (ho.mono _ _ _ _ (fun d ⟨b, eb, q⟩ z S3 H3 R3 e3 d3 => ?_) q)
  subst eb
  cases d3
  refine ⟨b, rfl, ?_⟩
  cases b with
  | false => exact q _ S3 H3 R3 (e1.trans (e2.trans e3)) (.bl _)
  | true =>
    refine hc.run B S3 H3 σ γ2 _ R3 (hc.mono γ2 _ _ (fun t γ3 q z S4 H4 R4 e4 d4 => ?_) q)
    exact ho'.run X B S4 H4 σ γ3 Q u z y t R4 ((d2.mono e3).mono e4) d4 (ho'.mono _ _ _ _ (fun d q z' S' H' R' e' d' => q z' S' H' R' ((e1.trans (e2.trans e3)).trans (e4.trans e')) d') q)
theorem dt_chain {op op' : CmpOp} {r r' : R2} {f f' : D → D → (D → Prop) → Prop} (h : OpR X (compareOp op) r) (ho : OpS r f) (h' : OpR X (compareOp op') r') (ho' : OpS r' f') (ha : DE X a ta wa) (hb : DE X b tb wb) (hc : DE X c tc wc) (hm : lastMarks [op, op'] [b, c] = false := by with_unfolding_all rfl) :
    DT X (.Compare a [op, op'] [b, c] pos) (tTest (tChain r r' ta tb tc)) (dB (dChain f f' wa wb wc)) := ⟨pt_chain h h' ha.pe hb.pe hc.pe hm, st_test (se_chain ho ho' ha.se hb.se hc.se)⟩
def fLt := dI0 fun i j => .bl (decide (i < j))
def fLe := dI0 fun i j => .bl (decide (i ≤ j))
theorem ops_le : OpS (rI0 fun i j => .bl (decide (i ≤ j))) fLe := ops_I0 fun _ _ _ => .bl _

/-! ### products of any ints that the machine takes -/
theorem op_mulK : OpR X (binaryOp .Mult) (rI IntMulOk fun i j => .int (i * j)) := opI fun _ _ _ _ _ _ _ hc q => mul_int q hc
abbrev dMulK := dOp (dI IntMulOk fun i j => .int (i * j))
theorem de_mulK (ha : DE X a ta wa) (hb : DE X b tb wb) : DE X (.BinOp a .Mult b pos) (tOp (rI IntMulOk fun i j => .int (i * j)) ta tb) (dMulK wa wb) := de_op op_mulK (ops_I fun _ _ _ => .int _) ha hb

/-! ### isinstance -/
/-- what is asked of an own class of the text (no class stands under it) -/
structure OwnCls (K : PySem.W.Frag) (C : Addr) : Prop where
  cl : Cls K C
  ha : PySem.W.findIn K (.ref C) "__class__" = some (some (.builtin "object.__class__"))
  hn : PySem.W.specialIn K (.builtin "object.__class__") "__get__" = some (some (.builtin "getset_descriptor.__get__"))
  htk : PySem.W.takesIn K (.builtin "object.__class__") = some true
  hm : PySem.W.mroIn K C (.type "object") = some true
  no : ∀ T ∈ tysD, PySem.W.kitOne K (.ref C) (.type T) = some false
  is : PySem.W.kitOne K (.ref C) (.ref C) = some true
  ty : ∀ T ∈ tysD, PySem.W.kitOne K (.type T) (.ref C) = some false
def tyD : D → String
  | .non => "NoneType" | .bl _ => "bool" | .int _ => "int" | .str _ => "str" | .lst _ => "list" | .tup _ => "tuple" | .obj _ _ => "object" | .emp => "dict" | .ref _ => "dict"
def tyV : D → Value
  | .obj C _ => .ref C
  | d => .type (tyD d)
/-- the datum's class is known -/
def okC (K : PySem.W.Frag) : D → Prop
  | .obj C _ => OwnCls K C
  | .ref _ => False
  | _ => True
theorem den_ty {S H : Hp} {v : V} {d : D} (h : Den S v d) (e : Same S H) (ok : okC K d) : TyX K H v (tyV d) := by
  cases h with
  | non => exact .base .non
  | bl b => exact .base (.bl b)
  | int i => exact .base (.int i)
  | str s => exact .base (.str s)
  | lst h hl hs => exact .base (.lst (e _ _ h))
  | tup h hl hs => exact .base (.tup (e _ _ h))
  | obj h hl hn hs => exact .base (.ins (e _ _ h) ok.cl ok.ha ok.hn ok.htk ok.hm)
  | emp h => exact .base (.dK (e _ _ h))
  | ref p => exact ok.elim
def isB : D → Bool | .bl _ => true | _ => false
def isI : D → Bool | .bl _ => true | .int _ => true | _ => false
def isS : D → Bool | .str _ => true | _ => false
def isL : D → Bool | .lst _ => true | _ => false
def isU : D → Bool | .tup _ => true | _ => false
def isO (C : Addr) : D → Bool | .obj C' _ => C' == C | _ => false
theorem kit_B : ∀ d, okC K d → PySem.W.kitOne K (tyV d) (.type "bool") = some (isB d)
  | .non, _ => kit_ty (by show kitB "NoneType" "bool" = some false; decide +kernel)
  | .bl _, _ => kit_ty (by show kitB "bool" "bool" = some true; decide +kernel)
  | .int _, _ => kit_ty (by show kitB "int" "bool" = some false; decide +kernel)
  | .str _, _ => kit_ty (by show kitB "str" "bool" = some false; decide +kernel)
  | .lst _, _ => kit_ty (by show kitB "list" "bool" = some false; decide +kernel)
  | .tup _, _ => kit_ty (by show kitB "tuple" "bool" = some false; decide +kernel)
  | .emp, _ => kit_ty (by show kitB "dict" "bool" = some false; decide +kernel)
  | .obj C _, ok => ok.no _ (by decide)
  | .ref _, ok => ok.elim
theorem kit_I : ∀ d, okC K d → PySem.W.kitOne K (tyV d) (.type "int") = some (isI d)
  | .non, _ => kit_ty (by show kitB "NoneType" "int" = some false; decide +kernel)
  | .bl _, _ => kit_ty (by show kitB "bool" "int" = some true; decide +kernel)
  | .int _, _ => kit_ty (by show kitB "int" "int" = some true; decide +kernel)
  | .str _, _ => kit_ty (by show kitB "str" "int" = some false; decide +kernel)
  | .lst _, _ => kit_ty (by show kitB "list" "int" = some false; decide +kernel)
  | .tup _, _ => kit_ty (by show kitB "tuple" "int" = some false; decide +kernel)
  | .emp, _ => kit_ty (by show kitB "dict" "int" = some false; decide +kernel)
  | .obj C _, ok => ok.no _ (by decide)
  | .ref _, ok => ok.elim
theorem kit_L : ∀ d, okC K d → PySem.W.kitOne K (tyV d) (.type "list") = some (isL d)
  | .non, _ => kit_ty (by show kitB "NoneType" "list" = some false; decide +kernel)
  | .bl _, _ => kit_ty (by show kitB "bool" "list" = some false; decide +kernel)
  | .int _, _ => kit_ty (by show kitB "int" "list" = some false; decide +kernel)
  | .str _, _ => kit_ty (by show kitB "str" "list" = some false; decide +kernel)
  | .lst _, _ => kit_ty (by show kitB "list" "list" = some true; decide +kernel)
  | .tup _, _ => kit_ty (by show kitB "tuple" "list" = some false; decide +kernel)
  | .emp, _ => kit_ty (by show kitB "dict" "list" = some false; decide +kernel)
  | .obj C _, ok => ok.no _ (by decide)
  | .ref _, ok => ok.elim
/-- of an own class -/
theorem kit_O {C : Addr} (O : OwnCls K C) : ∀ d, (∀ C' fs, d = .obj C' fs → C' = C) → PySem.W.kitOne K (tyV d) (.ref C) = some (isO C d)
  | .non, _ => O.ty "NoneType" (by decide)
  | .bl _, _ => O.ty "bool" (by decide)
  | .int _, _ => O.ty "int" (by decide)
  | .str _, _ => O.ty "str" (by decide)
  | .lst _, _ => O.ty "list" (by decide)
  | .tup _, _ => O.ty "tuple" (by decide)
  | .emp, _ => O.ty "dict" (by decide)
  | .ref _, _ => O.ty "dict" (by decide)
  | .obj C' _, h => by
    have e := h C' _ rfl
    subst e
    show PySem.W.kitOne K (.ref C') (.ref C') = some (C' == C')
    rw [beq_self_eq_true]
    exact O.is
def dIsi (K : PySem.W.Frag) (g : D → Bool) (wa : WE) : WE := fun γ Q => wa γ fun x γ1 => okC K x ∧ Q (.bl (g x)) γ1
theorem de_isi (K' : PySem.W.Frag) {T : String} {y : Str} {py : Pos} {g : D → Bool} (hk : ∀ d, okC K' d → PySem.W.kitOne K' (tyV d) (.type T) = some (g d)) (hm : X.mg "isinstance" = none) (hmt : X.mg y = none) (hvt : bootBuiltins y = some (.type T)) (ha : DE X a ta wa) (hg : Gl X "isinstance" := by rfl) (hgt : Gl X y := by rfl) (hn : y ≠ "__name__" := by decide) (hdb : (y == ("__debug__" : Str)) = false := by decide)
    (he : starEach (a :: [.Name y py]) X.env = (false, eval a X.env) :: starEach [.Name y py] X.env := by rfl) (hK : X.K = K' := by rfl) : DE X (.Call (.Name "isinstance" p) [a, .Name y py] [] pos) (tCB (rIsi K') (tCons ta (tCons (tC (.ty T)) tNil))) (dIsi K' g wa) := by
  subst hK
  refine ⟨pe_callB call_isi hg hm (by decide +kernel) (pa_cons ha.pe (pa_cons (pe_bltn hgt hmt hvt rfl hn hdb) pa_nil) he) (by decide) (by decide) he, fun γ P P' k q => ha.se.mono γ _ _ (fun x γ1 q => ⟨q.1, k _ _ q.2⟩) q, fun B S H σ γ Q R q => ?_⟩
  refine ha.se.run B S H σ γ _ R (ha.se.mono γ _ _ (fun x γ1 ⟨ok, q⟩ v S1 H1 R1 e1 d1 => ?_) q)
  exact ⟨v, .ty T, _, _, g x, rfl, .ty T, den_ty d1 R1.same ok, hk x ok, q _ S1 H1 R1 e1 (.bl _)⟩
/-- isinstance(x, C), C an own class -/
def dIsO (K : PySem.W.Frag) (C : Addr) (wa : WE) : WE := fun γ Q => wa γ fun x γ1 => okC K x ∧ (∀ C' fs, x = .obj C' fs → C' = C) ∧ Q (.bl (isO C x)) γ1
theorem de_isO (K' : PySem.W.Frag) {C : Addr} {y : Str} {py : Pos} (O : OwnCls K' C) (hm : X.mg "isinstance" = none) (hmt : X.mg y = some (.ref C)) (ha : DE X a ta wa) (hg : Gl X "isinstance" := by rfl) (hgt : Gl X y := by rfl) (hdb : (y == ("__debug__" : Str)) = false := by decide)
    (he : starEach (a :: [.Name y py]) X.env = (false, eval a X.env) :: starEach [.Name y py] X.env := by rfl) (hK : X.K = K' := by rfl) : DE X (.Call (.Name "isinstance" p) [a, .Name y py] [] pos) (tCB (rIsi K') (tCons ta (tCons (tC (.ref C)) tNil))) (dIsO K' C wa) := by
  subst hK
  refine ⟨pe_callB call_isi hg hm (by decide +kernel) (pa_cons ha.pe (pa_cons (pe_glob hgt hmt rfl hdb) pa_nil) he) (by decide) (by decide) he, fun γ P P' k q => ha.se.mono γ _ _ (fun x γ1 q => ⟨q.1, q.2.1, k _ _ q.2.2⟩) q, fun B S H σ γ Q R q => ?_⟩
  refine ha.se.run B S H σ γ _ R (ha.se.mono γ _ _ (fun x γ1 ⟨ok, h1, q⟩ v S1 H1 R1 e1 d1 => ?_) q)
  exact ⟨v, .ref C, _, _, isO C x, rfl, .own C, den_ty d1 R1.same ok, kit_O O x h1, q _ S1 H1 R1 e1 (.bl _)⟩

/-! ### list(x), list + list -/
def dListOf (wa : WE) : WF := fun γ Q => wa γ fun x γ1 => ∃ ds, (x = .lst ds ∨ x = .tup ds) ∧ Q ds γ1
theorem df_list (K' : PySem.W.Frag) (hm : X.mg "list" = none) (ha : DE X a ta wa) (hg : Gl X "list" := by rfl) (he : starEach (a :: []) X.env = (false, eval a X.env) :: starEach [] X.env := by rfl) (hK : X.K = K' := by rfl) : DF X (.Call (.Name "list" p) [a] [] pos) (tCB (fun xs H Q => ∃ p ys, xs = [.ref p] ∧ (SqL K' H p ys ∨ SqT K' H p ys) ∧ ∀ l, H l = none → Q (.ref l) (upd H l (.lst ys))) (tCons ta tNil)) (dListOf wa) := by
  subst hK
  refine ⟨pe_callTy call_list_of hg hm (by decide +kernel) (pa_cons ha.pe pa_nil he) (by decide) (by decide) he, fun γ P P' k q => ha.se.mono γ _ _ (fun x γ1 ⟨ds, e, q⟩ => ⟨ds, e, k _ _ q⟩) q, fun B S H σ γ Q R q => ?_⟩
  refine ha.se.run B S H σ γ _ R (ha.se.mono γ _ _ (fun x γ1 ⟨ds, e, q⟩ v S1 H1 R1 e1 d1 => ?_) q)
  rcases e with e | e
  · subst e
    obtain ⟨a, xs, rfl, g2, g3⟩ := d1.lst_inv
    exact ⟨a, xs, rfl, .inl (SqL.of (R1.same _ _ g2)), fun l hl => q l xs S1 _ (R1.newF hl) e1 g3⟩
  · subst e
    obtain ⟨a, xs, rfl, g2, g3⟩ := d1.tup_inv
    exact ⟨a, xs, rfl, .inr (SqT.of (R1.same _ _ g2)), fun l hl => q l xs S1 _ (R1.newF hl) e1 g3⟩
def dCat (wa wb : WE) : WF := fun γ Q => wa γ fun x γ1 => wb γ1 fun y γ2 => ∃ ds es, x = .lst ds ∧ y = .lst es ∧ ds.length + es.length ≤ sizeLine ∧ Q (ds ++ es) γ2
theorem df_cat (ha : DE X a ta wa) (hb : DE X b tb wb) : DF X (.BinOp a .Add b pos) (tOp rCat ta tb) (dCat wa wb) := by
  refine ⟨pe_op op_cat ha.pe hb.pe, fun γ P P' k q => ha.se.mono γ _ _ (fun x γ1 q => hb.se.mono γ1 _ _ (fun y γ2 ⟨ds, es, e1, e2, hz, q⟩ => ⟨ds, es, e1, e2, hz, k _ _ q⟩) q) q, fun B S H σ γ Q R q => ?_⟩
  refine ha.se.run B S H σ γ _ R (ha.se.mono γ _ _ (fun x γ1 q1 v S1 H1 R1 e1 d1 => ?_) q)
  refine hb.se.run B S1 H1 σ γ1 _ R1 (hb.se.mono γ1 _ _ (fun y γ2 ⟨ds, es, f1, f2, hz, q2⟩ u S2 H2 R2 e2 d2 => ?_) q1)
  clear q1
  subst f1 f2
  obtain ⟨l, xs, rfl, g2, g3⟩ := d1.lst_inv
  obtain ⟨m, ys, rfl, h2, h3⟩ := d2.lst_inv
  exact ⟨l, m, xs, ys, rfl, rfl, R2.same _ _ (e2 _ _ g2), R2.same _ _ h2, by rw [g3.1, h3.1]; exact hz, fun p hp => q2 p _ S2 _ (R2.newF hp) (e1.trans e2) ((g3.mono e2).append h3)⟩
end
/-- a def of the text: where it stands -/
structure Gf (K : PySem.W.Frag) (mg : Str → Option Value) (x : Str) (st : Stmt) (ps : List Str) : Type where
  f : Addr
  fd : FuncData
  F : Fun K x x st f fd
  g : mg x = some (.ref f)
  b : Binds K fd ps []
end DL
set_option Elab.async false
set_option linter.all false
set_option autoImplicit false
set_option maxRecDepth 100000
set_option maxHeartbeats 4000000
/-! DL7: steps for what is wanted over data. -/
namespace DL
/-- one step back, found by the goal's form -/
class Go (P : Prop) (Q : outParam Prop) : Prop where
  go : Q → P
open PySem PySem.Spec PyProof.Rows L2
def beqB : Bool → Bool → Bool
  | true, c => c
  | false, c => !c
theorem truD_n  : truD .non = (false) := rfl
theorem truD_b (b : Bool) : truD (.bl b) = (b) := rfl
theorem truD_i (i : Int) : truD (.int i) = (i != 0) := rfl
theorem truD_s (s : Str) : truD (.str s) = ((s.length : Int) != 0) := rfl
theorem truD_l (ds : List D) : truD (.lst ds) = (!ds.isEmpty) := rfl
theorem truD_t (ds : List D) : truD (.tup ds) = (!ds.isEmpty) := rfl
theorem isB_o (C : Addr) (fs : List (Str × D)) : isB (.obj C fs) = false := rfl
theorem isB_e : isB .emp = false := rfl
theorem isI_o (C : Addr) (fs : List (Str × D)) : isI (.obj C fs) = false := rfl
theorem isI_e : isI .emp = false := rfl
theorem isS_o (C : Addr) (fs : List (Str × D)) : isS (.obj C fs) = false := rfl
theorem isS_e : isS .emp = false := rfl
theorem isL_o (C : Addr) (fs : List (Str × D)) : isL (.obj C fs) = false := rfl
theorem isL_e : isL .emp = false := rfl
theorem isU_o (C : Addr) (fs : List (Str × D)) : isU (.obj C fs) = false := rfl
theorem isU_e : isU .emp = false := rfl
theorem isB_n  : isB .non = false := rfl
theorem isB_b (b : Bool) : isB (.bl b) = true := rfl
theorem isB_i (i : Int) : isB (.int i) = false := rfl
theorem isB_s (s : Str) : isB (.str s) = false := rfl
theorem isB_l (ds : List D) : isB (.lst ds) = false := rfl
theorem isB_t (ds : List D) : isB (.tup ds) = false := rfl
theorem isI_n  : isI .non = false := rfl
theorem isI_b (b : Bool) : isI (.bl b) = true := rfl
theorem isI_i (i : Int) : isI (.int i) = true := rfl
theorem isI_s (s : Str) : isI (.str s) = false := rfl
theorem isI_l (ds : List D) : isI (.lst ds) = false := rfl
theorem isI_t (ds : List D) : isI (.tup ds) = false := rfl
theorem isS_n  : isS .non = false := rfl
theorem isS_b (b : Bool) : isS (.bl b) = false := rfl
theorem isS_i (i : Int) : isS (.int i) = false := rfl
theorem isS_s (s : Str) : isS (.str s) = true := rfl
theorem isS_l (ds : List D) : isS (.lst ds) = false := rfl
theorem isS_t (ds : List D) : isS (.tup ds) = false := rfl
theorem isL_n  : isL .non = false := rfl
theorem isL_b (b : Bool) : isL (.bl b) = false := rfl
theorem isL_i (i : Int) : isL (.int i) = false := rfl
theorem isL_s (s : Str) : isL (.str s) = false := rfl
theorem isL_l (ds : List D) : isL (.lst ds) = true := rfl
theorem isL_t (ds : List D) : isL (.tup ds) = false := rfl
theorem isU_n  : isU .non = false := rfl
theorem isU_b (b : Bool) : isU (.bl b) = false := rfl
theorem isU_i (i : Int) : isU (.int i) = false := rfl
theorem isU_s (s : Str) : isU (.str s) = false := rfl
theorem isU_l (ds : List D) : isU (.lst ds) = false := rfl
theorem isU_t (ds : List D) : isU (.tup ds) = true := rfl
theorem beqB_t (c : Bool) : beqB true c = c := rfl
theorem beqB_f (c : Bool) : beqB false c = !c := rfl
theorem val_d (x : D) : (Rv.d x).val = x := rfl
theorem val_f (xs : List D) : (Rv.f xs).val = .lst xs := rfl
theorem not_t : (!true) = false := rfl
theorem not_f : (!false) = true := rfl
theorem or_t (b : Bool) : (true || b) = true := rfl
theorem or_f (b : Bool) : (false || b) = b := rfl
section
variable {γ γ1 : List Sl} {Q : D → List Sl → Prop} {QF : List D → List Sl → Prop} {QT : Bool → List Sl → Prop} {QA : List D → List Sl → Prop} {QO : Option Int → List Sl → Prop} {wa wb wc we : WE} {wf : WF} {w w' : WS} {wt : WT} {wA : WA} {Dd : EndsD} {i j : Nat} {d : D} {ds es : List D} {m n : Int} {R : D → Prop} {b : Bool}
theorem i_var (h : γ[i]? = some (.val d)) (q : Q d γ) : dVar i γ Q := .inl ⟨d, h, q⟩
theorem i_c (q : Q d γ) : dC d γ Q := q
instance : Go (dC d γ Q) (Q d γ) := ⟨fun z => i_c z⟩
theorem i_v (q : wf γ fun ds γ' => Q (.lst ds) γ') : dV wf γ Q := q
instance : Go (dV wf γ Q) (wf γ fun ds γ' => Q (.lst ds) γ') := ⟨fun z => i_v z⟩
theorem i_op {f : D → D → (D → Prop) → Prop} (q : wa γ fun x γ1 => wb γ1 fun y γ2 => f x y fun d => Q d γ2) : dOp f wa wb γ Q := q
instance {f : D → D → (D → Prop) → Prop} : Go (dOp f wa wb γ Q) (wa γ fun x γ1 => wb γ1 fun y γ2 => f x y fun d => Q d γ2) := ⟨fun z => i_op z⟩
theorem i_I {C : Int → Int → Prop} {g : Int → Int → D} (c : C m n) (q : R (g m n)) : dI C g (.int m) (.int n) R := ⟨m, n, rfl, rfl, c, q⟩
theorem i_I0 {g : Int → Int → D} (q : R (g m n)) : dI0 g (.int m) (.int n) R := ⟨m, n, rfl, rfl, q⟩
theorem i_add (q : R (.int (m + n))) : dI0 (fun i j => .int (i + j)) (.int m) (.int n) R := i_I0 q
instance : Go (dI0 (fun i j => .int (i + j)) (.int m) (.int n) R) (R (.int (m + n))) := ⟨fun z => i_add z⟩
theorem i_sub (q : R (.int (m - n))) : dI0 (fun i j => .int (i - j)) (.int m) (.int n) R := i_I0 q
instance : Go (dI0 (fun i j => .int (i - j)) (.int m) (.int n) R) (R (.int (m - n))) := ⟨fun z => i_sub z⟩
theorem i_lt (q : R (.bl (decide (m < n)))) : dI0 (fun i j => .bl (decide (i < j))) (.int m) (.int n) R := i_I0 q
instance : Go (dI0 (fun i j => .bl (decide (i < j))) (.int m) (.int n) R) (R (.bl (decide (m < n)))) := ⟨fun z => i_lt z⟩
theorem i_le (q : R (.bl (decide (m ≤ n)))) : dI0 (fun i j => .bl (decide (i ≤ j))) (.int m) (.int n) R := i_I0 q
instance : Go (dI0 (fun i j => .bl (decide (i ≤ j))) (.int m) (.int n) R) (R (.bl (decide (m ≤ n)))) := ⟨fun z => i_le z⟩
theorem i_gt (q : R (.bl (decide (n < m)))) : dI0 (fun i j => .bl (decide (j < i))) (.int m) (.int n) R := i_I0 q
instance : Go (dI0 (fun i j => .bl (decide (j < i))) (.int m) (.int n) R) (R (.bl (decide (n < m)))) := ⟨fun z => i_gt z⟩
theorem i_ge (q : R (.bl (decide (n ≤ m)))) : dI0 (fun i j => .bl (decide (j ≤ i))) (.int m) (.int n) R := i_I0 q
instance : Go (dI0 (fun i j => .bl (decide (j ≤ i))) (.int m) (.int n) R) (R (.bl (decide (n ≤ m)))) := ⟨fun z => i_ge z⟩
theorem i_mul (c : IntMulOk m n) (q : R (.int (m * n))) : dI IntMulOk (fun i j => .int (i * j)) (.int m) (.int n) R := i_I c q
theorem i_mod (c : 0 < n) (q : R (.int (m % n))) : dI (fun _ j => 0 < j) (fun i j => .int (i % j)) (.int m) (.int n) R := i_I c q
theorem i_fdv (c : CDivW m n) (q : R (.int (m / n))) : dI CDivW (fun i j => .int (i / j)) (.int m) (.int n) R := i_I c q
theorem i_pow (c : CPow m n) (q : R (.int (m ^ n.toNat))) : dI CPow (fun i j => .int (i ^ j.toNat)) (.int m) (.int n) R := i_I c q
theorem mulL (h : -18446744073709551616 < m ∧ m < 18446744073709551616) : IntMulOk m n := CMul.ok (.inl ⟨by omega, by omega⟩)
theorem mulR (h : -18446744073709551616 < n ∧ n < 18446744073709551616) : IntMulOk m n := CMul.ok (.inr ⟨by omega, by omega⟩)
theorem divS (h : 0 < n ∧ n < 18446744073709551616) : CDivW m n := by
  refine ⟨h.1, ?_⟩
  have e : n.natAbs < 2 ^ 64 := by omega
  have := (Nat.log2_lt (n := n.natAbs) (k := 64) (by omega)).mpr e
  omega
theorem i_chain {f f' : D → D → (D → Prop) → Prop} (q : wa γ fun x γ1 => wb γ1 fun y γ2 => f x y fun z => ∃ k, z = .bl k ∧ if k = true then wc γ2 fun u γ3 => f' y u fun d => Q d γ3 else Q (.bl false) γ2) : dChain f f' wa wb wc γ Q := q
instance {f f' : D → D → (D → Prop) → Prop} : Go (dChain f f' wa wb wc γ Q) (wa γ fun x γ1 => wb γ1 fun y γ2 => f x y fun z => ∃ k, z = .bl k ∧ if k = true then wc γ2 fun u γ3 => f' y u fun d => Q d γ3 else Q (.bl false) γ2) := ⟨fun z => i_chain z⟩
theorem i_lt' (q : R (.bl (decide (m < n)))) : fLt (.int m) (.int n) R := i_I0 q
theorem i_le' (q : R (.bl (decide (m ≤ n)))) : fLe (.int m) (.int n) R := i_I0 q
theorem i_eqI (q : R (.bl (decide (m = n)))) : dSc false (.int m) (.int n) R := ⟨.int m, .int n, rfl, rfl, rfl, by
  have e : decide (V.int m = V.int n) = decide (m = n) := by
    by_cases h : m = n
    · rw [decide_eq_true h, decide_eq_true (congrArg V.int h)]
    · rw [decide_eq_false h, decide_eq_false (fun z => h (V.int.inj z))]
  rw [e]; exact q⟩
instance : Go (dSc false (.int m) (.int n) R) (R (.bl (decide (m = n)))) := ⟨fun z => i_eqI z⟩
theorem i_neI (q : R (.bl (!decide (m = n)))) : dSc true (.int m) (.int n) R := ⟨.int m, .int n, rfl, rfl, rfl, by
  have e : decide (V.int m = V.int n) = decide (m = n) := by
    by_cases h : m = n
    · rw [decide_eq_true h, decide_eq_true (congrArg V.int h)]
    · rw [decide_eq_false h, decide_eq_false (fun z => h (V.int.inj z))]
  rw [e]; exact q⟩
instance : Go (dSc true (.int m) (.int n) R) (R (.bl (!decide (m = n)))) := ⟨fun z => i_neI z⟩
theorem i_eqB {c : Bool} (q : R (.bl (beqB b c))) : dSc false (.bl b) (.bl c) R := ⟨.bl b, .bl c, rfl, rfl, rfl, by
  have e : decide (V.bl b = V.bl c) = beqB b c := by cases b <;> cases c <;> rfl
  rw [e]; exact q⟩
instance {c : Bool} : Go (dSc false (.bl b) (.bl c) R) (R (.bl (beqB b c))) := ⟨fun z => i_eqB z⟩
theorem i_neB {c : Bool} (q : R (.bl (!beqB b c))) : dSc true (.bl b) (.bl c) R := ⟨.bl b, .bl c, rfl, rfl, rfl, by
  have e : decide (V.bl b = V.bl c) = beqB b c := by cases b <;> cases c <;> rfl
  rw [e]; exact q⟩
instance {c : Bool} : Go (dSc true (.bl b) (.bl c) R) (R (.bl (!beqB b c))) := ⟨fun z => i_neB z⟩
theorem i_eqS {s t : Str} (q : R (.bl (decide (s = t)))) : dSc false (.str s) (.str t) R := ⟨.str s, .str t, rfl, rfl, rfl, by
  have e : decide (V.str s = V.str t) = decide (s = t) := by
    by_cases h : s = t
    · rw [decide_eq_true h, decide_eq_true (congrArg V.str h)]
    · rw [decide_eq_false h, decide_eq_false (fun z => h (V.str.inj z))]
  rw [e]; exact q⟩
instance {s t : Str} : Go (dSc false (.str s) (.str t) R) (R (.bl (decide (s = t)))) := ⟨fun z => i_eqS z⟩
theorem i_isN {x : D} (q : R (.bl (match x with | .non => true | _ => false))) : dIsN false x .non R := ⟨rfl, q⟩
instance {x : D} : Go (dIsN false x .non R) (R (.bl (match x with | .non => true | _ => false))) := ⟨fun z => i_isN z⟩
theorem i_notN {x : D} (q : R (.bl (match x with | .non => false | _ => true))) : dIsN true x .non R := ⟨rfl, q⟩
instance {x : D} : Go (dIsN true x .non R) (R (.bl (match x with | .non => false | _ => true))) := ⟨fun z => i_notN z⟩
theorem i_neg (q : wa γ fun x γ1 => ∃ i, x = .int i ∧ Q (.int (-i)) γ1) : dNeg wa γ Q := q
instance : Go (dNeg wa γ Q) (wa γ fun x γ1 => ∃ i, x = .int i ∧ Q (.int (-i)) γ1) := ⟨fun z => i_neg z⟩
theorem i_tr (q : wa γ fun x γ1 => okT x ∧ QT (truD x) γ1) : dTr wa γ QT := q
instance : Go (dTr wa γ QT) (wa γ fun x γ1 => okT x ∧ QT (truD x) γ1) := ⟨fun z => i_tr z⟩
theorem i_B (q : wa γ fun x γ1 => ∃ b, x = .bl b ∧ QT b γ1) : dB wa γ QT := q
instance : Go (dB wa γ QT) (wa γ fun x γ1 => ∃ b, x = .bl b ∧ QT b γ1) := ⟨fun z => i_B z⟩
theorem i_bl {P : Bool → Prop} (q : P b) : ∃ c, D.bl b = .bl c ∧ P c := ⟨b, rfl, q⟩
instance {P : Bool → Prop} : Go (∃ c, D.bl b = .bl c ∧ P c) (P b) := ⟨fun z => i_bl z⟩
theorem i_int {P : Int → Prop} (q : P n) : ∃ c, D.int n = .int c ∧ P c := ⟨n, rfl, q⟩
instance {P : Int → Prop} : Go (∃ c, D.int n = .int c ∧ P c) (P n) := ⟨fun z => i_int z⟩
theorem i_lst {P : List D → Prop} (q : P ds) : ∃ c, D.lst ds = .lst c ∧ P c := ⟨ds, rfl, q⟩
instance {P : List D → Prop} : Go (∃ c, D.lst ds = .lst c ∧ P c) (P ds) := ⟨fun z => i_lst z⟩
theorem i_tup {P : List D → Prop} (q : P ds) : ∃ c, D.tup ds = .tup c ∧ P c := ⟨ds, rfl, q⟩
instance {P : List D → Prop} : Go (∃ c, D.tup ds = .tup c ∧ P c) (P ds) := ⟨fun z => i_tup z⟩
theorem i_okb {P : Prop} (q : P) : okT (.bl b) ∧ P := ⟨trivial, q⟩
instance {P : Prop} : Go (okT (.bl b) ∧ P) (P) := ⟨fun z => i_okb z⟩
theorem i_oki {P : Prop} (q : P) : okT (.int n) ∧ P := ⟨trivial, q⟩
instance {P : Prop} : Go (okT (.int n) ∧ P) (P) := ⟨fun z => i_oki z⟩
theorem i_okl {P : Prop} (q : P) : okT (.lst ds) ∧ P := ⟨trivial, q⟩
instance {P : Prop} : Go (okT (.lst ds) ∧ P) (P) := ⟨fun z => i_okl z⟩
theorem i_oku {P : Prop} (q : P) : okT (.tup ds) ∧ P := ⟨trivial, q⟩
instance {P : Prop} : Go (okT (.tup ds) ∧ P) (P) := ⟨fun z => i_oku z⟩
theorem i_okn {P : Prop} (q : P) : okT .non ∧ P := ⟨trivial, q⟩
instance {P : Prop} : Go (okT .non ∧ P) (P) := ⟨fun z => i_okn z⟩
variable {wt' : WT}
theorem i_and (q : wt γ fun c γ1 => if c = true then wt' γ1 QT else QT false γ1) : dAnd wt wt' γ QT := q
instance : Go (dAnd wt wt' γ QT) (wt γ fun c γ1 => if c = true then wt' γ1 QT else QT false γ1) := ⟨fun z => i_and z⟩
theorem i_or (q : wt γ fun c γ1 => if c = true then QT true γ1 else wt' γ1 QT) : dOr wt wt' γ QT := q
instance : Go (dOr wt wt' γ QT) (wt γ fun c γ1 => if c = true then QT true γ1 else wt' γ1 QT) := ⟨fun z => i_or z⟩
theorem i_not (q : wt γ fun c γ1 => QT (!c) γ1) : dNot wt γ QT := q
instance : Go (dNot wt γ QT) (wt γ fun c γ1 => QT (!c) γ1) := ⟨fun z => i_not z⟩
theorem i_andV (q : wa γ fun x γ1 => ∃ c, x = .bl c ∧ if c = true then wb γ1 Q else Q (.bl false) γ1) : dAndV wa wb γ Q := q
instance : Go (dAndV wa wb γ Q) (wa γ fun x γ1 => ∃ c, x = .bl c ∧ if c = true then wb γ1 Q else Q (.bl false) γ1) := ⟨fun z => i_andV z⟩
theorem i_orV (q : wa γ fun x γ1 => ∃ c, x = .bl c ∧ if c = true then Q (.bl true) γ1 else wb γ1 Q) : dOrV wa wb γ Q := q
instance : Go (dOrV wa wb γ Q) (wa γ fun x γ1 => ∃ c, x = .bl c ∧ if c = true then Q (.bl true) γ1 else wb γ1 Q) := ⟨fun z => i_orV z⟩
theorem i_notV (q : wa γ fun x γ1 => ∃ c, x = .bl c ∧ Q (.bl (!c)) γ1) : dNotV wa γ Q := q
instance : Go (dNotV wa γ Q) (wa γ fun x γ1 => ∃ c, x = .bl c ∧ Q (.bl (!c)) γ1) := ⟨fun z => i_notV z⟩
theorem i_ifE (q : wt γ fun c γ1 => if c = true then wa γ1 Q else wb γ1 Q) : dIfE wt wa wb γ Q := q
instance : Go (dIfE wt wa wb γ Q) (wt γ fun c γ1 => if c = true then wa γ1 Q else wb γ1 Q) := ⟨fun z => i_ifE z⟩
theorem i_nil (q : QA [] γ) : dNil γ QA := q
instance : Go (dNil γ QA) (QA [] γ) := ⟨fun z => i_nil z⟩
theorem i_cons (q : we γ fun x γ1 => wA γ1 fun ds γ2 => QA (x :: ds) γ2) : dCons we wA γ QA := q
instance : Go (dCons we wA γ QA) (we γ fun x γ1 => wA γ1 fun ds γ2 => QA (x :: ds) γ2) := ⟨fun z => i_cons z⟩
theorem i_dtup (q : wA γ fun ds γ1 => ds.length ≤ sizeLine ∧ Q (.tup ds) γ1) : dTup wA γ Q := q
instance : Go (dTup wA γ Q) (wA γ fun ds γ1 => ds.length ≤ sizeLine ∧ Q (.tup ds) γ1) := ⟨fun z => i_dtup z⟩
theorem i_dlst (q : wA γ fun ds γ1 => ds.length ≤ sizeLine ∧ QF ds γ1) : dLst wA γ QF := q
instance : Go (dLst wA γ QF) (wA γ fun ds γ1 => ds.length ≤ sizeLine ∧ QF ds γ1) := ⟨fun z => i_dlst z⟩
theorem small (h : ds.length ≤ 100000) : ds.length ≤ sizeLine := Nat.le_trans h (by decide)
theorem smallN {k : Nat} (h : k ≤ 100000) : k ≤ sizeLine := Nat.le_trans h (by decide)
theorem smallL {k : Nat} (h : k < 100000) : k < sizeLine := Nat.lt_of_lt_of_le h (by decide)
theorem i_sz {P : Prop} (h : ds.length ≤ 100000) (q : P) : ds.length ≤ sizeLine ∧ P := ⟨small h, q⟩
theorem i_ixL (h : atI ds n = some d) (q : R d) : itemD (.lst ds) (.int n) R := ⟨n, d, rfl, .inl ⟨ds, rfl, h⟩, q⟩
theorem i_ixT (h : atI ds n = some d) (q : R d) : itemD (.tup ds) (.int n) R := ⟨n, d, rfl, .inr ⟨ds, rfl, h⟩, q⟩
theorem i_ixO {mm : Bool} (g : γ[i]? = some (.own mm ds)) (q : wb γ fun y γ1 => ∃ k m ds d, y = .int k ∧ γ1[i]? = some (.own m ds) ∧ atI ds k = some d ∧ Q d γ1) : dIxO i wb γ Q := ⟨⟨_, _, g⟩, q⟩
theorem i_ixO2 {mm : Bool} {P : D → Prop} (g : γ[i]? = some (.own mm ds)) (h : atI ds n = some d) (q : P d) : ∃ k m es e, D.int n = .int k ∧ γ[i]? = some (.own m es) ∧ atI es k = some e ∧ P e := ⟨n, mm, ds, d, rfl, g, h, q⟩
theorem i_noPart (q : QO none γ) : dNoPart γ QO := q
instance : Go (dNoPart γ QO) (QO none γ) := ⟨fun z => i_noPart z⟩
theorem i_part (q : we γ fun x γ1 => ∃ i, x = .int i ∧ QO (some i) γ1) : dPart we γ QO := q
instance : Go (dPart we γ QO) (we γ fun x γ1 => ∃ i, x = .int i ∧ QO (some i) γ1) := ⟨fun z => i_part z⟩
variable {wl wh : WO}
theorem i_sl (q : wa γ fun x γ1 => wl γ1 fun l γ2 => wh γ2 fun h γ3 => ∃ ds, x = .lst ds ∧ QF (cutL ds l h) γ3) : dSl wa wl wh γ QF := q
instance : Go (dSl wa wl wh γ QF) (wa γ fun x γ1 => wl γ1 fun l γ2 => wh γ2 fun h γ3 => ∃ ds, x = .lst ds ∧ QF (cutL ds l h) γ3) := ⟨fun z => i_sl z⟩
theorem i_call {f : List D → (D → Prop) → Prop} (q : wA γ fun ds γ1 => f ds fun d => Q d γ1) : dCall f wA γ Q := q
instance {f : List D → (D → Prop) → Prop} : Go (dCall f wA γ Q) (wA γ fun ds γ1 => f ds fun d => Q d γ1) := ⟨fun z => i_call z⟩
theorem i_lenL (q : R (.int ds.length)) : lenD [.lst ds] R := ⟨ds, .inl rfl, q⟩
instance : Go (lenD [.lst ds] R) (R (.int ds.length)) := ⟨fun z => i_lenL z⟩
theorem i_lenT (q : R (.int ds.length)) : lenD [.tup ds] R := ⟨ds, .inr rfl, q⟩
instance : Go (lenD [.tup ds] R) (R (.int ds.length)) := ⟨fun z => i_lenT z⟩
theorem i_intI (q : R (.int n)) : intD [.int n] R := .inl ⟨n, rfl, q⟩
instance : Go (intD [.int n] R) (R (.int n)) := ⟨fun z => i_intI z⟩
theorem i_intB (q : R (.int (if b then 1 else 0))) : intD [.bl b] R := .inr ⟨b, rfl, q⟩
instance : Go (intD [.bl b] R) (R (.int (if b then 1 else 0))) := ⟨fun z => i_intB z⟩
theorem i_isi {K : PySem.W.Frag} {g : D → Bool} (q : wa γ fun x γ1 => okC K x ∧ Q (.bl (g x)) γ1) : dIsi K g wa γ Q := q
instance {K : PySem.W.Frag} {g : D → Bool} : Go (dIsi K g wa γ Q) (wa γ fun x γ1 => okC K x ∧ Q (.bl (g x)) γ1) := ⟨fun z => i_isi z⟩
theorem i_isO {K : PySem.W.Frag} {C : Addr} (q : wa γ fun x γ1 => okC K x ∧ (∀ C' fs, x = .obj C' fs → C' = C) ∧ Q (.bl (isO C x)) γ1) : dIsO K C wa γ Q := q
instance {K : PySem.W.Frag} {C : Addr} : Go (dIsO K C wa γ Q) (wa γ fun x γ1 => okC K x ∧ (∀ C' fs, x = .obj C' fs → C' = C) ∧ Q (.bl (isO C x)) γ1) := ⟨fun z => i_isO z⟩
theorem i_ocb {K : PySem.W.Frag} {P : Prop} (q : P) : okC K (.bl b) ∧ P := ⟨trivial, q⟩
instance {K : PySem.W.Frag} {P : Prop} : Go (okC K (.bl b) ∧ P) (P) := ⟨fun z => i_ocb z⟩
theorem i_oci {K : PySem.W.Frag} {P : Prop} (q : P) : okC K (.int n) ∧ P := ⟨trivial, q⟩
instance {K : PySem.W.Frag} {P : Prop} : Go (okC K (.int n) ∧ P) (P) := ⟨fun z => i_oci z⟩
theorem i_ocs {K : PySem.W.Frag} {P : Prop} {s : Str} (q : P) : okC K (.str s) ∧ P := ⟨trivial, q⟩
instance {K : PySem.W.Frag} {P : Prop} {s : Str} : Go (okC K (.str s) ∧ P) (P) := ⟨fun z => i_ocs z⟩
theorem i_ocl {K : PySem.W.Frag} {P : Prop} (q : P) : okC K (.lst ds) ∧ P := ⟨trivial, q⟩
instance {K : PySem.W.Frag} {P : Prop} : Go (okC K (.lst ds) ∧ P) (P) := ⟨fun z => i_ocl z⟩
theorem i_ocu {K : PySem.W.Frag} {P : Prop} (q : P) : okC K (.tup ds) ∧ P := ⟨trivial, q⟩
instance {K : PySem.W.Frag} {P : Prop} : Go (okC K (.tup ds) ∧ P) (P) := ⟨fun z => i_ocu z⟩
theorem i_ocn {K : PySem.W.Frag} {P : Prop} (q : P) : okC K .non ∧ P := ⟨trivial, q⟩
instance {K : PySem.W.Frag} {P : Prop} : Go (okC K .non ∧ P) (P) := ⟨fun z => i_ocn z⟩
theorem i_oce {K : PySem.W.Frag} {P : Prop} (q : P) : okC K .emp ∧ P := ⟨trivial, q⟩
instance {K : PySem.W.Frag} {P : Prop} : Go (okC K .emp ∧ P) (P) := ⟨fun z => i_oce z⟩
theorem i_listOf (q : wa γ fun x γ1 => ∃ ds, (x = .lst ds ∨ x = .tup ds) ∧ QF ds γ1) : dListOf wa γ QF := q
instance : Go (dListOf wa γ QF) (wa γ fun x γ1 => ∃ ds, (x = .lst ds ∨ x = .tup ds) ∧ QF ds γ1) := ⟨fun z => i_listOf z⟩
theorem i_listL {P : List D → Prop} (q : P ds) : ∃ es, (D.lst ds = .lst es ∨ D.lst ds = .tup es) ∧ P es := ⟨ds, .inl rfl, q⟩
instance {P : List D → Prop} : Go (∃ es, (D.lst ds = .lst es ∨ D.lst ds = .tup es) ∧ P es) (P ds) := ⟨fun z => i_listL z⟩
theorem i_listT {P : List D → Prop} (q : P ds) : ∃ es, (D.tup ds = .lst es ∨ D.tup ds = .tup es) ∧ P es := ⟨ds, .inr rfl, q⟩
instance {P : List D → Prop} : Go (∃ es, (D.tup ds = .lst es ∨ D.tup ds = .tup es) ∧ P es) (P ds) := ⟨fun z => i_listT z⟩
theorem i_cat (q : wa γ fun x γ1 => wb γ1 fun y γ2 => ∃ ds es, x = .lst ds ∧ y = .lst es ∧ ds.length + es.length ≤ sizeLine ∧ QF (ds ++ es) γ2) : dCat wa wb γ QF := q
instance : Go (dCat wa wb γ QF) (wa γ fun x γ1 => wb γ1 fun y γ2 => ∃ ds es, x = .lst ds ∧ y = .lst es ∧ ds.length + es.length ≤ sizeLine ∧ QF (ds ++ es) γ2) := ⟨fun z => i_cat z⟩
theorem i_cat2 {F : List D → List D → Prop} (h : ds.length + es.length ≤ 100000) (q : F ds es) : ∃ a b, D.lst ds = .lst a ∧ D.lst es = .lst b ∧ a.length + b.length ≤ sizeLine ∧ F a b := ⟨ds, es, rfl, rfl, smallN h, q⟩
/-! iterators, targets -/
theorem i_il (q : we γ fun x γ1 => ∃ ds, x = .lst ds ∧ QA ds γ1) : dIL we γ QA := q
instance : Go (dIL we γ QA) (we γ fun x γ1 => ∃ ds, x = .lst ds ∧ QA ds γ1) := ⟨fun z => i_il z⟩
theorem i_it (q : we γ fun x γ1 => ∃ ds, x = .tup ds ∧ QA ds γ1) : dIT we γ QA := q
instance : Go (dIT we γ QA) (we γ fun x γ1 => ∃ ds, x = .tup ds ∧ QA ds γ1) := ⟨fun z => i_it z⟩
theorem i_ir1 (q : wA γ fun ds γ1 => ∃ n, ds = [.int n] ∧ (-(2 ^ 62) ≤ n ∧ n < 2 ^ 62) ∧ QA (rngD 0 n.toNat) γ1) : dIR1 wA γ QA := q
instance : Go (dIR1 wA γ QA) (wA γ fun ds γ1 => ∃ n, ds = [.int n] ∧ (-(2 ^ 62) ≤ n ∧ n < 2 ^ 62) ∧ QA (rngD 0 n.toNat) γ1) := ⟨fun z => i_ir1 z⟩
theorem i_ir1' {F : Int → Prop} (h : -4611686018427387904 ≤ n ∧ n < 4611686018427387904) (q : F n) : ∃ k, [D.int n] = [.int k] ∧ (-(2 ^ 62) ≤ k ∧ k < 2 ^ 62) ∧ F k := ⟨n, rfl, ⟨by omega, by omega⟩, q⟩
theorem i_ir2 (q : wA γ fun ds γ1 => ∃ i j, ds = [.int i, .int j] ∧ (-(2 ^ 62) ≤ i ∧ i < 2 ^ 62 ∧ -(2 ^ 62) ≤ j ∧ j < 2 ^ 62) ∧ QA (rngD i (j - i).toNat) γ1) : dIR2 wA γ QA := q
instance : Go (dIR2 wA γ QA) (wA γ fun ds γ1 => ∃ i j, ds = [.int i, .int j] ∧ (-(2 ^ 62) ≤ i ∧ i < 2 ^ 62 ∧ -(2 ^ 62) ≤ j ∧ j < 2 ^ 62) ∧ QA (rngD i (j - i).toNat) γ1) := ⟨fun z => i_ir2 z⟩
theorem i_ien (q : wA γ fun ds γ1 => ∃ es, ds = [.lst es] ∧ QA (enumD es) γ1) : dIEn wA γ QA := q
instance : Go (dIEn wA γ QA) (wA γ fun ds γ1 => ∃ es, ds = [.lst es] ∧ QA (enumD es) γ1) := ⟨fun z => i_ien z⟩
theorem i_ien' {P : List D → Prop} (q : P ds) : ∃ es, [D.lst ds] = [.lst es] ∧ P es := ⟨ds, rfl, q⟩
theorem i_iz (q : wA γ fun ds γ1 => ∃ es fs, ds = [.lst es, .lst fs] ∧ QA (zipD es fs) γ1) : dIZ wA γ QA := q
instance : Go (dIZ wA γ QA) (wA γ fun ds γ1 => ∃ es fs, ds = [.lst es, .lst fs] ∧ QA (zipD es fs) γ1) := ⟨fun z => i_iz z⟩
theorem i_iz' {P : List D → List D → Prop} (q : P ds es) : ∃ a b, [D.lst ds, D.lst es] = [.lst a, .lst b] ∧ P a b := ⟨ds, es, rfl, q⟩
variable {QG : List Sl → Prop} {wg : WG} {wgs : WGs}
theorem i_name (q : QG (γ.set i (.val d))) : dName i d γ QG := q
instance : Go (dName i d γ QG) (QG (γ.set i (.val d))) := ⟨fun z => i_name z⟩
theorem i_gnil (q : QG γ) : dgNil [] γ QG := ⟨rfl, q⟩
instance : Go (dgNil [] γ QG) (QG γ) := ⟨fun z => i_gnil z⟩
theorem i_gcons (q : wg d γ fun γ1 => wgs ds γ1 QG) : dgCons wg wgs (d :: ds) γ QG := ⟨d, ds, rfl, q⟩
instance : Go (dgCons wg wgs (d :: ds) γ QG) (wg d γ fun γ1 => wgs ds γ1 QG) := ⟨fun z => i_gcons z⟩
theorem i_gtup {k : Nat} (h : ds.length = k) (q : wgs ds γ QG) : dgTup k wgs (.tup ds) γ QG := ⟨ds, rfl, h, q⟩
theorem i_yes (q : QT true γ) : dYes γ QT := q
instance : Go (dYes γ QT) (QT true γ) := ⟨fun z => i_yes z⟩
/-! statements -/
theorem i_next (q : Dd.nx γ) : dNext Dd γ := q
instance : Go (dNext Dd γ) (Dd.nx γ) := ⟨fun z => i_next z⟩
theorem i_seq (q : w { Dd with nx := w' Dd } γ) : dSeq w w' Dd γ := q
instance : Go (dSeq w w' Dd γ) (w { Dd with nx := w' Dd } γ) := ⟨fun z => i_seq z⟩
theorem i_brk (q : Dd.bk γ) : dBrk Dd γ := q
instance : Go (dBrk Dd γ) (Dd.bk γ) := ⟨fun z => i_brk z⟩
theorem i_cont (q : Dd.ct γ) : dCont Dd γ := q
instance : Go (dCont Dd γ) (Dd.ct γ) := ⟨fun z => i_cont z⟩
theorem i_drop (q : we γ fun _ γ1 => Dd.nx γ1) : dDrop we Dd γ := q
instance : Go (dDrop we Dd γ) (we γ fun _ γ1 => Dd.nx γ1) := ⟨fun z => i_drop z⟩
theorem i_ret (q : we γ fun d γ1 => Dd.rt (.d d) γ1) : dRet we Dd γ := q
instance : Go (dRet we Dd γ) (we γ fun d γ1 => Dd.rt (.d d) γ1) := ⟨fun z => i_ret z⟩
theorem i_retF (q : wf γ fun ds γ1 => Dd.rt (.f ds) γ1) : dRetF wf Dd γ := q
instance : Go (dRetF wf Dd γ) (wf γ fun ds γ1 => Dd.rt (.f ds) γ1) := ⟨fun z => i_retF z⟩
theorem i_retN (q : Dd.rt (.d .non) γ) : dRetN Dd γ := q
instance : Go (dRetN Dd γ) (Dd.rt (.d .non) γ) := ⟨fun z => i_retN z⟩
theorem i_set (q : we γ fun d γ1 => Dd.nx (γ1.set i (.val d))) : dSet i we Dd γ := q
instance : Go (dSet i we Dd γ) (we γ fun d γ1 => Dd.nx (γ1.set i (.val d))) := ⟨fun z => i_set z⟩
theorem i_setO (q : wf γ fun ds γ1 => Dd.nx (γ1.set i (.own false ds))) : dSetO i wf Dd γ := q
instance : Go (dSetO i wf Dd γ) (wf γ fun ds γ1 => Dd.nx (γ1.set i (.own false ds))) := ⟨fun z => i_setO z⟩
theorem i_asg (q : we γ fun d γ1 => wg d γ1 Dd.nx) : dAsg we wg Dd γ := q
instance : Go (dAsg we wg Dd γ) (we γ fun d γ1 => wg d γ1 Dd.nx) := ⟨fun z => i_asg z⟩
theorem i_sti {wk : WE} (q : we γ fun d γ1 => (∃ m ds, γ1[i]? = some (.own m ds)) ∧ wk γ1 fun k γ2 => ∃ n m ds j, k = .int n ∧ γ2[i]? = some (.own m ds) ∧ ixN ds.length n = some j ∧ (m = true → flat d) ∧ Dd.nx (γ2.set i (.own m (ds.set j d)))) : dStI i we wk Dd γ := q
instance {wk : WE} : Go (dStI i we wk Dd γ) (we γ fun d γ1 => (∃ m ds, γ1[i]? = some (.own m ds)) ∧ wk γ1 fun k γ2 => ∃ n m ds j, k = .int n ∧ γ2[i]? = some (.own m ds) ∧ ixN ds.length n = some j ∧ (m = true → flat d) ∧ Dd.nx (γ2.set i (.own m (ds.set j d)))) := ⟨fun z => i_sti z⟩
theorem i_own {mm : Bool} {P : Prop} (g : γ[i]? = some (.own mm ds)) (q : P) : (∃ m es, γ[i]? = some (.own m es)) ∧ P := ⟨⟨_, _, g⟩, q⟩
theorem i_sti2 {mm : Bool} {F : Int → Bool → List D → Nat → Prop} (g : γ[i]? = some (.own mm ds)) (h : ixN ds.length n = some j) (q : F n mm ds j) : ∃ k m es jj, D.int n = .int k ∧ γ[i]? = some (.own m es) ∧ ixN es.length k = some jj ∧ F k m es jj := ⟨n, mm, ds, j, rfl, g, h, q⟩
theorem i_fm {d : D} {P : Prop} (q : P) : (false = true → flat d) ∧ P := ⟨fun h => (by cases h), q⟩
instance {d : D} {P : Prop} : Go ((false = true → flat d) ∧ P) (P) := ⟨fun z => i_fm z⟩
theorem i_fms {ds : List D} {P : Prop} (q : P) : (false = true → flats ds) ∧ P := ⟨fun h => (by cases h), q⟩
instance {ds : List D} {P : Prop} : Go ((false = true → flats ds) ∧ P) (P) := ⟨fun z => i_fms z⟩
theorem i_fmi {m : Bool} {n : Int} {P : Prop} (q : P) : (m = true → flat (.int n)) ∧ P := ⟨fun _ => trivial, q⟩
instance {m : Bool} {n : Int} {P : Prop} : Go ((m = true → flat (.int n)) ∧ P) (P) := ⟨fun z => i_fmi z⟩
theorem i_fmb {m b : Bool} {P : Prop} (q : P) : (m = true → flat (.bl b)) ∧ P := ⟨fun _ => trivial, q⟩
instance {m b : Bool} {P : Prop} : Go ((m = true → flat (.bl b)) ∧ P) (P) := ⟨fun z => i_fmb z⟩
theorem i_fmn {m : Bool} {P : Prop} (q : P) : (m = true → flat .non) ∧ P := ⟨fun _ => trivial, q⟩
instance {m : Bool} {P : Prop} : Go ((m = true → flat .non) ∧ P) (P) := ⟨fun z => i_fmn z⟩
theorem i_app {mm : Bool} (g : γ[i]? = some (.own mm ds)) (q : we γ fun d γ1 => ∃ m ds, γ1[i]? = some (.own m ds) ∧ ds.length < sizeLine ∧ (m = true → flat d) ∧ Dd.nx (γ1.set i (.own m (ds ++ [d])))) : dApp i we Dd γ := ⟨⟨_, _, g⟩, q⟩
theorem i_ext {mm : Bool} (g : γ[i]? = some (.own mm ds)) (q : we γ fun d γ1 => ∃ es m ds, d = .lst es ∧ γ1[i]? = some (.own m ds) ∧ ds.length + es.length ≤ sizeLine ∧ (m = true → flats es) ∧ Dd.nx (γ1.set i (.own m (ds ++ es)))) : dExt i we Dd γ := ⟨⟨_, _, g⟩, q⟩
theorem i_if {wc : WT} (q : wc γ fun b γ1 => if b = true then w Dd γ1 else w' Dd γ1) : dIf wc w w' Dd γ := q
instance {wc : WT} : Go (dIf wc w w' Dd γ) (wc γ fun b γ1 => if b = true then w Dd γ1 else w' Dd γ1) := ⟨fun z => i_if z⟩
theorem i_ite {P P' : Prop} {p : Prop} [Decidable p] {inst : Decidable (decide p = true)} (h : p → P) (h' : ¬ p → P') : @ite Prop (decide p = true) inst P P' := by
  by_cases c : p
  · rw [if_pos (decide_eq_true c)]; exact h c
  · rw [if_neg (by rw [decide_eq_false c]; exact Bool.false_ne_true)]; exact h' c
theorem i_iteN {P P' : Prop} {p : Prop} [Decidable p] {inst : Decidable ((!decide p) = true)} (h : ¬ p → P) (h' : p → P') : @ite Prop ((!decide p) = true) inst P P' := by
  by_cases c : p
  · rw [if_neg (by rw [decide_eq_true c]; exact Bool.false_ne_true)]; exact h' c
  · rw [if_pos (by rw [decide_eq_false c]; rfl)]; exact h c
theorem i_iteB {P P' : Prop} {b : Bool} {inst : Decidable (b = true)} (h : b = true → P) (h' : b = false → P') : @ite Prop (b = true) inst P P' := by
  cases b with
  | true => rw [if_pos rfl]; exact h rfl
  | false => rw [if_neg Bool.false_ne_true]; exact h' rfl
theorem i_iteT {P P' : Prop} {inst : Decidable (true = true)} (h : P) : @ite Prop (true = true) inst P P' := by rw [if_pos rfl]; exact h
instance {P P' : Prop} {inst : Decidable (true = true)} : Go (@ite Prop (true = true) inst P P') (P) := ⟨fun z => i_iteT z⟩
theorem i_iteF {P P' : Prop} {inst : Decidable (false = true)} (h : P') : @ite Prop (false = true) inst P P' := by rw [if_neg Bool.false_ne_true]; exact h
instance {P P' : Prop} {inst : Decidable (false = true)} : Go (@ite Prop (false = true) inst P P') (P') := ⟨fun z => i_iteF z⟩
theorem i_callS {s : SpecD} (q : wA γ fun ds γ1 => s.S ds fun r => Q r.val γ1) : dCallS s wA γ Q := q
instance {s : SpecD} : Go (dCallS s wA γ Q) (wA γ fun ds γ1 => s.S ds fun r => Q r.val γ1) := ⟨fun z => i_callS z⟩
theorem i_callF {s : SpecD} (q : wA γ fun ds γ1 => s.S ds fun r => ∃ es, r = .f es ∧ QF es γ1) : dCallF s wA γ QF := q
instance {s : SpecD} : Go (dCallF s wA γ QF) (wA γ fun ds γ1 => s.S ds fun r => ∃ es, r = .f es ∧ QF es γ1) := ⟨fun z => i_callF z⟩
theorem i_callP {mm : Bool} {s : SpecP} (g : γ[i]? = some (.own mm ds)) (q : wA γ fun ds γ1 => ∃ m pl, γ1[i]? = some (.own m pl) ∧ s.S pl ds fun r pl' => Q r.val (γ1.set i (.own m pl'))) : dCallP i s wA γ Q := ⟨⟨_, _, g⟩, q⟩
theorem i_rf {P : List D → Prop} (q : P ds) : ∃ es, Rv.f ds = .f es ∧ P es := ⟨ds, rfl, q⟩
instance {P : List D → Prop} : Go (∃ es, Rv.f ds = .f es ∧ P es) (P ds) := ⟨fun z => i_rf z⟩
theorem i_for {wi : WA} {wb : WS} (q : wi γ fun ds γ1 => ∃ I : Nat → List Sl → Prop, I 0 γ1 ∧ (∀ i d γ, ds[i]? = some d → I i γ → wg d γ fun γ2 => wb { Dd with nx := I (i + 1), ct := I (i + 1), bk := Dd.nx } γ2) ∧ ∀ γ, I ds.length γ → Dd.nx γ) : dFor wi wg wb Dd γ := q
instance {wi : WA} {wb : WS} : Go (dFor wi wg wb Dd γ) (wi γ fun ds γ1 => ∃ I : Nat → List Sl → Prop, I 0 γ1 ∧ (∀ i d γ, ds[i]? = some d → I i γ → wg d γ fun γ2 => wb { Dd with nx := I (i + 1), ct := I (i + 1), bk := Dd.nx } γ2) ∧ ∀ γ, I ds.length γ → Dd.nx γ) := ⟨fun z => i_for z⟩
/-- what a comprehension over the items asks -/
def LcG (items : List D) (γ : List Sl) (wg : WG) (wt : WT) (we : WE) (vs : List Nat) (QF : List D → List Sl → Prop) : Prop := items.length ≤ sizeLine ∧ (∀ v ∈ vs, ∀ s, γ[v]? = some s → s = .any) ∧ ∃ I : Nat → List D → List Sl → Prop, I 0 [] γ ∧
  (∀ i acc γ d, items[i]? = some d → I i acc γ → (∀ v ∈ vs, ∀ s, γ[v]? = some s → s = .any) ∧ wg d γ fun γ2 => wt γ2 fun b γ3 => if b = true then we γ3 fun y γ4 => I (i + 1) (acc ++ [y]) (wipeG γ4 vs) else I (i + 1) acc (wipeG γ3 vs)) ∧
  ∀ acc γ, I items.length acc γ → (∀ v ∈ vs, ∀ s, γ[v]? = some s → s = .any) ∧ QF acc γ
theorem i_lc {wi : WA} {vs : List Nat} (q : wi γ fun ds γ1 => LcG ds γ1 wg wt we vs QF) : dLc wi wg wt we vs γ QF := q
instance {wi : WA} {vs : List Nat} : Go (dLc wi wg wt we vs γ QF) (wi γ fun ds γ1 => LcG ds γ1 wg wt we vs QF) := ⟨fun z => i_lc z⟩
def anyAt (γ : List Sl) : List Nat → Bool
  | [] => true
  | v :: vs => (match γ[v]? with | none => true | some .any => true | _ => false) && anyAt γ vs
theorem anyAt_ok : ∀ {vs : List Nat}, anyAt γ vs = true → ∀ v ∈ vs, ∀ s, γ[v]? = some s → s = .any
  | u :: us, h, v, hv, s, e => by
    unfold anyAt at h
    rcases List.mem_cons.mp hv with z | z
    · subst z
      rw [e] at h
      cases s <;> first | rfl | (simp at h)
    · have h2 : anyAt γ us = true := by
        cases q : anyAt γ us with
        | true => rfl
        | false => rw [q, Bool.and_false] at h; cases h
      exact anyAt_ok h2 v z s e
end
end DL
set_option Elab.async false
set_option linter.all false
set_option autoImplicit false
set_option maxRecDepth 100000
set_option maxHeartbeats 4000000
/-! DL8: defs of the script. -/
namespace DL
open PySem PySem.Spec PyProof.Rows L2
structure SpecS where
  S : List Int → (Rv → Prop) → Prop
  mono : ∀ ns P P', (∀ r, P r → P' r) → S ns P → S ns P'
def spS (K : PySem.W.Frag) (s : SpecS) : Sp := fun vs H Q _ => ∃ S a ns, vs = [.ref a] ∧ Same S H ∧ SqL K S a (ns.map V.int) ∧ s.S ns fun r => ∀ v S' H', Rel0 K ⟨H, S, [], [], emptyH⟩ S' H' [] [] → RvOk ⟨H, S, [], [], emptyH⟩ S' H' v r → Q v H'
section
variable {X : Xb} {K : PySem.W.Frag} {f : Addr} {fd : FuncData} {ps : List Str} {k : Nat} {x : Str} {e : Expr} {es : List Expr} {p pos : Pos}
def dCallScr (i : Nat) (s : SpecS) : WF := fun γ Q => ∃ ns, γ[i]? = some (.scr ns) ∧ s.S ns fun r => ∃ es, r = .f es ∧ Q es γ
theorem sf_callScr {i : Nat} {s : SpecS} : SF X (tCall (spS X.K s) [] E0 (tCons (tVar i) tNil)) (dCallScr i s) := by
  refine ⟨fun γ P P' k ⟨ns, g, q⟩ => ⟨ns, g, s.mono _ _ _ (fun r ⟨es, e, q⟩ => ⟨es, e, k _ _ q⟩) q⟩, fun B S H σ γ Q R ⟨ns, g, q⟩ => ?_⟩
  obtain ⟨a, f0, f1⟩ := R.sl i _ g
  refine ⟨_, f0, ?_⟩
  show spS X.K s ((.ref a :: []) ++ []) H Q E0
  rw [List.append_nil]
  refine ⟨S, a, ns, rfl, R.same, f1, s.mono _ _ _ (fun r ⟨es, e, q⟩ v S' H' C rv => ?_) q⟩
  subst e
  obtain ⟨b, xs, rfl, k1, k2, k3, k4⟩ := rv
  have k2' : H b = none := k2
  exact q b xs S' H' (R.callN C k2' k3 k1) C.grow k4
theorem df_callScr (K' : PySem.W.Frag) (i : Nat) {s : SpecS} {y : Str} {py : Pos} (F : FnOk X.prog X.w X.K X.mg X.base CX0 k f fd ps (spS K' s)) (hr : Room k X.A) (hm : X.mg x = some (.ref f)) (hk : PySem.W.keepIn X.K (.ref f) = true) (hb : Binds X.K fd ps []) (hN : X.N[i]? = some y := by rfl) (hv : Vis X.env.scope y := by first | exact Or.inl rfl | exact Or.inr (Or.inl rfl) | exact Or.inr (Or.inr rfl)) (hd : (y == ("__debug__" : Str)) = false := by decide)
    (hcd : (y == ("__classdict__" : Str)) = false := by decide) (hg : Gl X x := by rfl)
    (hdb : (x == ("__debug__" : Str)) = false := by decide) (he : starEach (.Name y py :: []) X.env = (false, eval (.Name y py) X.env) :: starEach [] X.env := by rfl) (hpl : (backTo pos (starEach [] X.env)).any (·.1) = false := by rfl) (hK : X.K = K' := by rfl) : DF X (.Call (.Name x p) (.Name y py :: []) [] pos) (tCall (spS K' s) [] E0 (tCons (tVar i) tNil)) (dCallScr i s) := by
  subst hK
  exact ⟨pe_call F hr hg hm hk hb .nil pass0 (pa_cons (pe_var hN hv hd hcd) pa_nil he) hdb he hpl, sf_callScr⟩
theorem i_slS {i : Nat} {γ : List Sl} {ns : List Int} {wl wh : WO} {QF : List D → List Sl → Prop} (g : γ[i]? = some (.scr ns)) (q : wl γ fun l γ2 => wh γ2 fun h γ3 => ∃ ns, γ3[i]? = some (.scr ns) ∧ QF (cutL (ns.map D.int) l h) γ3) : dSlS i wl wh γ QF := ⟨⟨ns, g⟩, q⟩
theorem i_scr2 {i : Nat} {γ : List Sl} {ns : List Int} {P : List Int → Prop} (g : γ[i]? = some (.scr ns)) (q : P ns) : ∃ ms, γ[i]? = some (.scr ms) ∧ P ms := ⟨ns, g, q⟩
end
def gamS (N : List Str) (ns : List Int) : List Sl := .scr ns :: List.replicate (N.length - 1) .any
section
variable {P : Program} {w : World} {K : PySem.W.Frag} {mg : Str → Option Value} {base : Heap} {x qual : Str} {st : Stmt} {f : Addr} {fd : FuncData} {N ps : List Str} {k : Nat}
theorem fn_okS {s : SpecS} (F : Fun K x qual st f fd) (Sc : FnScope N ps (defScope st)) (len : ps.length = 1)
    (hbody : ∀ (cdv : Value) (A : Around) (outer : List Env) (s0 : Shared) (H : Hp) (E : XK), Room k (A.deeper (envOfC qual (defScope st) s0.heap.objs.size f cdv)) →
      ∃ t w', DSs (Xb.of (cxOf CX0 P w K mg base N qual (defScope st) f cdv A outer s0 H E).nox) (defBody st) t w' ∧ ∀ ns Q, s.S ns Q → w' { nx := fun _ => Q (.d .non), rt := fun r _ => Q r } (gamS N ns)) : FnOk P w K mg base CX0 (k + 1) f fd ps (spS K s) := by
  refine F.ok Sc (fun vs H Q E h => ?_) (fun cdv A outer s0 H vs Q E hr h => ?_)
  · obtain ⟨S, a, ns, rfl, _⟩ := h
    exact len.symm
  · obtain ⟨S, a, ns, rfl, e, hS, q⟩ := h
    obtain ⟨t, w', h1, h2⟩ := hbody cdv A outer s0 H E hr
    refine ⟨t, h1.ps, ?_⟩
    have R0 : Rel0 K ⟨H, S, [], [], emptyH⟩ S H (L2.start N [.ref a]) (gamS N ns) := by
      refine ⟨fun _ => emptyH, e, fun a o h _ => h, fun a ha => (by cases ha), Same.refl S, fun a o h => .inl h, rfl.trans (by simp [gamS, L2.start]), fun i s h => ?_, fun i a o e => (by cases e), fun i a o e => (by cases e), fun i j a o u _ e => (by cases e), fun i a o e => (by cases e), fun p o hp => (by cases hp), List.nodup_nil, fun a o e => (by cases e)⟩
      unfold gamS at h
      cases i with
      | zero => cases h; exact ⟨a, rfl, hS⟩
      | succ i =>
        rw [List.getElem?_cons_succ, List.getElem?_replicate] at h
        split at h
        · cases h; trivial
        · cases h
    exact h1.ss.run ⟨H, S, [], [], emptyH⟩ S S H _ (gamS N ns) { nx := fun _ => _, rt := fun r _ => _ } _ (Rel0.of R0) (Same.refl S) ⟨fun S' H' σ' γ' _ R q => q _ _ _ R.nil Den.non, fun S' H' σ' γ' v r _ R rv q => q v _ _ R.nil rv, fun S' H' σ' γ' _ R q => q.elim, fun S' H' σ' γ' _ R q => q.elim⟩ (h2 ns _ q)
end
/-- the law's promise: for at most 63 ints the answer is True -/
def specLaw : SpecS := ⟨fun ns Q => ns.length ≤ 63 ∧ Q (.d (.bl true)), fun ns P P' k q => ⟨q.1, k _ q.2⟩⟩
theorem law_sp {K : PySem.W.Frag} (H : Hp) (a : Addr) (ns : List Int) (hl : ns.length ≤ 63) (hS : SqL K H a (ns.map V.int)) : spS K specLaw [.ref a] H (fun v _ => v = .bl true) fun _ _ _ => False :=
  ⟨H, a, ns, rfl, Same.refl H, hS, hl, fun v S' H' _ rv => by cases rv; rfl⟩

/-! ### the pool of a law: the script's first cells, a place, a great number, a count, a seed -/
def PoolP (pl : List D) : Prop := ∃ (ns : List Int) (ix big cnt seed : Int), pl = [.lst (ns.map D.int), .int ix, .int big, .int cnt, .int seed] ∧ 0 ≤ ix ∧ 0 ≤ big ∧ 0 ≤ seed ∧ seed < 2147483629
def MayDiv (many : Int) : Prop := 0 < many ∧ many.natAbs.log2 < 9000
theorem MayDiv.of {n : Int} (h : 0 < n ∧ n < 18446744073709551616) : MayDiv n := ⟨h.1, (divS (m := 0) h).2⟩
def spec_L_draw : SpecP := SpecP.of (fun many : Int => [.int many]) PoolP MayDiv (fun many r => ∃ n, r = .d (.int n) ∧ 0 ≤ n ∧ n < many)
def tenE49 : Int := 10000000000000000000000000000000000000000000000000
def spec_L_number : SpecP := SpecP.of (fun _ : Unit => []) PoolP (fun _ => True) (fun _ r => ∃ n, r = .d (.int n) ∧ -tenE49 ≤ n ∧ n < tenE49)
def spec_L_pool : SpecS := ⟨fun ns Q => ns.length ≤ 63 ∧ ∀ pl, PoolP pl → Q (.f pl), fun ns P P' k q => ⟨q.1, fun pl h => k _ (q.2 pl h)⟩⟩
theorem draw_i {many : Int} {pl : List D} {P : Rv → List D → Prop} (hp : PoolP pl) (h : MayDiv many) (q : ∀ n pl', 0 ≤ n → n < many → PoolP pl' → P (.d (.int n)) pl') : spec_L_draw.S pl [.int many] P :=
  ⟨hp, many, rfl, h, fun r pl' ⟨n, e, h0, h1⟩ hp' => by subst e; exact q n pl' h0 h1 hp'⟩
end DL
namespace DL
open PySem PySem.Spec PyProof.Rows L2
theorem atI_ex {α : Type} {xs : List α} {i : Int} (h0 : 0 ≤ i) (h : i < xs.length) : ∃ x, atI xs i = some x ∧ xs[i.toNat]? = some x := by
  have hj : i.toNat < xs.length := by omega
  have e := atI_nat (List.getElem?_eq_getElem hj)
  have ei : ((i.toNat : Nat) : Int) = i := by omega
  rw [ei] at e
  exact ⟨xs[i.toNat], e, List.getElem?_eq_getElem hj⟩
theorem atI_int {ns : List Int} {i : Int} (h0 : 0 ≤ i) (h : i < ns.length) : ∃ c, atI (ns.map D.int) i = some (.int c) ∧ ns[i.toNat]? = some c := by
  obtain ⟨x, e1, e2⟩ := atI_ex (xs := ns.map D.int) h0 (by rw [List.length_map]; exact h)
  rw [List.getElem?_map] at e2
  cases q : ns[i.toNat]? with
  | none => rw [q] at e2; cases e2
  | some c => rw [q] at e2; cases e2; exact ⟨c, e1, rfl⟩
end DL
namespace DL
open PySem PySem.Spec PyProof.Rows L2
/-- a comprehension whose tests all fail -/
theorem i_none {items : List D} {vs : List Nat} {γ : List Sl} {QF : List D → List Sl → Prop} {wg : WG} {wt : WT} {we : WE} (hz : items.length ≤ 100000) (ha : anyAt γ vs = true)
    (h : ∀ (i : Nat) d, items[i]? = some d → ∀ R : Bool → List Sl → Prop, (∀ γ4, wipeG γ4 vs = γ → R false γ4) → wg d γ fun γ2 => wt γ2 R) (q : QF [] γ) :
    LcG items γ wg wt we vs QF := by
  refine ⟨smallN hz, anyAt_ok ha, fun i acc γ' => γ' = γ ∧ acc = [], ⟨rfl, rfl⟩, ?_, ?_⟩
  · rintro i acc γ' d hd ⟨rfl, rfl⟩
    exact ⟨anyAt_ok ha, h i d hd _ fun γ4 e => ⟨e, rfl⟩⟩
  · rintro acc γ' ⟨rfl, rfl⟩
    exact ⟨anyAt_ok ha, q⟩
/-- data less deep than n -/
def Dep : Nat → D → Prop
  | 0, _ => False
  | n + 1, .lst ds => ds.length ≤ 100000 ∧ ∀ d ∈ ds, Dep n d
  | n + 1, .tup ds => ds.length ≤ 100000 ∧ ∀ d ∈ ds, Dep n d
  | _ + 1, .obj _ _ => False
  | _ + 1, .emp => False
  | _ + 1, .ref _ => False
  | _ + 1, _ => True
theorem Dep.mono {n : Nat} : ∀ {d : D}, Dep n d → Dep (n + 1) d := by
  induction n with
  | zero => intro d h; cases h
  | succ n ih =>
    intro d h
    cases d with
    | lst ds => exact ⟨h.1, fun d hd => ih (h.2 d hd)⟩
    | tup ds => exact ⟨h.1, fun d hd => ih (h.2 d hd)⟩
    | obj C fs => cases h
    | emp => cases h
    | ref p => cases h
    | _ => trivial
theorem Dep.le {n m : Nat} (h : n ≤ m) {d : D} (k : Dep n d) : Dep m d := by
  induction h with
  | refl => exact k
  | step _ ih => exact ih.mono
def spec_L_same (k : Nat) : SpecD := SpecD.of (fun d : D => [d, d]) (Dep k) (fun _ r => r = .d (.bl true))
end DL
namespace DL
open PySem PySem.Spec PyProof.Rows L2
theorem rngD_len (lo : Int) (n : Nat) : (rngD lo n).length = n := by simp [rngD]
theorem rngD_inv {lo : Int} {n i : Nat} {d : D} (h : (rngD lo n)[i]? = some d) : d = .int (lo + (i : Int)) ∧ i < n := by
  have hi : i < n := by
    have := (List.getElem?_eq_some_iff.mp h).1
    rwa [rngD_len] at this
  refine ⟨?_, hi⟩
  unfold rngD at h
  rw [List.getElem?_map, List.getElem?_range hi] at h
  exact (Option.some.inj h).symm
theorem rng0_inv {n i : Nat} {d : D} (h : (rngD 0 n)[i]? = some d) : d = .int (i : Int) ∧ i < n := by
  obtain ⟨e, hi⟩ := rngD_inv h
  rw [Int.zero_add] at e
  exact ⟨e, hi⟩
theorem atI_of {α : Type} {xs : List α} {i : Nat} {x : α} (h : xs[i]? = some x) : atI xs (i : Int) = some x := atI_nat h
end DL
set_option Elab.async false
set_option linter.all false
set_option autoImplicit false
set_option maxRecDepth 100000
set_option maxHeartbeats 4000000
/-! DL9: a list of one's own lent as a value; a walk over two new lists; comprehensions over ranges. -/
namespace DL
open PySem PySem.Spec PyProof.Rows L2
/-- the slots while the list in slot i is lent as a value: other lists of one's own are out of sight -/
def lentS : List Sl → List Sl
  | [] => []
  | .own _ _ :: γ => .any :: lentS γ
  | .ins _ _ _ :: γ => .any :: lentS γ
  | .hp _ _ :: γ => .any :: lentS γ
  | s :: γ => s :: lentS γ
def lent (i : Nat) (ds : List D) (γ : List Sl) : List Sl := (lentS γ).set i (.val (.lst ds))
def lentI (i : Nat) (C : Addr) (fs : List (Str × D)) (γ : List Sl) : List Sl := (lentS γ).set i (.val (.obj C fs))
theorem lentS_get : ∀ {γ : List Sl} {i : Nat} {s : Sl}, (lentS γ)[i]? = some s → s = .any ∨ (γ[i]? = some s ∧ s.may = none)
  | [], i, s, h => by cases h
  | t :: γ, i, s, h => by
    cases i with
    | zero =>
      cases t with
      | own m ds => unfold lentS at h; cases h; exact .inl rfl
      | ins m C fs => unfold lentS at h; cases h; exact .inl rfl
      | hp m L => unfold lentS at h; cases h; exact .inl rfl
      | any => unfold lentS at h; cases h; exact .inl rfl
      | val d => unfold lentS at h; cases h; exact .inr ⟨rfl, rfl⟩
      | scr ns => unfold lentS at h; cases h; exact .inr ⟨rfl, rfl⟩
    | succ i =>
      have h' : (lentS γ)[i]? = some s := by cases t <;> (unfold lentS at h; exact h)
      exact lentS_get (i := i) h'
theorem lentS_len : ∀ {γ : List Sl}, (lentS γ).length = γ.length
  | [] => rfl
  | t :: γ => by cases t <;> (unfold lentS; rw [List.length_cons, List.length_cons, lentS_len])
section
variable {X : Xb} {K : PySem.W.Frag} {B : Bs} {S H : Hp} {σ : L2.St} {γ : List Sl} {i : Nat} {ds : List D}
/-- over another stable heap, nothing of one's own in sight -/
theorem RelF.lendG {φ : Nat → Hp} {S' : Hp} {d : D} {v : V} (r : RelF K B S H σ γ φ) (e : Same S S') (e' : Same S' H) (hi : σ[i]? = some (some v)) (dn : Den S' v d) : Rel0 K ⟨H, S', [], [], emptyH⟩ S' H σ ((lentS γ).set i (.val d)) := by
  refine ⟨fun _ => emptyH, e', fun a o h _ => h, fun a ha => (by cases ha), Same.refl _, fun a o h => .inl h, by rw [List.length_set, lentS_len]; exact r.len, fun j s h => ?_, fun i a o e => (by cases e), fun i a o e => (by cases e), fun i j a o u _ e => (by cases e), fun i a o e => (by cases e), fun p o hp => (by cases hp), List.nodup_nil, fun a o e => (by cases e)⟩
  by_cases hj : j = i
  · subst hj
    by_cases hl : j < (lentS γ).length
    · rw [List.getElem?_set_self hl] at h
      cases h
      exact ⟨_, hi, dn⟩
    · rw [List.getElem?_eq_none (by rw [List.length_set]; omega)] at h
      cases h
  · rw [List.getElem?_set_ne (fun z => hj z.symm)] at h
    rcases lentS_get h with z | ⟨h, z⟩
    · subst z; trivial
    · have q := r.sl j s h
      cases s with
      | any => trivial
      | val d => obtain ⟨v, f1, f2⟩ := q; exact ⟨v, f1, f2.mono e⟩
      | own m es => cases z
      | ins m C fs => cases z
      | hp m L => cases z
      | scr ns => obtain ⟨a, f1, f2⟩ := q; exact ⟨a, f1, e.seq f2⟩
/-- behind something that has changed nothing that stood -/
theorem Rel.backG {S' S1 H1 : Hp} {γ1 : List Sl} (R : Rel X B S H σ γ) (C : Rel0 X.K ⟨H, S', [], [], emptyH⟩ S1 H1 σ γ1) : Rel X B S H1 σ γ := by
  refine R.with ?_ (Same.refl S)
  obtain ⟨φ, r⟩ := R.r
  have hk : ∀ a o, H a = some o → H1 a = some o := fun a o e => C.keep a o e (by intro z; cases z)
  refine ⟨φ, fun a o e => hk a o (r.same a o e), fun a o e hm => hk a o (r.keep a o e hm), fun a ha => ?_, r.grow, r.ext, r.len, r.sl, fun i a o e => hk a o (r.phH i a o e), r.phS, r.phD, r.phO, fun q o hq => ?_, r.frn, r.spS⟩
  · obtain ⟨h1, h2, zs, h3⟩ := r.muk a ha
    exact ⟨h1, h2, zs, hk a _ h3⟩
  · obtain ⟨h1, h2, h3⟩ := r.frm q o hq
    exact ⟨hk q o h1, h2, h3⟩
end
section
variable {X : Xb} {K : PySem.W.Frag} {e : Expr} {te : TE} {we : WE} {tt : TT} {wt : WT}
/-- a test, the list in slot i lent -/
def dLendT (i : Nat) (wt : WT) : WT := fun γ Q => ∃ m ds, γ[i]? = some (.own m ds) ∧ wt (lent i ds γ) fun b _ => Q b γ
/-- an expression whose value has no parts, the list in slot i lent -/
def dLend (i : Nat) (we : WE) : WE := fun γ Q => ∃ m ds, γ[i]? = some (.own m ds) ∧ we (lent i ds γ) fun d _ => flat d ∧ Q d γ
end
/-! ### for x in [new list, new list] -/
def dForTwo (i : Nat) (wf wf' : WF) (wb : WS) : WS := fun Dd γ => wf γ fun ds γ1 => wf' γ1 fun es γ2 => ∃ M : List Sl → Prop,
  wb { Dd with nx := M, ct := M, bk := Dd.nx } (γ2.set i (.own false ds)) ∧ ∀ γ, M γ → wb { Dd with nx := Dd.nx, ct := Dd.nx, bk := Dd.nx } (γ.set i (.own false es))
section
variable {X : Xb} {a b : Expr} {tf tf' : TE} {wf wf' : WF} {tb : TS} {wb : WS} {body : List Stmt} {pos pl : Pos}
end
/-! ### stepping -/
section
variable {γ : List Sl} {i : Nat} {ds : List D} {we : WE} {wt : WT} {Q : D → List Sl → Prop} {QT : Bool → List Sl → Prop} {QF : List D → List Sl → Prop} {wf wf' : WF} {wb : WS} {Dd : EndsD} {wg : WG}
theorem i_forTwo (q : wf γ fun ds γ1 => wf' γ1 fun es γ2 => ∃ M : List Sl → Prop, wb { Dd with nx := M, ct := M, bk := Dd.nx } (γ2.set i (.own false ds)) ∧ ∀ γ, M γ → wb { Dd with nx := Dd.nx, ct := Dd.nx, bk := Dd.nx } (γ.set i (.own false es))) : dForTwo i wf wf' wb Dd γ := q
instance : Go (dForTwo i wf wf' wb Dd γ) (wf γ fun ds γ1 => wf' γ1 fun es γ2 => ∃ M : List Sl → Prop, wb { Dd with nx := M, ct := M, bk := Dd.nx } (γ2.set i (.own false ds)) ∧ ∀ γ, M γ → wb { Dd with nx := Dd.nx, ct := Dd.nx, bk := Dd.nx } (γ.set i (.own false es))) := ⟨fun z => i_forTwo z⟩
theorem i_flb {b : Bool} {P : Prop} (q : P) : flat (.bl b) ∧ P := ⟨trivial, q⟩
instance {b : Bool} {P : Prop} : Go (flat (.bl b) ∧ P) (P) := ⟨fun z => i_flb z⟩
theorem i_fli {n : Int} {P : Prop} (q : P) : flat (.int n) ∧ P := ⟨trivial, q⟩
instance {n : Int} {P : Prop} : Go (flat (.int n) ∧ P) (P) := ⟨fun z => i_fli z⟩
theorem i_fln {P : Prop} (q : P) : flat .non ∧ P := ⟨trivial, q⟩
instance {P : Prop} : Go (flat .non ∧ P) (P) := ⟨fun z => i_fln z⟩
/-- a comprehension over a range that changes the slots -/
theorem i_mapJ {n : Int} {vs : List Nat} (J : Nat → List D → List Sl → Prop) (hz : n ≤ 100000) (h0 : J 0 [] γ) (ha : ∀ i acc γ', J i acc γ' → anyAt γ' vs = true)
    (h : ∀ (i : Nat) acc γ', (i : Int) < n → J i acc γ' → wg (.int (i : Int)) γ' fun γ2 => we γ2 fun y γ4 => J (i + 1) (acc ++ [y]) (wipeG γ4 vs)) (q : ∀ acc γ', J n.toNat acc γ' → QF acc γ') :
    LcG (rngD 0 n.toNat) γ wg dYes we vs QF := by
  refine ⟨by rw [rngD_len]; exact smallN (by omega), anyAt_ok (ha _ _ _ h0), J, h0, ?_, ?_⟩
  · intro i acc γ' d hd hJ
    obtain ⟨rfl, hi⟩ := rng0_inv hd
    exact ⟨anyAt_ok (ha _ _ _ hJ), h i acc γ' (by omega) hJ⟩
  · intro acc γ' hJ
    rw [rngD_len] at hJ
    exact ⟨anyAt_ok (ha _ _ _ hJ), q acc γ' hJ⟩
end
end DL
set_option Elab.async false
set_option linter.all false
set_option autoImplicit false
set_option maxRecDepth 100000
set_option maxHeartbeats 4000000
/-! DL10: lists told by their places. -/
namespace DL
open PySem PySem.Spec PyProof.Rows L2
/-- the list of n items told by f -/
abbrev dLs (n : Nat) (f : Nat → D) : List D := (List.range n).map f
theorem dLs_len {n : Nat} {f : Nat → D} : (dLs n f).length = n := by simp
theorem dLs_get {n : Nat} {f : Nat → D} {i : Nat} (h : i < n) : (dLs n f)[i]? = some (f i) := by
  unfold dLs
  rw [List.getElem?_map, List.getElem?_range h]
  rfl
theorem dLs_inv {n : Nat} {f : Nat → D} {i : Nat} {d : D} (h : (dLs n f)[i]? = some d) : d = f i ∧ i < n := by
  have hi : i < n := by
    have := (List.getElem?_eq_some_iff.mp h).1
    rwa [dLs_len] at this
  rw [dLs_get hi] at h
  exact ⟨(Option.some.inj h).symm, hi⟩
theorem dLs_at {n : Nat} {f : Nat → D} {i : Nat} (h : i < n) : atI (dLs n f) (i : Int) = some (f i) := atI_of (dLs_get h)
theorem dLs_rng (n : Nat) : rngD 0 n = dLs n fun i => .int (i : Int) := by
  unfold rngD dLs
  apply List.map_congr_left
  intro i _
  rw [Int.zero_add]
theorem dLs_enum {n : Nat} {f : Nat → D} : enumD (dLs n f) = dLs n fun i => .tup [.int (i : Int), f i] := by
  apply List.ext_getElem?
  intro i
  by_cases h : i < n
  · rw [dLs_get h, enumD_get (dLs_get h)]
  · rw [List.getElem?_eq_none (by rw [enumD_len, dLs_len]; omega), List.getElem?_eq_none (by rw [dLs_len]; omega)]
theorem dLs_zip {n : Nat} {f g : Nat → D} : zipD (dLs n f) (dLs n g) = dLs n fun i => .tup [f i, g i] := by
  apply List.ext_getElem?
  intro i
  unfold zipD
  by_cases h : i < n
  · rw [dLs_get h, List.getElem?_zipWith, dLs_get h, dLs_get h]
  · rw [List.getElem?_zipWith, List.getElem?_eq_none (by rw [dLs_len]; omega), List.getElem?_eq_none (by rw [dLs_len]; omega), List.getElem?_eq_none (by rw [dLs_len]; omega)]
theorem dLs_snoc {n : Nat} {f : Nat → D} : dLs n f ++ [f n] = dLs (n + 1) f := by
  unfold dLs
  rw [List.range_succ, List.map_append]
  rfl
section
variable {γ : List Sl} {we : WE} {QF : List D → List Sl → Prop} {wg : WG} {R : D → Prop}
/-- a comprehension that changes nothing, over items told by places -/
theorem i_mapN {n : Nat} {items : List D} {vs : List Nat} (it : Nat → D) (g : Nat → D) (he : items = dLs n it) (hz : n ≤ 100000) (ha : anyAt γ vs = true)
    (h : ∀ (i : Nat), i < n → ∀ R : D → List Sl → Prop, (∀ γ4, wipeG γ4 vs = γ → R (g i) γ4) → wg (it i) γ fun γ2 => we γ2 R) (q : QF (dLs n g) γ) :
    LcG items γ wg dYes we vs QF := by
  subst he
  refine ⟨by rw [dLs_len]; exact smallN (by omega), anyAt_ok ha, fun i acc γ' => γ' = γ ∧ acc = dLs i g, ⟨rfl, rfl⟩, ?_, ?_⟩
  · rintro i acc γ' d hd ⟨rfl, rfl⟩
    obtain ⟨rfl, hi⟩ := dLs_inv hd
    refine ⟨anyAt_ok ha, ?_⟩
    exact h i (by omega) (fun y γ4 => wipeG γ4 vs = γ' ∧ dLs i g ++ [y] = dLs (i + 1) g) (fun γ4 e => ⟨e, dLs_snoc⟩)
  · rintro acc γ' ⟨rfl, rfl⟩
    refine ⟨anyAt_ok ha, ?_⟩
    rw [dLs_len]
    exact q
theorem i_szL {ds : List D} {Q : Prop} (h : ds.length < 100000) (q : Q) : ds.length < sizeLine ∧ Q := ⟨smallL h, q⟩
theorem i_allN {n : Nat} {f : Nat → Bool} (q : R (.bl (((List.range n).map f).all id))) : allD [.lst (dLs n fun i => .bl (f i))] R := by
  refine ⟨(List.range n).map f, ?_, q⟩
  rw [List.map_map]
  rfl
end
end DL
namespace DL
open PySem PySem.Spec PyProof.Rows L2
theorem fun_of {K : PySem.W.Frag} {x q : Str} {st : Stmt} {f : Addr} {fd : FuncData} (F : FunD K x q (defArgs st) (defBody st) (defScope st) [] [] f fd) : Fun K x q st f fd := by
  obtain ⟨oc, od, dV, kV, doc, pm, an, cdv, ct, osl, rfl, lk, hcd, hD, _⟩ := F.ex
  rcases hD with ⟨_, rfl⟩ | ⟨e, _⟩
  · exact ⟨⟨oc, od, kV, doc, pm, an, cdv, ct, osl, rfl, lk, hcd⟩, F.kp⟩
  · exact absurd rfl e
end DL
set_option Elab.async false
set_option linter.all false
set_option autoImplicit false
set_option maxRecDepth 100000
set_option maxHeartbeats 4000000
/-! DL11: // and % by any int but 0; while; what is never reached; abs, bit_length. -/
namespace DL
open PySem PySem.Spec PyProof.Rows L2
/-! ### the part of the heap that a great division looks at -/
theorem nsIn_none {K : PySem.W.Frag} {h : Heap} {m : Str → Option Value} {n : Str} {a : Addr} (X : K.In h) (G : h.Ns a m) (e : PySem.W.nsIn K a n = some none) : m n = none := by
  obtain ⟨o, es, ep, ho, hd, _, hf⟩ := G
  unfold PySem.W.nsIn at e
  split at e
  · rename_i c d es' n' sl q
    have := X _ _ q
    rw [ho] at this
    cases this
    cases hd
    split at e
    · cases e
    · rename_i he
      rw [← hf]
      unfold nsFind findBy
      rw [← Array.find?_toList, he]
      rfl
  · cases e
theorem seer_of {K : PySem.W.Frag} {h : Heap} {mg : Str → Option Value} (hs : seerB K = true) (X : K.In h) (M : Mod K mg h) : h.NoSeer := by
  unfold seerB at hs
  rw [Bool.and_eq_true, Bool.and_eq_true, Bool.and_eq_true] at hs
  obtain ⟨s1, s2, s3, s4⟩ := hs
  obtain ⟨mc, nc, _⟩ := M.nolimit
  refine ⟨⟨mc, nc, nsIn_none X nc (of_decide_eq_true s1), nsIn_none X nc (of_decide_eq_true s2)⟩, ?_, M.blt, ?_⟩
  · split at s3
    · rename_i c d es n sl q
      rw [Bool.and_eq_true] at s3
      refine ⟨fun x => nsFind es x, ⟨_, es, n, X _ _ q, rfl, fun e he => ?_, fun _ => rfl⟩, ?_⟩
      · have := List.all_eq_true.mp s3.1 e (Array.mem_toList_iff.mpr he)
        cases hk : e.key with
        | str x t => exact ⟨x, t, rfl⟩
        | _ => rw [hk] at this; cases this
      · exact Option.isNone_iff_eq_none.mp s3.2
    · cases s3
  · split at s4
    · rename_i bm e1
      split at s4
      · rename_i c d dt sl q
        rw [Bool.and_eq_true] at s4
        exact ⟨mg, bm, _, M.glob, PySem.W.mg_of X M.glob e1, X _ _ q, of_decide_eq_true s4.1, of_decide_eq_true s4.2⟩
      · cases s4
    · cases s4
def TopEnv (l : List Env) : Prop := ∃ env r, l = env :: r ∧ env.scope.isGenerator = false ∧ env.scope.isCoroutine = false ∧ env.builtins = builtinsNs ∧ env.globals = mainGlobals
section
variable {X : Xb} {K : PySem.W.Frag} {a b c e : Expr} {ta tb tc te : TE} {wa wb wc we : WE} {pos p : Pos}
theorem op_fdivA (hs : seerB X.K = true) (ht : X.prog.given.tree = none) (hr : X.A.depth + Builtin.pylongFrames < recursionLimit) (hst : TopEnv X.stack) : OpR X (binaryOp .FloorDiv) (rI (fun _ j => j ≠ 0) fun i j => .int (i.fdiv j)) := by
  intro pins s σ H x y v u Q I rx ry h
  obtain ⟨i, j, rfl, rfl, hc, q⟩ := h
  obtain ⟨t, rfl⟩ := rx
  obtain ⟨t', rfl⟩ := ry
  obtain ⟨env, l, el, g1, g2, g3, g4⟩ := hst
  have hN : s.heap.NoSeer := (seer_of hs I.ok.mod.kin I.ok.mod).keeps I.bk
  exact floordiv_int hc ⟨.int (i.fdiv j), H, I.tok _, ⟨_, rfl⟩, q⟩ (.inr (PySem.PylongRoom.of I.nolimit hr (PySem.SeerAt.of hN ht (I.ok.frames.trans (congrArg some (show X.c.stack = _ from el))) g1 g2 g3 g4)))
abbrev dFdvA := dOp (dI (fun _ j => j ≠ 0) fun i j => .int (i.fdiv j))
abbrev dModN := dOp (dI (fun _ j => j ≠ 0) fun i j => .int (i.fmod j))
theorem room_py {k : Nat} {A : Around} (r : Room (k + 32) A) : A.depth + Builtin.pylongFrames < recursionLimit := by
  have := r.dp
  have e : Builtin.pylongFrames = 100 := rfl
  omega
theorem de_fdvA (K' : PySem.W.Frag) {k : Nat} (hs : seerB K' = true) (ht : X.prog.given.tree = none) (hr : Room (k + 32) X.A) (ha : DE X a ta wa) (hb : DE X b tb wb) (hst : TopEnv X.stack := by exact ⟨_, _, rfl, rfl, rfl, rfl, rfl⟩) (hK : X.K = K' := by rfl) : DE X (.BinOp a .FloorDiv b pos) (tOp (rI (fun _ j => j ≠ 0) fun i j => .int (i.fdiv j)) ta tb) (dFdvA wa wb) := by
  subst hK
  exact de_op (op_fdivA hs ht (room_py hr) hst) (ops_I fun _ _ _ => .int _) ha hb
theorem de_modN (ha : DE X a ta wa) (hb : DE X b tb wb) : DE X (.BinOp a .Mod b pos) (tOp (rI (fun _ j => j ≠ 0) fun i j => .int (i.fmod j)) ta tb) (dModN wa wb) := de_op op_modN (ops_I fun _ _ _ => .int _) ha hb
/-! ### never reached -/
def wNo {α : Type} : List Sl → (α → List Sl → Prop) → Prop := fun _ _ => False
def sNo : WS := fun _ _ => False
theorem ds_no {st : Stmt} : DS X st (fun _ _ _ => False) sNo := ⟨ps_never, ⟨fun B S0 S H σ γ Dd D R e L q => q.elim⟩⟩
/-! ### while -/
def dWhile (wt : WT) (wb : WS) : WS := fun Dd γ => ∃ W : Nat → List Sl → Prop, (∃ m, W m γ) ∧ ∀ m γ, W m γ → wt γ fun b γ1 => if b = true then wb { Dd with nx := fun γ' => ∃ m', m' < m ∧ W m' γ', ct := fun γ' => ∃ m', m' < m ∧ W m' γ', bk := Dd.nx } γ1 else Dd.nx γ1
theorem ss_while {tc : TT} {wt : WT} {t : TS} {wb : WS} (hc : ST X tc wt) (hb : SS X t wb) : SS X (tWhile tc t) (dWhile wt wb) := by
  refine ⟨fun B S0 S H σ γ Dd D R e L ⟨W, ⟨m0, w0⟩, turn⟩ => ?_⟩
  refine ⟨fun m σ H => ∃ S1 γ1, Rel X B S1 H σ γ1 ∧ Same S0 S1 ∧ W m γ1, ⟨m0, S, γ, R, e, w0⟩, ?_⟩
  rintro m σ1 H1 ⟨S1, γ1, R1, e1, w1⟩
  refine hc.run B S1 H1 σ1 γ1 _ R1 (hc.mono _ _ _ (fun b γ2 q S2 H2 R2 e2 => ?_) (turn m γ1 w1))
  cases b with
  | true =>
    refine ⟨fun σ' H' => ∃ m', m' < m ∧ ∃ S3 γ3, Rel X B S3 H' σ' γ3 ∧ Same S0 S3 ∧ W m' γ3, fun σ' H' q => q, ?_⟩
    refine hb.run B S0 S2 H2 σ1 γ2 { Dd with nx := fun γ' => ∃ m', m' < m ∧ W m' γ', ct := fun γ' => ∃ m', m' < m ∧ W m' γ', bk := Dd.nx } _ R2 (e1.trans e2) ⟨fun S4 H4 σ4 γ4 e4 R4 ⟨m', hm, w⟩ => ⟨m', hm, S4, γ4, R4, e4, w⟩, fun S4 H4 σ4 γ4 v r e4 R4 rv q => L.rt S4 H4 σ4 γ4 v r e4 R4 rv q, fun S4 H4 σ4 γ4 e4 R4 q => L.nx S4 H4 σ4 γ4 e4 R4 q, fun S4 H4 σ4 γ4 e4 R4 ⟨m', hm, w⟩ => ⟨m', hm, S4, γ4, R4, e4, w⟩⟩ q
  | false => exact L.nx S2 H2 σ1 γ2 (e1.trans e2) R2 q
theorem ds_while {body : List Stmt} {tc : TT} {wt : WT} {t : TS} {wb : WS} (hp : PassesOwn (model X.prog X.w) X.A X.env X.xe) (hc : DT X c tc wt) (hb : DSs X body t wb) : DS X (.While c body [] pos) (tWhile tc t) (dWhile wt wb) := ⟨ps_while hp hc.pt hb.ps, ss_while hc.st hb.ss⟩
/-- a, b = x, y -/
def dPar (i j : Nat) (wa wb : WE) : WS := fun Dd γ => wa γ fun x γ1 => wb γ1 fun y γ2 => Dd.nx ((γ2.set i (.val x)).set j (.val y))
theorem ds_par {i j : Nat} {x y : Str} {px py pt : Pos} {kt k2 : Nat} {pt2 : Pos} (hc : X.calm = true) (hN : X.N.Nodup) (ha : DE X a ta wa) (hb : DE X b tb wb) (hi : X.N[i]? = some x := by rfl) (hj : X.N[j]? = some y := by rfl) (hij : i ≠ j := by decide) (hx : X.env.scope.names.lookup x = some .local := by rfl) (hy : X.env.scope.names.lookup y = some .local := by rfl)
    (hw : swappedStores [.Tuple [.Name x px, .Name y py] kt pt] (.Tuple [a, b] k2 pt2) X.env = pure (some [x, y]) := by rfl) (hs : swapsWithSole [.Tuple [.Name x px, .Name y py] kt pt] (.Tuple [a, b] k2 pt2) pos.line X.env = pure false := by rfl)
    (he1 : starEach (a :: [b]) X.env = (false, eval a X.env) :: starEach [b] X.env := by rfl) (he2 : starEach (b :: []) X.env = (false, eval b X.env) :: starEach [] X.env := by rfl) :
    DS X (.Assign [.Tuple [.Name x px, .Name y py] kt pt] (.Tuple [a, b] k2 pt2) pos) (tPar i j (tCons ta (tCons tb tNil))) (dPar i j wa wb) := by
  have A := da_cons ha (da_cons hb da_nil he2) he1
  refine ⟨ps_par hc hN hi hj hij hx hy A.pa hw hs, ⟨fun B S0 S H σ γ Dd D R e L q => ?_⟩⟩
  refine ha.se.run B S H σ γ _ R (ha.se.mono γ _ _ (fun x γ1 q v S1 H1 R1 e1 d1 => ?_) q)
  refine hb.se.run B S1 H1 σ γ1 _ R1 (hb.se.mono γ1 _ _ (fun y γ2 q u S2 H2 R2 e2 d2 => ?_) q)
  exact ⟨v, u, rfl, L.nx S2 H2 _ _ (e.trans (e1.trans e2)) ((R2.set (s := .val x) ⟨v, rfl, d1.mono e2⟩ rfl).set (s := .val y) ⟨u, rfl, d2⟩ rfl) q⟩
theorem i_par {γ : List Sl} {Dd : EndsD} {i j : Nat} (q : wa γ fun x γ1 => wb γ1 fun y γ2 => Dd.nx ((γ2.set i (.val x)).set j (.val y))) : dPar i j wa wb Dd γ := q
instance {γ : List Sl} {Dd : EndsD} {i j : Nat} : Go (dPar i j wa wb Dd γ) (wa γ fun x γ1 => wb γ1 fun y γ2 => Dd.nx ((γ2.set i (.val x)).set j (.val y))) := ⟨fun z => i_par z⟩
/-! ### abs, bit_length -/
def absD (ds : List D) (Q : D → Prop) : Prop := ∃ i, ds = [.int i] ∧ Q (.int (if i < 0 then -i else i))
theorem cs_abs : CallS X (fun xs H Q => ∃ i, xs = [.int i] ∧ Q (.int (if i < 0 then -i else i)) H) absD := by
  refine ⟨fun ds P P' k ⟨i, e, q⟩ => ⟨i, e, k _ q⟩, fun B S H σ γ Q vs ds R d ⟨i, e, q⟩ => ?_⟩
  subst e
  obtain ⟨v, rfl, d1⟩ := d.one
  cases d1
  exact ⟨i, rfl, q _ S H R (Same.refl S) (.int _)⟩
def dBits (wa : WE) : WE := fun γ Q => wa γ fun x γ1 => ∃ i, x = .int i ∧ Q (.int (Builtin.Int.intBits i : Nat)) γ1
theorem de_bits {apos : Pos} (ha : DE X a ta wa) (hbase : attributeBase a "bit_length" X.env (eval a X.env) = eval a X.env := by rfl) (hline : (apos.endLine == pos.line) = true := by rfl) : DE X (.Call (.Attribute a "bit_length" apos) [] [] pos) (tBits ta) (dBits wa) := by
  refine ⟨pe_bits ha.pe hbase hline, fun γ P P' k q => ha.se.mono γ _ _ (fun x γ1 ⟨i, e, q⟩ => ⟨i, e, k _ _ q⟩) q, fun B S H σ γ Q R q => ?_⟩
  refine ha.se.run B S H σ γ _ R (ha.se.mono γ _ _ (fun x γ1 ⟨i, e, q⟩ v S1 H1 R1 e1 d1 => ?_) q)
  subst e
  cases d1
  exact ⟨i, rfl, q _ S1 H1 R1 e1 (.int _)⟩
end
section
variable {γ : List Sl} {wa wb : WE} {Q : D → List Sl → Prop} {m n : Int} {R : D → Prop} {wt : WT} {wt : WT} {w : WS} {Dd : EndsD}
theorem i_fdvA (c : n ≠ 0) (q : R (.int (m.fdiv n))) : dI (fun _ j => j ≠ 0) (fun i j => .int (i.fdiv j)) (.int m) (.int n) R := i_I c q
theorem i_modN (c : n ≠ 0) (q : R (.int (m.fmod n))) : dI (fun _ j => j ≠ 0) (fun i j => .int (i.fmod j)) (.int m) (.int n) R := i_I c q
theorem i_abs (q : R (.int (if n < 0 then -n else n))) : absD [.int n] R := ⟨n, rfl, q⟩
instance : Go (absD [.int n] R) (R (.int (if n < 0 then -n else n))) := ⟨fun z => i_abs z⟩
theorem i_bits (q : wa γ fun x γ1 => ∃ i, x = .int i ∧ Q (.int (Builtin.Int.intBits i : Nat)) γ1) : dBits wa γ Q := q
instance : Go (dBits wa γ Q) (wa γ fun x γ1 => ∃ i, x = .int i ∧ Q (.int (Builtin.Int.intBits i : Nat)) γ1) := ⟨fun z => i_bits z⟩
theorem i_while (q : ∃ W : Nat → List Sl → Prop, (∃ m, W m γ) ∧ ∀ m γ, W m γ → wt γ fun b γ1 => if b = true then w { Dd with nx := fun γ' => ∃ m', m' < m ∧ W m' γ', ct := fun γ' => ∃ m', m' < m ∧ W m' γ', bk := Dd.nx } γ1 else Dd.nx γ1) : dWhile wt w Dd γ := q
instance : Go (dWhile wt w Dd γ) (∃ W : Nat → List Sl → Prop, (∃ m, W m γ) ∧ ∀ m γ, W m γ → wt γ fun b γ1 => if b = true then w { Dd with nx := fun γ' => ∃ m', m' < m ∧ W m' γ', ct := fun γ' => ∃ m', m' < m ∧ W m' γ', bk := Dd.nx } γ1 else Dd.nx γ1) := ⟨fun z => i_while z⟩
end
end DL
set_option Elab.async false
set_option linter.all false
set_option autoImplicit false
set_option maxRecDepth 100000
set_option maxHeartbeats 4000000
/-! DL12: instances: made, read, set, their methods and special methods. -/
namespace DL
open PySem PySem.Spec PyProof.Rows L2
section
variable {X : Xb} {pins : List (Addr × Obj)} {σ : L2.St} {H : Hp} {s : Shared} {A : Around} {CX : CXT} {n : Nat} {f C : Addr} {fd : FuncData} {ps : List Str} {sp : Sp} {E : XK} {Q : VK}
/-- a call of a def from within the library's code -/
theorem fcall {us : List Value} {vs : List V} (F : FnOk X.prog X.w X.K X.mg X.base CX n f fd ps sp) (hr : Room n A) (hfr : A.frames = X.A.frames) (hb : Binds X.K fd ps []) (hx : Passes CX X E) (I : Inv X pins σ H s) (r2 : Vals vs us) (hsp : sp vs H Q E) :
    wpAny (model X.prog X.w) A (call (.ref f) us) (EP X pins σ Q) X.xe s := by
  have e0 : Env0 X.prog X.w X.K X.mg X.base A X.stack s H := by
    have e := I.env0
    exact ⟨by rw [hfr]; exact e.frames, e.mod, e.bs, e.bsz, e.funs, e.frf, e.hok, e.bare⟩
  have hl := F.len _ _ _ _ hsp
  refine wpAny_call (codeAny_mono (F.run A X.stack s H ⟨us, []⟩ us vs Q E hr e0 (by
    have := hb s us I.kIn (by rw [List.append_nil, ← r2.length]; exact hl)
    simpa using this) r2 hsp) fun r s' hq => ?_)
  cases r with
  | error e => exact hx pins σ H s e s' I hq
  | ok fl =>
    cases fl with
    | ret w => exact I.after hq
    | next => exact False.elim hq
    | brk => exact False.elim hq
    | cont => exact False.elim hq
theorem inst_at {a dx : Addr} {fs : List (Str × V)} (I : Inv X pins σ H s) (e : H a = some (.ins C dx fs)) : ∃ ox od, PySem.W.InstAt s.heap a ox C od := by
  obtain ⟨mA, J, _⟩ := ins_get I.hok e
  obtain ⟨od, J, _⟩ := J.look
  exact ⟨_, od, J⟩
/-- x in c, c an instance of an own class -/
def rInO (C : Addr) (sp : Sp) (neg : Bool) (E : XK) : R2 := fun x y H Q => ∃ a dx fs, y = .ref a ∧ H a = some (.ins C dx fs) ∧ sp [.ref a, x] H (fun v H' => ∃ b, v = .bl b ∧ Q (.bl (if neg then !b else b)) H') E
/-- a + b, a, b two instances of an own class; what comes is not NotImplemented -/
def rBinO (C : Addr) (sp : Sp) (E : XK) : R2 := fun x y H Q => ∃ a dx fs b dy gs, x = .ref a ∧ y = .ref b ∧ H a = some (.ins C dx fs) ∧ H b = some (.ins C dy gs) ∧ sp [.ref a, .ref b] H (fun v H' => (∃ p, v = .ref p) ∧ Q v H') E
/-- a == b of two instances of an own class -/
def rCmpO (C : Addr) (sp : Sp) (E : XK) : R2 := fun x y H Q => ∃ a dx fs b dy gs, x = .ref a ∧ y = .ref b ∧ H a = some (.ins C dx fs) ∧ H b = some (.ins C dy gs) ∧ sp [.ref a, .ref b] H (fun v H' => (∃ p, v = .bl p) ∧ Q v H') E
theorem op_eqO (F : FnOk X.prog X.w X.K X.mg X.base CX n f fd ps sp) (hr : Room n X.A) (hs : PySem.W.findIn X.K (.ref C) "__eq__" = some (some (.ref f))) (hf : PySem.W.isFn X.K (.ref f) = true) (hb : Binds X.K fd ps []) (hx : Passes CX X E) : OpR X (compareOp .Eq) (rCmpO C sp E) := by
  intro pins s σ H x y v u Q I rx ry ⟨a, dx, fs, b, dy, gs, ex, ey, ea, eb, q⟩
  subst ex ey
  obtain rfl : v = Value.ref a := rx
  obtain rfl : u = Value.ref b := ry
  obtain ⟨ox, od, J⟩ := inst_at I ea
  obtain ⟨oy, od', J'⟩ := inst_at I eb
  obtain ⟨m, hF⟩ := I.fr
  show wpAny (model X.prog X.w) X.A (richCompare .Eq (.ref a) (.ref b)) (EP X pins σ Q) X.xe s
  refine PySem.W.cmp_K (op := .Eq) (tb := .ref C) hr.units0 hF I.ok.mod.kin J J'.type (by simp [PySem.W.notFirst]) hs hf (wpAny_mono (fcall F hr rfl hb hx (vs := [.ref a, .ref b]) I (.cons rfl (.cons rfl .nil)) q) (fun r s' z => ?_) fun _ _ z => z)
  obtain ⟨v', H', I', rz, ⟨p, ez⟩, q'⟩ := z
  subst ez
  obtain rfl : r = Value.bool p := rz
  exact ⟨.bl p, H', I', rfl, q'⟩
/-- len of an instance -/
def rLenO (C : Addr) (sp : Sp) (E : XK) : List V → Hp → VK → Prop := fun xs H Q => ∃ a dx fs, xs = [.ref a] ∧ H a = some (.ins C dx fs) ∧ sp [.ref a] H (fun v H' => ∃ i : Int, v = .int i ∧ (0 ≤ i ∧ i < 2 ^ 63) ∧ Q (.int i) H') E
theorem call_lenO (F : FnOk X.prog X.w X.K X.mg X.base CX n f fd ps sp) (hr : Room (n + 1) X.A) (hs : PySem.W.findIn X.K (.ref C) "__len__" = some (some (.ref f))) (hf : PySem.W.isFn X.K (.ref f) = true) (hb : Binds X.K fd ps []) (hx : Passes CX X E) : CallR X (.builtin "len") (rLenO C sp E) := by
  intro pins s σ H xs us Q I r ⟨a, dx, fs, ex, ea, q⟩
  subst ex
  obtain ⟨u, rfl, ru⟩ := vals1 r
  obtain rfl : u = Value.ref a := ru
  obtain ⟨ox, od, J⟩ := inst_at I ea
  obtain ⟨m, hF⟩ := I.fr
  refine PySem.W.len_K hF I.ok.mod.kin J hs hf (wpAny_mono (fcall F hr.in1 rfl hb hx (vs := [.ref a]) I (.cons rfl .nil) q) (fun r s' z => ?_) fun _ _ z => z)
  obtain ⟨v', H', I', rz, i, ez, hi, q'⟩ := z
  subst ez
  obtain ⟨t, rfl⟩ := rz
  exact ⟨hi, .int i, H', I'.tok _, ⟨_, rfl⟩, q'⟩
end
end DL
namespace DL
open PySem PySem.Spec PyProof.Rows L2
section
variable {X : Xb} {B : Bs} {S S' H H' : Hp} {σ : L2.St} {γ : List Sl} {v : V} {r : Rv}
/-- what a call hands out, as a value -/
theorem Rel.got (R : Rel X B S H σ γ) (C : Rel0 X.K ⟨H, S, [], [], emptyH⟩ S' H' [] []) (rv : RvOk ⟨H, S, [], [], emptyH⟩ S' H' v r) : ∃ S2, Rel X B S2 H' σ γ ∧ Same S S2 ∧ Den S2 v r.val := by
  cases r with
  | d d => exact ⟨S', R.call C, C.grow, rv⟩
  | f ds' =>
    obtain ⟨a, xs, rfl, k1, k2, k3, k4⟩ := rv
    have k2' : H a = none := k2
    have e6 : Same S' (upd S' a (.lst xs)) := Same.upd (Same.refl S') k1
    exact ⟨_, (R.callN C k2' k3 k1).frzF, C.grow.trans e6, .ofL upd_same (k4.mono e6)⟩
  | o C' fs =>
    obtain ⟨a, dx, xs, rfl, k1, k2, k3, k4⟩ := rv
    have k2' : H a = none := k2
    have e6 : Same S' (upd S' a (.ins C' dx xs)) := Same.upd (Same.refl S') k1
    exact ⟨_, (R.callN C k2' k3 k1).frzF, C.grow.trans e6, .ofO upd_same (k4.mono e6)⟩
/-- a new object out of all sight -/
theorem Rel.newOut {p : Addr} {o : HO} (R : Rel X B S H σ γ) (h : H p = none) : Rel X B S (upd H p o) σ γ := (R.newF h).unfram.1
/-- behind a call that may change what is kept aside at p -/
theorem Rel.callFr {SP : Hp} {p : Addr} {o o' : HO} (R : Rel X (B.fram p o) S H σ γ) (C : Rel0 X.K ⟨H, S, [p], [], SP⟩ S' H' [] []) (k1 : S' p = none) (k2 : H' p = some o') : Rel X (B.fram p o') S' H' σ γ := by
  refine ⟨?_, R.x.mono C.grow⟩
  obtain ⟨φ, r⟩ := R.r
  obtain ⟨h1, h2, h3, h4⟩ := r.frm p o (List.mem_cons_self ..)
  have n : ((p, o) :: B.fr |>.map (·.1)).Nodup := r.frn
  rw [List.map_cons] at n
  have hk : ∀ a o, H a = some o → a ≠ p → H' a = some o := fun a o e n => C.keep a o e (by intro z; exact n (List.mem_singleton.mp z))
  have hS : ∀ a o, H a = some o → S a = none → S' a = none := fun a o e n => by
    cases q : S' a with
    | none => rfl
    | some u =>
      rcases C.ext a u q with z | z
      · have z' : S a = some u := z
        rw [n] at z'; cases z'
      · have z' : H a = none := z
        rw [e] at z'; cases z'
  have np : ∀ {i a u}, φ i a = some u → a ≠ p := fun {i a u} e z => by subst z; rw [h4 i] at e; cases e
  refine ⟨φ, C.same, fun a x e hm => hk a x (r.keep a x e hm) (ne_of_none e h3), fun a ha => ?_, fun a x e => C.grow a x (r.grow a x e), fun a x e => ?_, r.len, fun i s e => (r.sl i s e).mono C.grow, fun i a x e => hk a x (r.phH i a x e) (np e), fun i a x e => hS a x (r.phH i a x e) (r.phS i a x e), r.phD, r.phO, fun q u hq => ?_, ?_, r.spS⟩
  · obtain ⟨f1, ⟨x, f2⟩, y, f3⟩ := r.muk a ha
    exact ⟨f1, ⟨x, f2⟩, y, hk a y f3 (ne_of_none f2 h3)⟩
  · rcases C.ext a x e with z | z
    · exact r.ext a x z
    · exact .inr (r.fresh0 z)
  · rcases List.mem_cons.mp hq with z | z
    · cases z; exact ⟨k2, k1, h3, h4⟩
    · obtain ⟨f1, f2, f3⟩ := r.frm q u (List.mem_cons_of_mem _ z)
      refine ⟨hk q u f1 (fun w => (List.nodup_cons.mp n).1 (by subst w; exact List.mem_map.mpr ⟨_, z, rfl⟩)), hS q u f1 f2, f3⟩
  · show ((p, o') :: B.fr |>.map (·.1)).Nodup
    rw [List.map_cons]
    exact n
end
/-! ### special methods over data -/
structure OpSK (X : Xb) (r : R2) (f : D → D → (D → Prop) → Prop) : Prop where
  mono : ∀ x y (P P' : D → Prop), (∀ d, P d → P' d) → f x y P → f x y P'
  run : ∀ B S H σ γ (Q : VK) v u x y, Rel X B S H σ γ → Den S v x → Den S u y → f x y (fun d => ∀ z S' H', Rel X B S' H' σ γ → Same S S' → Den S' z d → Q z H') → r v u H Q
section
variable {K : PySem.W.Frag} {X : Xb} {a b c e : Expr} {ta tb tc te : TE} {wa wb wc we : WE} {pos p : Pos}
theorem se_opK {r : R2} {f : D → D → (D → Prop) → Prop} (ho : OpSK X r f) (ha : SE X ta wa) (hb : SE X tb wb) : SE X (tOp r ta tb) (dOp f wa wb) := by
  refine ⟨fun γ P P' k q => ha.mono γ _ _ (fun x γ1 q => hb.mono γ1 _ _ (fun y γ2 q => ho.mono x y _ _ (fun d q => k _ _ q) q) q) q, fun B S H σ γ Q R q => ?_⟩
  refine ha.run B S H σ γ _ R (ha.mono γ _ _ (fun x γ1 q v S1 H1 R1 e1 d1 => ?_) q)
  refine hb.run B S1 H1 σ γ1 _ R1 (hb.mono γ1 _ _ (fun y γ2 q u S2 H2 R2 e2 d2 => ?_) q)
  exact ho.run B S2 H2 σ γ2 Q v u x y R2 (d1.mono e2) d2 (ho.mono _ _ _ _ (fun d q z S' H' R' e d' => q z S' H' R' ((e1.trans e2).trans e) d') q)
variable {C f : Addr} {s : SpecD} {k : Nat} {fd : FuncData} {ps : List Str}
def fInO (C : Addr) (s : SpecD) (neg : Bool) (x y : D) (Q : D → Prop) : Prop := ∃ fs, y = .obj C fs ∧ s.S [.obj C fs, x] fun r => ∃ b, r = .d (.bl b) ∧ Q (.bl (if neg then !b else b))
/-- a == b of two instances -/
def fCmpO (C : Addr) (s : SpecD) (x y : D) (Q : D → Prop) : Prop := ∃ fs gs, x = .obj C fs ∧ y = .obj C gs ∧ s.S [.obj C fs, .obj C gs] fun r => ∃ b, r = .d (.bl b) ∧ Q (.bl b)
theorem ops_eqO : OpSK X (rCmpO C (spV X.K s) E0) (fCmpO C s) := by
  refine ⟨fun x y P P' k ⟨fs, gs, e, e', q⟩ => ⟨fs, gs, e, e', s.mono _ _ _ (fun r ⟨b, e, q⟩ => ⟨b, e, k _ q⟩) q⟩, fun B S H σ γ Q v u x y R d1 d2 ⟨fs, gs, e, e', q⟩ => ?_⟩
  subst e e'
  obtain ⟨a, dx, vs, rfl, h1, h2⟩ := d1.obj_inv
  obtain ⟨b, dy, us, rfl, h3, h4⟩ := d2.obj_inv
  refine ⟨a, dx, vs, b, dy, us, rfl, rfl, R.same _ _ h1, R.same _ _ h3, S, [.obj C fs, .obj C gs], R.same, .cons d1 (.cons d2 .nil), s.mono _ _ _ (fun r ⟨b, e, q⟩ v' S' H' C' rv => ?_) q⟩
  subst e
  cases rv
  exact ⟨⟨b, rfl⟩, q _ S' H' (R.call C') C'.grow (.bl _)⟩
theorem de_eqO (K' : PySem.W.Frag) (F : FnOk X.prog X.w X.K X.mg X.base CX0 k f fd ps (spV K' s)) (hr : Room k X.A) (hs : PySem.W.findIn X.K (.ref C) "__eq__" = some (some (.ref f))) (hf : PySem.W.isFn X.K (.ref f) = true) (hb : Binds X.K fd ps []) (ha : DE X a ta wa) (hc : DE X b tb wb) (hK : X.K = K' := by rfl) :
    DE X (.Compare a [.Eq] [b] pos) (tOp (rCmpO C (spV K' s) E0) ta tb) (dOp (fCmpO C s) wa wb) := by
  subst hK
  exact ⟨pe_cmpR (op_eqO F hr hs hf hb pass0) ha.pe hc.pe (nomark _), se_opK ops_eqO ha.se hc.se⟩
/-- a + b of two instances -/
def fAddO (C : Addr) (s : SpecD) (x y : D) (Q : D → Prop) : Prop := ∃ fs gs, x = .obj C fs ∧ y = .obj C gs ∧ s.S [.obj C fs, .obj C gs] fun r => ∃ C' hs, r = .o C' hs ∧ Q (.obj C' hs)
/-- len of an instance -/
def fLenO (C : Addr) (s : SpecD) (ds : List D) (Q : D → Prop) : Prop := ∃ fs, ds = [.obj C fs] ∧ s.S [.obj C fs] fun r => ∃ i, r = .d (.int i) ∧ (0 ≤ i ∧ i < 2 ^ 63) ∧ Q (.int i)
theorem cs_lenO : CallS X (rLenO C (spV X.K s) E0) (fLenO C s) := by
  refine ⟨fun ds P P' k ⟨fs, e, q⟩ => ⟨fs, e, s.mono _ _ _ (fun r ⟨i, e, h, q⟩ => ⟨i, e, h, k _ q⟩) q⟩, fun B S H σ γ Q vs ds R d ⟨fs, e, q⟩ => ?_⟩
  subst e
  obtain ⟨v, rfl, d1⟩ := d.one
  have d1' := d1
  obtain ⟨a, dx, vs, rfl, h1, h2⟩ := d1.obj_inv
  refine ⟨a, dx, vs, rfl, R.same _ _ h1, S, [.obj C fs], R.same, .cons d1' .nil, s.mono _ _ _ (fun r ⟨i, e, h, q⟩ v' S' H' C' rv => ?_) q⟩
  subst e
  cases rv
  exact ⟨i, rfl, h, q _ S' H' (R.call C') C'.grow (.int _)⟩
theorem de_lenOb (K' : PySem.W.Frag) (F : FnOk X.prog X.w X.K X.mg X.base CX0 k f fd ps (spV K' s)) (hr : Room (k + 1) X.A) (hs : PySem.W.findIn X.K (.ref C) "__len__" = some (some (.ref f))) (hf : PySem.W.isFn X.K (.ref f) = true) (hb : Binds X.K fd ps []) {t : TA} {w : WA} (hm : X.mg "len" = none) (ha : DA X [e] t w) (hg : Gl X "len" := by rfl) (he : starEach (e :: []) X.env = (false, eval e X.env) :: starEach [] X.env := by rfl) (hK : X.K = K' := by rfl) :
    DE X (.Call (.Name "len" p) [e] [] pos) (tCB (rLenO C (spV K' s) E0) t) (dCall (fLenO C s) w) := by
  subst hK
  exact de_callB cs_lenO (call_lenO F hr hs hf hb pass0) hm PySem.boot_len ha hg (by decide) (by decide) he
/-! ### attributes and methods of instances that are values -/
def dFld (K : PySem.W.Frag) (f : Str) (wa : WE) : WE := fun γ Q => wa γ fun x γ1 => ∃ C fs d, x = .obj C fs ∧ (Cls K C ∧ NoAttr K C f) ∧ fs.lookup f = some d ∧ Q d γ1
theorem de_fld (K' : PySem.W.Frag) {f : Str} (ha : DE X e ta wa) (hb : attributeBase e f X.env (eval e X.env) = eval e X.env := by rfl) (hK : X.K = K' := by rfl) : DE X (.Attribute e f pos) (tFld K' ta f) (dFld K' f wa) := by
  subst hK
  refine ⟨pe_fld ha.pe hb, fun γ P P' k q => ha.se.mono γ _ _ (fun x γ1 ⟨C, fs, d, e, c, l, q⟩ => ⟨C, fs, d, e, c, l, k _ _ q⟩) q, fun B S H σ γ Q R q => ?_⟩
  refine ha.se.run B S H σ γ _ R (ha.se.mono γ _ _ (fun x γ1 ⟨C, fs, d, e, c, l, q⟩ v S1 H1 R1 e1 d1 => ?_) q)
  subst e
  obtain ⟨a, dx, vs, rfl, h1, h2⟩ := d1.obj_inv
  obtain ⟨u, lu, du⟩ := h2.look l
  exact ⟨a, C, dx, vs, u, rfl, R1.same _ _ h1, c.1, c.2, lu, q u S1 H1 R1 e1 du⟩
def dMeth (C : Addr) (m : Str) (s : SpecD) (wa : WE) (w : WA) : WE := fun γ Q => wa γ fun x γ1 => ∃ fs, x = .obj C fs ∧ fs.lookup m = none ∧ w γ1 fun ds γ2 => s.S (.obj C fs :: ds) fun r => Q r.val γ2
def dMethF (C : Addr) (m : Str) (s : SpecD) (wa : WE) (w : WA) : WF := fun γ Q => wa γ fun x γ1 => ∃ fs, x = .obj C fs ∧ fs.lookup m = none ∧ w γ1 fun ds γ2 => s.S (.obj C fs :: ds) fun r => ∃ es, r = .f es ∧ Q es γ2
theorem se_meth {m : Str} {t : TA} {w : WA} (ha : SE X ta wa) (h : SA X t w) : SE X (tMeth C m (spV X.K s) [] E0 ta t) (dMeth C m s wa w) := by
  refine ⟨fun γ P P' k q => ha.mono γ _ _ (fun x γ1 ⟨fs, e, l, q⟩ => ⟨fs, e, l, h.mono γ1 _ _ (fun ds γ2 q => s.mono _ _ _ (fun r q => k _ _ q) q) q⟩) q, fun B S H σ γ Q R q => ?_⟩
  refine ha.run B S H σ γ _ R (ha.mono γ _ _ (fun x γ1 ⟨fs, e, l, q⟩ v S1 H1 R1 e1 d1 => ?_) q)
  subst e
  have d1' := d1
  obtain ⟨a, dx, vs, rfl, h1, h2⟩ := d1.obj_inv
  refine ⟨a, dx, vs, rfl, R1.same _ _ h1, h2.lookNone l, ?_⟩
  refine h.run B S1 H1 σ γ1 _ R1 (h.mono γ1 _ _ (fun ds γ2 q us S2 H2 R2 e2 d2 => ?_) q)
  show spV X.K s (.ref a :: (us ++ [])) H2 Q E0
  rw [List.append_nil]
  refine ⟨S2, .obj C fs :: ds, R2.same, .cons (d1'.mono e2) d2, s.mono _ _ _ (fun r q v S' H' C' rv => ?_) q⟩
  obtain ⟨S3, R3, e3, dn⟩ := R2.got C' rv
  exact q v S3 H' R3 (e1.trans (e2.trans e3)) dn
theorem sf_meth {m : Str} {t : TA} {w : WA} (ha : SE X ta wa) (h : SA X t w) : SF X (tMeth C m (spV X.K s) [] E0 ta t) (dMethF C m s wa w) := by
  refine ⟨fun γ P P' k q => ha.mono γ _ _ (fun x γ1 ⟨fs, e, l, q⟩ => ⟨fs, e, l, h.mono γ1 _ _ (fun ds γ2 q => s.mono _ _ _ (fun r ⟨es, e, q⟩ => ⟨es, e, k _ _ q⟩) q) q⟩) q, fun B S H σ γ Q R q => ?_⟩
  refine ha.run B S H σ γ _ R (ha.mono γ _ _ (fun x γ1 ⟨fs, e, l, q⟩ v S1 H1 R1 e1 d1 => ?_) q)
  subst e
  have d1' := d1
  obtain ⟨a, dx, vs, rfl, h1, h2⟩ := d1.obj_inv
  refine ⟨a, dx, vs, rfl, R1.same _ _ h1, h2.lookNone l, ?_⟩
  refine h.run B S1 H1 σ γ1 _ R1 (h.mono γ1 _ _ (fun ds γ2 q us S2 H2 R2 e2 d2 => ?_) q)
  show spV X.K s (.ref a :: (us ++ [])) H2 Q E0
  rw [List.append_nil]
  refine ⟨S2, .obj C fs :: ds, R2.same, .cons (d1'.mono e2) d2, s.mono _ _ _ (fun r ⟨es, e, q⟩ v S' H' C' rv => ?_) q⟩
  subst e
  obtain ⟨b, xs, rfl, k1, k2, k3, k4⟩ := rv
  have k2' : H2 b = none := k2
  exact q b xs S' H' (R2.callN C' k2' k3 k1) (e1.trans (e2.trans C'.grow)) k4
section
variable {o : Expr} {m : Str} {es : List Expr} {apos : Pos} {pl : Sem Bool} {t : TA} {w : WA}
theorem de_meth0 (K' : PySem.W.Frag) (he : DE X o ta wa) (c : Cls X.K C) (hm : Meth X.K C m f) (F : FnOk X.prog X.w X.K X.mg X.base CX0 k f fd ps (spV K' s)) (hr : Room k X.A) (hb : Binds X.K fd ps [])
    (ht : eval (.Call (.Attribute o m apos) [] [] pos) X.env = (do
      let ov ← eval o X.env
      standAt apos.atName
      let (f, first) ← holding [ov] (getMethod ov m pl)
      callWith pos f first (backTo pos (starEach [] X.env)) (backToKw pos (keywordEach [] X.env))) := by rfl) (hK : X.K = K' := by rfl) : DE X (.Call (.Attribute o m apos) [] [] pos) (tMeth C m (spV K' s) [] E0 ta tNil) (dMeth C m s wa dNil) := by
  subst hK
  exact ⟨pe_meth0 he.pe c hm F hr hb .nil pass0 ht, se_meth he.se da_nil.sa⟩
theorem df_meth0 (K' : PySem.W.Frag) (he : DE X o ta wa) (c : Cls X.K C) (hm : Meth X.K C m f) (F : FnOk X.prog X.w X.K X.mg X.base CX0 k f fd ps (spV K' s)) (hr : Room k X.A) (hb : Binds X.K fd ps [])
    (ht : eval (.Call (.Attribute o m apos) [] [] pos) X.env = (do
      let ov ← eval o X.env
      standAt apos.atName
      let (f, first) ← holding [ov] (getMethod ov m pl)
      callWith pos f first (backTo pos (starEach [] X.env)) (backToKw pos (keywordEach [] X.env))) := by rfl) (hK : X.K = K' := by rfl) : DF X (.Call (.Attribute o m apos) [] [] pos) (tMeth C m (spV K' s) [] E0 ta tNil) (dMethF C m s wa dNil) := by
  subst hK
  exact ⟨pe_meth0 he.pe c hm F hr hb .nil pass0 ht, sf_meth he.se da_nil.sa⟩
end
end
end DL
set_option Elab.async false
set_option linter.all false
set_option autoImplicit false
set_option maxRecDepth 100000
set_option maxHeartbeats 4000000
/-! DL13: new instances, instances of one's own. -/
namespace DL
open PySem PySem.Spec PyProof.Rows L2
abbrev WN := List Sl → (Addr → List (Str × D) → List Sl → Prop) → Prop
/-- a new instance -/
structure SN (X : Xb) (t : TE) (w : WN) : Prop where
  mono : ∀ γ (P P' : Addr → List (Str × D) → List Sl → Prop), (∀ C fs γ', P C fs γ' → P' C fs γ') → w γ P → w γ P'
  run : ∀ B S H σ γ (Q : VK), Rel X B S H σ γ → w γ (fun C fs γ' => ∀ p dx vs S' H', Rel X (B.fram p (.ins C dx vs)) S' H' σ γ' → Same S S' → DenF S' vs fs → Q (.ref p) H') → t σ H Q
structure DN (X : Xb) (e : Expr) (t : TE) (w : WN) : Prop where
  pe : PE X e t
  sn : SN X t w
section
variable {X : Xb} {K : PySem.W.Frag} {a b c e : Expr} {ta tb tc te : TE} {wa wb wc we : WE} {pos p : Pos} {es : List Expr}
/-- a new instance taken as a value -/
def dVN (w : WN) : WE := fun γ Q => w γ fun C fs γ' => Q (.obj C fs) γ'
theorem se_ofN {t : TE} {w : WN} (h : SN X t w) : SE X t (dVN w) := by
  refine ⟨fun γ P P' k q => h.mono γ _ _ (fun C fs γ' x => k _ _ x) q, fun B S H σ γ Q R q => ?_⟩
  refine h.run B S H σ γ Q R (h.mono γ _ _ (fun C fs γ' k p dx vs S' H' R' e e4 => ?_) q)
  have e6 : Same S' (upd S' p (.ins C dx vs)) := Same.upd (Same.refl S') R'.unfram.2.2.1
  exact k (.ref p) (upd S' p (.ins C dx vs)) H' R'.frzF (e.trans e6) (.ofO upd_same (e4.mono e6))
theorem DN.v {t : TE} {w : WN} (h : DN X e t w) : DE X e t (dVN w) := ⟨h.pe, se_ofN h.sn⟩
end
/-! ### promises of __init__ -/
structure SpecI where
  S : List D → (List (Str × D) → Prop) → Prop
  mono : ∀ ds P P', (∀ fs, P fs → P' fs) → S ds P → S ds P'
def SpecI.of {α : Type} (args : α → List D) (pre : α → Prop) (post : α → List (Str × D)) : SpecI := ⟨fun ds Q => ∃ a, ds = args a ∧ pre a ∧ Q (post a), fun ds P P' k ⟨a, e, h, q⟩ => ⟨a, e, h, k _ q⟩⟩
def spI (K : PySem.W.Frag) (C : Addr) (s : SpecI) : Sp := fun vs H Q _ => ∃ S p dx vs' ds, vs = .ref p :: vs' ∧ Same S H ∧ S p = none ∧ H p = some (.ins C dx []) ∧ DenL S vs' ds ∧
  s.S ds fun fs => ∀ S' H' dx' us, Rel0 K ⟨H, S, [p], [], emptyH⟩ S' H' [] [] → S' p = none → H' p = some (.ins C dx' us) → DenF S' us fs → Q .non H'
section
variable {X : Xb} {K : PySem.W.Frag} {C f : Addr} {fd : FuncData} {ps : List Str} {k : Nat} {x : Str} {e : Expr} {es : List Expr} {t : TA} {w : WA} {p pos : Pos} {s : SpecI}
def dMake (C : Addr) (s : SpecI) (w : WA) : WN := fun γ Q => w γ fun ds γ1 => s.S ds fun fs => Q C fs γ1
theorem sn_make (h : SA X t w) : SN X (tMake C (spI X.K C s) [] E0 t) (dMake C s w) := by
  refine ⟨fun γ P P' k q => h.mono γ _ _ (fun ds γ1 q => s.mono _ _ _ (fun r q => k _ _ _ q) q) q, fun B S H σ γ Q R q => ?_⟩
  refine h.run B S H σ γ _ R (h.mono γ _ _ (fun ds γ1 q vs S1 H1 R1 e1 d1 x dx hx hdx ne => ?_) q)
  rw [List.append_nil]
  have R2 := R1.newOut (o := .own x) hdx
  have hx2 : upd H1 dx (.own x) x = none := by rw [upd_ne (fun z => ne z.symm)]; exact hx
  have R3 := R2.newF (o := .ins C dx []) hx2
  have S3 : S1 x = none := R3.unfram.2.2.1
  refine ⟨S1, x, dx, vs, ds, rfl, R3.same, S3, upd_same, d1, s.mono _ _ _ (fun fs q S' H' dx' us C' k1 k2 k3 => ?_) q⟩
  exact ⟨rfl, q x dx' us S' H' (R3.callFr C' k1 k2) (e1.trans C'.grow) k3⟩
theorem dn_make (K' : PySem.W.Frag) (M : Mk X.K C f) (F : FnOk X.prog X.w X.K X.mg X.base CX0 k f fd ps (spI K' C s)) (hr : Room (k + 1) X.A) (hm : X.mg x = some (.ref C)) (hb : Binds X.K fd ps []) (ha : DA X (e :: es) t w) (hg : Gl X x := by rfl)
    (hdb : (x == ("__debug__" : Str)) = false := by decide) (he : starEach (e :: es) X.env = (false, eval e X.env) :: starEach es X.env := by rfl) (hpl : (backTo pos (starEach es X.env)).any (·.1) = false := by rfl) (hK : X.K = K' := by rfl) :
    DN X (.Call (.Name x p) (e :: es) [] pos) (tMake C (spI K' C s) [] E0 t) (dMake C s w) := by
  subst hK
  exact ⟨pe_make M F hr hg hm hb .nil pass0 ha.pa hdb he hpl, sn_make ha.sa⟩
end
def gamI (N : List Str) (m : Bool) (C : Addr) (ds : List D) : List Sl := .ins m C [] :: (ds.map .val ++ List.replicate (N.length - (ds.length + 1)) .any)
section
variable {P : Program} {w : World} {K : PySem.W.Frag} {mg : Str → Option Value} {base : Heap} {x qual : Str} {st : Stmt} {f C : Addr} {fd : FuncData} {N ps : List Str} {k : Nat}
/-- THE RULE for an __init__ that raises nothing -/
theorem fn_okI {s : SpecI} (F : Fun K x qual st f fd) (Sc : FnScope N ps (defScope st)) (len : ∀ ds Q, s.S ds Q → ds.length + 1 = ps.length)
    (hbody : ∀ (cdv : Value) (A : Around) (outer : List Env) (s0 : Shared) (H : Hp) (E : XK), Room k (A.deeper (envOfC qual (defScope st) s0.heap.objs.size f cdv)) →
      ∃ t w', DSs (Xb.of (cxOf CX0 P w K mg base N qual (defScope st) f cdv A outer s0 H E).nox) (defBody st) t w' ∧ ∀ ds Q, s.S ds Q → w' { nx := fun γ => ∃ fs, γ[0]? = some (.ins true C fs) ∧ Q fs, rt := fun r γ => False } (gamI N true C ds)) : FnOk P w K mg base CX0 (k + 1) f fd ps (spI K C s) := by
  refine F.ok Sc (fun vs H Q E h => ?_) (fun cdv A outer s0 H vs Q E hr h => ?_)
  · obtain ⟨S, p, dx, vs', ds, rfl, e, h1, h2, hd, q⟩ := h
    rw [List.length_cons, hd.1]
    exact len _ _ q
  · obtain ⟨S, p, dx, vs', ds, rfl, e, h1, h2, hd, q⟩ := h
    obtain ⟨t, w', k1, k2⟩ := hbody cdv A outer s0 H E hr
    refine ⟨t, k1.ps, ?_⟩
    have R0 : Rel0 K ⟨H, S, [p], [], emptyH⟩ S H (L2.start N (.ref p :: vs')) (gamI N true C ds) := start_relT e (fun a o e => (by cases e)) h1 h2 (s := .ins true C []) ⟨p, dx, [], rfl, upd_same, .nil, fun _ => List.mem_singleton.mpr rfl⟩ rfl hd
    refine k1.ss.run ⟨H, S, [p], [], emptyH⟩ S S H _ (gamI N true C ds) { nx := fun γ => ∃ fs, γ[0]? = some (.ins true C fs) ∧ _, rt := fun r γ => False } _ (Rel0.of R0) (Same.refl S) ⟨fun S' H' σ' γ' _ R ⟨fs, g, q⟩ => ?_, fun S' H' σ' γ' v r _ R rv q => q.elim, fun S' H' σ' γ' _ R q => q.elim, fun S' H' σ' γ' _ R q => q.elim⟩ (k2 ds _ q)
    obtain ⟨q', dx', us, f1, f2, f3, f4, f5⟩ := R.sl 0 _ g
    have : q' = p := List.mem_singleton.mp (f5 rfl)
    subst this
    exact q _ _ dx' us R.nil f2 f3 f4
end
/-! ### instances of one's own -/
section
variable {X : Xb} {K : PySem.W.Frag} {a b c e : Expr} {ta tb tc te : TE} {wa wb wc we : WE} {pos p : Pos}
/-- x = C(..), kept as one's own -/
def dSetN (i : Nat) (w : WN) : WS := fun Dd γ => w γ fun C fs γ1 => Dd.nx (γ1.set i (.ins false C fs))
/-- return C(..) -/
def dRetN' (w : WN) : WS := fun Dd γ => w γ fun C fs γ1 => Dd.rt (.o C fs) γ1
/-- return of an instance of one's own, at a name -/
def dRetI (i : Nat) : WS := fun Dd γ => ∃ C fs, γ[i]? = some (.ins false C fs) ∧ Dd.rt (.o C fs) (γ.set i .any)
/-- an instance of one's own as a value from here on -/
def dVarI (i : Nat) : WE := fun γ Q => ∃ C fs, γ[i]? = some (.ins false C fs) ∧ Q (.obj C fs) (γ.set i (.val (.obj C fs)))
/-- x.f, x an instance of one's own -/
def dFldI (K : PySem.W.Frag) (i : Nat) (f : Str) : WE := fun γ Q => ∃ m C fs d, γ[i]? = some (.ins m C fs) ∧ (Cls K C ∧ NoAttr K C f) ∧ fs.lookup f = some d ∧ Q d γ
/-- x.f = e, x an instance of one's own -/
def dPutI (K : PySem.W.Frag) (i : Nat) (f : Str) (we : WE) : WS := fun Dd γ => we γ fun d γ1 => ∃ m C fs, γ1[i]? = some (.ins m C fs) ∧ (Cls K C ∧ NoAttr K C f) ∧ fs.length < 1000 ∧ Dd.nx (γ1.set i (.ins m C (putD f d fs)))
theorem ds_putI (K' : PySem.W.Frag) (i : Nat) {x f : Str} {px pa : Pos} (h : DE X e te we) (hN : X.N[i]? = some x := by rfl) (hv : Vis X.env.scope x := by first | exact Or.inl rfl | exact Or.inr (Or.inl rfl) | exact Or.inr (Or.inr rfl)) (hd : (x == ("__debug__" : Str)) = false := by decide)
    (hcd : (x == ("__classdict__" : Str)) = false := by decide) (hs : swapsWith e (some (.Attribute (.Name x px) f pa)) pos.line X.env = pure false := by rfl) (hK : X.K = K' := by rfl) : DS X (.Assign [.Attribute (.Name x px) f pa] e pos) (sFld K' (tVar i) te f) (dPutI K' i f we) := by
  subst hK
  refine ⟨ps_fld (pe_var hN hv hd hcd) h.pe hs, ⟨fun B S0 S H σ γ Dd D R e L q => ?_⟩⟩
  refine h.se.run B S H σ γ _ R (h.se.mono γ _ _ (fun d γ1 ⟨m, C, fs, g, c, hl, q⟩ v S1 H1 R1 e1 d1 => ?_) q)
  obtain ⟨p, dx, vs, f1, f2, f3, f4, f5⟩ := R1.sl i _ g
  exact ⟨.ref p, f1, p, C, dx, vs, rfl, f3, c.1, c.2, by rw [f4.1]; exact hl, L.nx S1 _ σ _ (e.trans e1) (R1.chgI (vs := vs) g f1 (f4.put d1)) q⟩
/-- {} -/
theorem de_emp : DE X (.Dict [] [] pos) tDNewK (dC .emp) :=
  ⟨pe_dnewK, fun γ P P' k q => k _ _ q, fun B S H σ γ Q R q p hp => q (.ref p) _ _ (R.new hp) (Same.upd (Same.refl S) (R.freshS hp)) (.emp upd_same)⟩
/-- is, is not of bools -/
def fIsB (neg : Bool) (x y : D) (Q : D → Prop) : Prop := ∃ a b, x = .bl a ∧ y = .bl b ∧ Q (.bl (if neg then !decide (a = b) else decide (a = b)))
end
/-! ### stepping -/
section
variable {γ : List Sl} {i : Nat} {ds : List D} {d : D} {C : Addr} {fs : List (Str × D)} {f : Str} {K : PySem.W.Frag} {we wa : WE} {w : WA} {wn : WN} {Q : D → List Sl → Prop} {QF : List D → List Sl → Prop} {QN : Addr → List (Str × D) → List Sl → Prop} {Dd : EndsD} {s : SpecI} {sd : SpecD} {m : Str} {R : D → Prop} {mm : Bool}
theorem i_vn (q : wn γ fun C fs γ' => Q (.obj C fs) γ') : dVN wn γ Q := q
instance : Go (dVN wn γ Q) (wn γ fun C fs γ' => Q (.obj C fs) γ') := ⟨fun z => i_vn z⟩
theorem i_make (q : w γ fun ds γ1 => s.S ds fun fs => QN C fs γ1) : dMake C s w γ QN := q
instance : Go (dMake C s w γ QN) (w γ fun ds γ1 => s.S ds fun fs => QN C fs γ1) := ⟨fun z => i_make z⟩
theorem i_setN (q : wn γ fun C fs γ1 => Dd.nx (γ1.set i (.ins false C fs))) : dSetN i wn Dd γ := q
instance : Go (dSetN i wn Dd γ) (wn γ fun C fs γ1 => Dd.nx (γ1.set i (.ins false C fs))) := ⟨fun z => i_setN z⟩
theorem i_retNew (q : wn γ fun C fs γ1 => Dd.rt (.o C fs) γ1) : dRetN' wn Dd γ := q
instance : Go (dRetN' wn Dd γ) (wn γ fun C fs γ1 => Dd.rt (.o C fs) γ1) := ⟨fun z => i_retNew z⟩
theorem i_putI (q : we γ fun d γ1 => ∃ m C fs, γ1[i]? = some (.ins m C fs) ∧ (Cls K C ∧ NoAttr K C f) ∧ fs.length < 1000 ∧ Dd.nx (γ1.set i (.ins m C (putD f d fs)))) : dPutI K i f we Dd γ := q
instance : Go (dPutI K i f we Dd γ) (we γ fun d γ1 => ∃ m C fs, γ1[i]? = some (.ins m C fs) ∧ (Cls K C ∧ NoAttr K C f) ∧ fs.length < 1000 ∧ Dd.nx (γ1.set i (.ins m C (putD f d fs)))) := ⟨fun z => i_putI z⟩
theorem i_putI2 {F : Bool → Addr → List (Str × D) → Prop} (g : γ[i]? = some (.ins mm C fs)) (c : Cls K C ∧ NoAttr K C f) (hl : fs.length < 1000) (q : F mm C fs) : ∃ m C fs, γ[i]? = some (.ins m C fs) ∧ (Cls K C ∧ NoAttr K C f) ∧ fs.length < 1000 ∧ F m C fs := ⟨mm, C, fs, g, c, hl, q⟩
theorem i_fld (q : wa γ fun x γ1 => ∃ C fs d, x = .obj C fs ∧ (Cls K C ∧ NoAttr K C f) ∧ fs.lookup f = some d ∧ Q d γ1) : dFld K f wa γ Q := q
instance : Go (dFld K f wa γ Q) (wa γ fun x γ1 => ∃ C fs d, x = .obj C fs ∧ (Cls K C ∧ NoAttr K C f) ∧ fs.lookup f = some d ∧ Q d γ1) := ⟨fun z => i_fld z⟩
theorem i_fld2 {F : D → Prop} (c : Cls K C ∧ NoAttr K C f) (l : fs.lookup f = some d) (q : F d) : ∃ C' fs' d', D.obj C fs = .obj C' fs' ∧ (Cls K C' ∧ NoAttr K C' f) ∧ fs'.lookup f = some d' ∧ F d' := ⟨C, fs, d, rfl, c, l, q⟩
theorem i_meth (q : wa γ fun x γ1 => ∃ fs, x = .obj C fs ∧ fs.lookup m = none ∧ w γ1 fun ds γ2 => sd.S (.obj C fs :: ds) fun r => Q r.val γ2) : dMeth C m sd wa w γ Q := q
instance : Go (dMeth C m sd wa w γ Q) (wa γ fun x γ1 => ∃ fs, x = .obj C fs ∧ fs.lookup m = none ∧ w γ1 fun ds γ2 => sd.S (.obj C fs :: ds) fun r => Q r.val γ2) := ⟨fun z => i_meth z⟩
theorem i_methF (q : wa γ fun x γ1 => ∃ fs, x = .obj C fs ∧ fs.lookup m = none ∧ w γ1 fun ds γ2 => sd.S (.obj C fs :: ds) fun r => ∃ es, r = .f es ∧ QF es γ2) : dMethF C m sd wa w γ QF := q
instance : Go (dMethF C m sd wa w γ QF) (wa γ fun x γ1 => ∃ fs, x = .obj C fs ∧ fs.lookup m = none ∧ w γ1 fun ds γ2 => sd.S (.obj C fs :: ds) fun r => ∃ es, r = .f es ∧ QF es γ2) := ⟨fun z => i_methF z⟩
theorem i_meth2 {F : List (Str × D) → Prop} (l : fs.lookup m = none) (q : F fs) : ∃ fs', D.obj C fs = .obj C fs' ∧ fs'.lookup m = none ∧ F fs' := ⟨fs, rfl, l, q⟩
theorem i_inO {neg : Bool} {x : D} (q : sd.S [.obj C fs, x] fun r => ∃ b, r = .d (.bl b) ∧ R (.bl (if neg then !b else b))) : fInO C sd neg x (.obj C fs) R := ⟨fs, rfl, q⟩
instance {neg : Bool} {x : D} : Go (fInO C sd neg x (.obj C fs) R) (sd.S [.obj C fs, x] fun r => ∃ b, r = .d (.bl b) ∧ R (.bl (if neg then !b else b))) := ⟨fun z => i_inO z⟩
theorem i_eqO {gs : List (Str × D)} (q : sd.S [.obj C fs, .obj C gs] fun r => ∃ b, r = .d (.bl b) ∧ R (.bl b)) : fCmpO C sd (.obj C fs) (.obj C gs) R := ⟨fs, gs, rfl, rfl, q⟩
instance {gs : List (Str × D)} : Go (fCmpO C sd (.obj C fs) (.obj C gs) R) (sd.S [.obj C fs, .obj C gs] fun r => ∃ b, r = .d (.bl b) ∧ R (.bl b)) := ⟨fun z => i_eqO z⟩
theorem i_addO {gs : List (Str × D)} (q : sd.S [.obj C fs, .obj C gs] fun r => ∃ C' hs, r = .o C' hs ∧ R (.obj C' hs)) : fAddO C sd (.obj C fs) (.obj C gs) R := ⟨fs, gs, rfl, rfl, q⟩
instance {gs : List (Str × D)} : Go (fAddO C sd (.obj C fs) (.obj C gs) R) (sd.S [.obj C fs, .obj C gs] fun r => ∃ C' hs, r = .o C' hs ∧ R (.obj C' hs)) := ⟨fun z => i_addO z⟩
theorem i_lenOb (q : sd.S [.obj C fs] fun r => ∃ i, r = .d (.int i) ∧ (0 ≤ i ∧ i < 2 ^ 63) ∧ R (.int i)) : fLenO C sd [.obj C fs] R := ⟨fs, rfl, q⟩
instance : Go (fLenO C sd [.obj C fs] R) (sd.S [.obj C fs] fun r => ∃ i, r = .d (.int i) ∧ (0 ≤ i ∧ i < 2 ^ 63) ∧ R (.int i)) := ⟨fun z => i_lenOb z⟩
theorem i_isBl {x y : Bool} (q : R (.bl (decide (x = y)))) : fIsB false (.bl x) (.bl y) R := ⟨x, y, rfl, rfl, q⟩
instance {x y : Bool} : Go (fIsB false (.bl x) (.bl y) R) (R (.bl (decide (x = y)))) := ⟨fun z => i_isBl z⟩
theorem i_isnotBl {x y : Bool} (q : R (.bl (!decide (x = y)))) : fIsB true (.bl x) (.bl y) R := ⟨x, y, rfl, rfl, q⟩
instance {x y : Bool} : Go (fIsB true (.bl x) (.bl y) R) (R (.bl (!decide (x = y)))) := ⟨fun z => i_isnotBl z⟩
theorem i_rbl {b : Bool} {P : Bool → Prop} (q : P b) : ∃ c, Rv.d (.bl b) = .d (.bl c) ∧ P c := ⟨b, rfl, q⟩
instance {b : Bool} {P : Bool → Prop} : Go (∃ c, Rv.d (.bl b) = .d (.bl c) ∧ P c) (P b) := ⟨fun z => i_rbl z⟩
theorem i_isO2 {P : Prop} (q : P) : (∀ C' fs', D.obj C fs = .obj C' fs' → C' = C) ∧ P := ⟨fun C' fs' e => by cases e; rfl, q⟩
instance {P : Prop} : Go ((∀ C' fs', D.obj C fs = .obj C' fs' → C' = C) ∧ P) (P) := ⟨fun z => i_isO2 z⟩
end
end DL
set_option Elab.async false
set_option linter.all false
set_option autoImplicit false
set_option maxRecDepth 100000
set_option maxHeartbeats 4000000
/-! DL14: tuple(x), list * n, x in a list of scalars, comprehensions with tests, calls that hand out instances. -/
namespace DL
open PySem PySem.Spec PyProof.Rows L2
section
variable {X : Xb} {K : PySem.W.Frag} {a b c e : Expr} {ta tb tc te : TE} {wa wb wc we : WE} {pos p : Pos}
/-- tuple(x) -/
def dTupOf (wa : WE) : WE := fun γ Q => wa γ fun x γ1 => ∃ ds, (x = .lst ds ∨ x = .tup ds) ∧ Q (.tup ds) γ1
theorem de_tupleOf (K' : PySem.W.Frag) (hm : X.mg "tuple" = none) (ha : DE X a ta wa) (hg : Gl X "tuple" := by rfl) (he : starEach (a :: []) X.env = (false, eval a X.env) :: starEach [] X.env := by rfl) (hK : X.K = K' := by rfl) : DE X (.Call (.Name "tuple" p) [a] [] pos) (tCB (fun xs H Q => ∃ p ys, xs = [.ref p] ∧ ((SqL K' H p ys ∧ ∀ l, H l = none → Q (.ref l) (upd H l (.tup ys))) ∨ (SqT K' H p ys ∧ Q (.ref p) H))) (tCons ta tNil)) (dTupOf wa) := by
  subst hK
  refine ⟨pe_callTy call_tuple_of hg hm (by decide +kernel) (pa_cons ha.pe pa_nil he) (by decide) (by decide) he, fun γ P P' k q => ha.se.mono γ _ _ (fun x γ1 ⟨ds, e, q⟩ => ⟨ds, e, k _ _ q⟩) q, fun B S H σ γ Q R q => ?_⟩
  refine ha.se.run B S H σ γ _ R (ha.se.mono γ _ _ (fun x γ1 ⟨ds, e, q⟩ v S1 H1 R1 e1 d1 => ?_) q)
  rcases e with e | e
  · subst e
    obtain ⟨a, xs, rfl, g2, g3⟩ := d1.lst_inv
    refine ⟨a, xs, rfl, .inl ⟨SqL.of (R1.same _ _ g2), fun l hl => ?_⟩⟩
    have e4 : Same S1 (upd S1 l (.tup xs)) := Same.upd (Same.refl S1) (R1.freshS hl)
    exact q _ _ _ (R1.new hl) (e1.trans e4) (.ofT upd_same (g3.mono e4))
  · subst e
    have d1' := d1
    obtain ⟨a, xs, rfl, g2, g3⟩ := d1.tup_inv
    exact ⟨a, xs, rfl, .inr ⟨SqT.of (R1.same _ _ g2), q _ S1 H1 R1 e1 d1'⟩⟩
/-- xs * n -/
def dRep (wa wb : WE) : WF := fun γ Q => wa γ fun x γ1 => wb γ1 fun y γ2 => ∃ ds k, x = .lst ds ∧ y = .int k ∧ (-(2 ^ 63) ≤ k ∧ k < 2 ^ 63 ∧ ds.length * k.toNat ≤ sizeLine) ∧ Q (List.replicate k.toNat ds).flatten γ2
/-- x in xs, all of them scalars -/
def scalL (ds : List D) (vs : List V) : Prop := ds.map scalD = vs.map some
def fInL (neg : Bool) (x y : D) (Q : D → Prop) : Prop := ∃ ds v vs, (y = .lst ds ∨ y = .tup ds) ∧ scalD x = some v ∧ scalL ds vs ∧ Q (.bl (if neg then !inV v vs else inV v vs))
/-- a call that hands out a new instance -/
def dCallN (s : SpecD) (w : WA) : WN := fun γ Q => w γ fun ds γ1 => s.S ds fun r => ∃ C fs, r = .o C fs ∧ Q C fs γ1
end
section
variable {γ : List Sl} {wa wb we : WE} {Q : D → List Sl → Prop} {QF : List D → List Sl → Prop} {QN : Addr → List (Str × D) → List Sl → Prop} {m n : Int} {R : D → Prop} {wt : WT} {wg : WG} {ds : List D} {w : WA} {s : SpecD}
theorem i_tupOf (q : wa γ fun x γ1 => ∃ ds, (x = .lst ds ∨ x = .tup ds) ∧ Q (.tup ds) γ1) : dTupOf wa γ Q := q
instance : Go (dTupOf wa γ Q) (wa γ fun x γ1 => ∃ ds, (x = .lst ds ∨ x = .tup ds) ∧ Q (.tup ds) γ1) := ⟨fun z => i_tupOf z⟩
theorem i_rep (q : wa γ fun x γ1 => wb γ1 fun y γ2 => ∃ ds k, x = .lst ds ∧ y = .int k ∧ (-(2 ^ 63) ≤ k ∧ k < 2 ^ 63 ∧ ds.length * k.toNat ≤ sizeLine) ∧ QF (List.replicate k.toNat ds).flatten γ2) : dRep wa wb γ QF := q
instance : Go (dRep wa wb γ QF) (wa γ fun x γ1 => wb γ1 fun y γ2 => ∃ ds k, x = .lst ds ∧ y = .int k ∧ (-(2 ^ 63) ≤ k ∧ k < 2 ^ 63 ∧ ds.length * k.toNat ≤ sizeLine) ∧ QF (List.replicate k.toNat ds).flatten γ2) := ⟨fun z => i_rep z⟩
theorem i_callN (q : w γ fun ds γ1 => s.S ds fun r => ∃ C fs, r = .o C fs ∧ QN C fs γ1) : dCallN s w γ QN := q
instance : Go (dCallN s w γ QN) (w γ fun ds γ1 => s.S ds fun r => ∃ C fs, r = .o C fs ∧ QN C fs γ1) := ⟨fun z => i_callN z⟩
theorem i_ro {C : Addr} {fs : List (Str × D)} {P : Addr → List (Str × D) → Prop} (q : P C fs) : ∃ C' fs', Rv.o C fs = .o C' fs' ∧ P C' fs' := ⟨C, fs, rfl, q⟩
instance {C : Addr} {fs : List (Str × D)} {P : Addr → List (Str × D) → Prop} : Go (∃ C' fs', Rv.o C fs = .o C' fs' ∧ P C' fs') (P C fs) := ⟨fun z => i_ro z⟩
/-- a comprehension with a test that changes nothing, over items told by places -/
theorem i_filtN {n : Nat} {items : List D} {vs : List Nat} (it : Nat → D) (c : Nat → Bool) (g : Nat → D) (he : items = dLs n it) (hz : n ≤ 100000) (ha : anyAt γ vs = true)
    (h : ∀ (i : Nat), i < n → ∀ (RT : List Sl → Prop) (RE : D → List Sl → Prop), (c i = false → ∀ γ4, wipeG γ4 vs = γ → RT γ4) → (c i = true → ∀ γ4, wipeG γ4 vs = γ → RE (g i) γ4) → wg (it i) γ fun γ2 => wt γ2 fun b γ3 => if b = true then we γ3 RE else RT γ3) (q : QF (((List.range n).filter c).map g) γ) :
    LcG items γ wg wt we vs QF := by
  subst he
  refine ⟨by rw [dLs_len]; exact smallN (by omega), anyAt_ok ha, fun i acc γ' => γ' = γ ∧ acc = ((List.range i).filter c).map g, ⟨rfl, rfl⟩, ?_, ?_⟩
  · rintro i acc γ' d hd ⟨rfl, rfl⟩
    obtain ⟨rfl, hi⟩ := dLs_inv hd
    refine ⟨anyAt_ok ha, ?_⟩
    refine h i hi (fun γ3 => wipeG γ3 vs = γ' ∧ ((List.range i).filter c).map g = ((List.range (i + 1)).filter c).map g) (fun y γ4 => wipeG γ4 vs = γ' ∧ ((List.range i).filter c).map g ++ [y] = ((List.range (i + 1)).filter c).map g) (fun hc γ4 e => ⟨e, ?_⟩) (fun hc γ4 e => ⟨e, ?_⟩)
    · rw [List.range_succ, List.filter_append, List.filter_cons, hc]
      simp
    · rw [List.range_succ, List.filter_append, List.filter_cons, hc]
      simp
  · rintro acc γ' ⟨rfl, rfl⟩
    refine ⟨anyAt_ok ha, ?_⟩
    rw [dLs_len]
    exact q
end
theorem fitsB {x y : Int} {a b : Nat} (hx : x.natAbs < 2 ^ a) (hy : y.natAbs < 2 ^ b) (h : a + b ≤ 134217728) : IntMulOk x y := (mulx_ok hx hy h).ok
end DL
set_option Elab.async false
set_option linter.all false
set_option autoImplicit false
set_option maxRecDepth 100000
set_option maxHeartbeats 4000000
/-! DL15: own classes and their methods as they stand; constants of the module. -/
namespace DL
open PySem PySem.Spec PyProof.Rows L2
/-- a method of an own class: where it stands -/
structure Gm (K : PySem.W.Frag) (C : Addr) (m qual : Str) (st : Stmt) (ps : List Str) : Type where
  f : Addr
  fd : FuncData
  F : Fun K m qual st f fd
  meth : Meth K C m f
  b : Binds K fd ps []
section
variable {K : PySem.W.Frag} {C : Addr} {m qual : Str} {st : Stmt} {ps : List Str}
theorem Gm.at (G : Gm K C m qual st ps) : PySem.W.findIn K (.ref C) m = some (some (.ref G.f)) := G.meth.at_
theorem Gm.fn (G : Gm K C m qual st ps) : PySem.W.isFn K (.ref G.f) = true := G.meth.fn
end
/-- an own class: where it stands; the names of its attributes are no names of the class -/
structure Tc (K : PySem.W.Frag) (mg : Str → Option Value) (nm : Str) (fields : List Str) : Type where
  C : Addr
  own : OwnCls K C
  g : mg nm = some (.ref C)
  first : PySem.W.selfFirst K C = true
  no : ∀ f ∈ fields, NoAttr K C f
  makes : PySem.W.makesIn K C = true
  kp : PySem.W.keepIn K (.ref C) = true
section
variable {K : PySem.W.Frag} {mg : Str → Option Value} {nm : Str} {fields : List Str} {qual : Str} {st : Stmt} {ps : List Str}
theorem Tc.mkOf (T : Tc K mg nm fields) (G : Gm K T.C "__init__" qual st ps) : Mk K T.C G.f := ⟨T.makes, G.meth.at_, G.meth.fn, T.kp⟩
theorem Tc.fld (T : Tc K mg nm fields) {f : Str} (h : f ∈ fields := by decide) : Cls K T.C ∧ NoAttr K T.C f := ⟨T.own.cl, T.no f h⟩
end
section
variable {X : Xb} {pos : Pos} {x : Str}
/-- an int of the module -/
theorem de_globI {i : Int} (hm : ∃ t, X.mg x = some (.int i t)) (hg : Gl X x := by rfl) (hd : (x == ("__debug__" : Str)) = false := by decide) : DE X (.Name x pos) (tC (.int i)) (dC (.int i)) :=
  ⟨let ⟨t, h⟩ := hm; pe_glob hg h ⟨t, rfl⟩ hd, se_c fun _ => .int i⟩
end
/-! ### rows of ints as data -/
abbrev intL (ns : List Int) : List D := ns.map D.int
abbrev rowsD (B : List (List Int)) : List D := B.map fun r => .lst (intL r)
theorem rowsD_inv {B : List (List Int)} {i : Nat} {d : D} (h : (rowsD B)[i]? = some d) : ∃ b, B[i]? = some b ∧ d = .lst (intL b) ∧ i < B.length := by
  rw [List.getElem?_map] at h
  cases e : B[i]? with
  | none => rw [e] at h; cases h
  | some b =>
    rw [e] at h
    exact ⟨b, rfl, (Option.some.inj h).symm, (List.getElem?_eq_some_iff.mp e).1⟩
theorem rowsD_append (A B : List (List Int)) : rowsD (A ++ B) = rowsD A ++ rowsD B := List.map_append
theorem intL_append (a b : List Int) : intL (a ++ b) = intL a ++ intL b := List.map_append
/-- what a row stands for, place by place -/
def rowAt (B : List (List Int)) (i : Nat) : List Int := B.getD i []
theorem rowAt_get {B : List (List Int)} {i : Nat} (h : i < B.length) : B[i]? = some (rowAt B i) := by
  unfold rowAt
  rw [List.getD_eq_getElem?_getD, List.getElem?_eq_getElem h]
  rfl
theorem rowAt_mem {B : List (List Int)} {i : Nat} (h : i < B.length) : rowAt B i ∈ B := List.mem_of_getElem? (rowAt_get h)
theorem rowsD_dLs (B : List (List Int)) : rowsD B = dLs B.length fun i => .lst (intL (rowAt B i)) := by
  apply List.ext_getElem?
  intro i
  by_cases h : i < B.length
  · rw [dLs_get h, List.getElem?_map, rowAt_get h]; rfl
  · rw [List.getElem?_eq_none (by rw [List.length_map]; omega), List.getElem?_eq_none (by rw [dLs_len]; omega)]
/-- filtering by place is filtering -/
theorem filt_place {α : Type} (f : List Int → α) (c : List Int → Bool) (B : List (List Int)) : ((List.range B.length).filter fun i => c (rowAt B i)).map (fun i => f (rowAt B i)) = (B.filter c).map f := by
  have e : B = (List.range B.length).map (rowAt B) := by
    apply List.ext_getElem?
    intro i
    rw [List.getElem?_map]
    by_cases h : i < B.length
    · rw [List.getElem?_range h, rowAt_get h]; rfl
    · rw [List.getElem?_eq_none (by omega), List.getElem?_eq_none (by rw [List.length_range]; omega)]; rfl
  have e2 : B.filter c = ((List.range B.length).filter fun i => c (rowAt B i)).map (rowAt B) := by
    conv => lhs; rw [e]
    rw [List.filter_map]
    rfl
  rw [e2, List.map_map]
  rfl
end DL
set_option Elab.async false
set_option linter.all false
set_option autoImplicit false
set_option maxRecDepth 100000
set_option maxHeartbeats 4000000
/-! DL16: calls that draw and hand out a new list; the same with a list of one's own lent. -/
namespace DL
open PySem PySem.Spec PyProof.Rows L2
section
variable {X : Xb} {K : PySem.W.Frag} {f : Addr} {fd : FuncData} {ps : List Str} {k : Nat} {x : Str} {e : Expr} {es : List Expr} {t : TA} {w : WA} {p pos : Pos}
def dCallPF (i : Nat) (s : SpecP) (w : WA) : WF := fun γ Q => (∃ m pl, γ[i]? = some (.own m pl)) ∧ w γ fun ds γ1 => ∃ m pl, γ1[i]? = some (.own m pl) ∧ s.S pl ds fun r pl' => ∃ es, r = .f es ∧ Q es (γ1.set i (.own m pl'))
theorem sf_callP {i : Nat} {s : SpecP} {t : TA} {w : WA} (h : SA X t w) : SF X (tCall (spP X.K s) [] E0 (tCons (tVar i) t)) (dCallPF i s w) := by
  refine ⟨fun γ P P' k q => ⟨q.1, h.mono γ _ _ (fun ds γ1 ⟨m, pl, e, q⟩ => ⟨m, pl, e, s.mono _ _ _ _ (fun r pl' ⟨es, e, q⟩ => ⟨es, e, k _ _ q⟩) q⟩) q.2⟩, fun B S H σ γ Q R q => ?_⟩
  obtain ⟨⟨m0, pl0, g0⟩, q⟩ := q
  obtain ⟨p0, xs0, f0, _⟩ := R.sl i _ g0
  refine ⟨_, f0, ?_⟩
  refine h.run B S H σ γ _ R (h.mono γ _ _ (fun ds γ1 ⟨m, pl, g, q⟩ vs S1 H1 R1 e1 d1 => ?_) q)
  show spP X.K s ((.ref p0 :: vs) ++ []) H1 Q E0
  rw [List.append_nil]
  obtain ⟨p, xs, g1, g2, g3, g4, g5⟩ := R1.sl i _ g
  rw [f0] at g1
  cases g1
  have spS : Same (if m = true then B.SP else S1) S1 := by
    obtain ⟨φ, r⟩ := R1.r
    cases m with
    | true => exact r.spS.trans r.grow
    | false => exact Same.refl _
  refine ⟨S1, (if m = true then B.SP else S1), p0, xs, pl, vs, ds, rfl, R1.same, spS, g2, g3, own_old g4 g5, d1, s.mono _ _ _ _ (fun r pl' ⟨es, e, q⟩ v S' H' xs' C k1 k2 k3' rv => ?_) q⟩
  have k3 : DenL (if m = true then B.SP else S') xs' pl' := by
    cases m with
    | true => exact k3'
    | false => exact DenL.mono k3' C.grow
  subst e
  obtain ⟨a, ys, rfl, l1, l2, l3, l4⟩ := rv
  have l2' : H1 a = none := l2
  exact q a ys S' H' (R1.callPN g f0 C k1 k2 k3 l2' l3 l1) (e1.trans C.grow) l4
theorem df_callP (K' : PySem.W.Frag) (i : Nat) {s : SpecP} {y : Str} {py : Pos} (F : FnOk X.prog X.w X.K X.mg X.base CX0 k f fd ps (spP K' s)) (hr : Room k X.A) (hm : X.mg x = some (.ref f)) (hk : PySem.W.keepIn X.K (.ref f) = true) (hb : Binds X.K fd ps []) (ha : DA X es t w) (hN : X.N[i]? = some y := by rfl) (hv : Vis X.env.scope y := by first | exact Or.inl rfl | exact Or.inr (Or.inl rfl) | exact Or.inr (Or.inr rfl)) (hd : (y == ("__debug__" : Str)) = false := by decide)
    (hcd : (y == ("__classdict__" : Str)) = false := by decide) (hg : Gl X x := by rfl)
    (hdb : (x == ("__debug__" : Str)) = false := by decide) (he : starEach (.Name y py :: es) X.env = (false, eval (.Name y py) X.env) :: starEach es X.env := by rfl) (hpl : (backTo pos (starEach es X.env)).any (·.1) = false := by rfl) (hK : X.K = K' := by rfl) : DF X (.Call (.Name x p) (.Name y py :: es) [] pos) (tCall (spP K' s) [] E0 (tCons (tVar i) t)) (dCallPF i s w) := by
  subst hK
  exact ⟨pe_call F hr hg hm hk hb .nil pass0 (pa_cons (pe_var hN hv hd hcd) ha.pa he) hdb he hpl, sf_callP ha.sa⟩
/-- the slots while the list in slot j is lent and slot i's list is drawn from -/
def lentP (i j : Nat) (ds pl : List D) (γ : List Sl) : List Sl := (lent j ds γ).set i (.own true pl)
def dCallPL (i j : Nat) (s : SpecP) (w : WA) : WF := fun γ Q => ∃ m ds mp pl, i ≠ j ∧ γ[j]? = some (.own m ds) ∧ γ[i]? = some (.own mp pl) ∧ w (lentP i j ds pl γ) fun as γ1 => γ1 = lentP i j ds pl γ ∧ s.S pl as fun r pl' => ∃ es, r = .f es ∧ flats es ∧ Q es (γ.set i (.own mp pl'))
theorem sf_callPL {i j : Nat} {s : SpecP} {t : TA} {w : WA} (h : SA X.noX t w) : SF X (tCall (spP X.K s) [] E0 (tCons (tVar i) t)) (dCallPL i j s w) := by
  refine ⟨fun γ P P' k ⟨m, ds, mp, pl, n, g, g', q⟩ => ⟨m, ds, mp, pl, n, g, g', h.mono _ _ _ (fun as γ1 ⟨e, q⟩ => ⟨e, s.mono _ _ _ _ (fun r pl' ⟨es, e, f, q⟩ => ⟨es, e, f, k _ _ q⟩) q⟩) q⟩, fun B S H σ γ Q R ⟨m, ds, mp, pl, n, g, g', q⟩ => ?_⟩
  obtain ⟨p, xsp, ep, sp, hp, dp, op⟩ := R.sl i _ g'
  obtain ⟨b, xsb, eb, sb, hb, db, ob⟩ := R.sl j _ g
  have nb : p ≠ b := by
    obtain ⟨φ, r⟩ := R.r
    obtain ⟨p', _, e1, f1, _⟩ := r.sl i _ g'
    obtain ⟨b', _, e2, f2, _⟩ := r.sl j _ g
    rw [ep] at e1; cases e1
    rw [eb] at e2; cases e2
    intro z
    subst z
    exact r.phD i j _ _ _ n f1 f2
  have hSP : Same (if mp = true then B.SP else S) S := by
    obtain ⟨φ, r⟩ := R.r
    cases mp with
    | true => exact r.spS.trans r.grow
    | false => exact Same.refl _
  have hS : Same S (upd S b (.lst xsb)) := Same.upd (Same.refl S) sb
  have sp' : upd S b (.lst xsb) p = none := by rw [upd_ne nb]; exact sp
  have R' : Rel0 X.K ⟨H, upd S b (.lst xsb), List.replicate (i + 1) p, [], (if mp = true then B.SP else S)⟩ (upd S b (.lst xsb)) H σ (lentP i j ds pl γ) := by
    have L : Rel0 X.K ⟨H, upd S b (.lst xsb), [], [], emptyH⟩ (upd S b (.lst xsb)) H σ (lent j ds γ) := by
      obtain ⟨φ, r⟩ := R.r
      exact r.lendG hS (Same.updL r.same hb) eb (.ofL upd_same (db.mono hS))
    obtain ⟨φL, l⟩ := L
    have em : ∀ {k a u}, (if k = i then L2.upd emptyH p (.lst xsp) else emptyH) a = some u → k = i ∧ a = p ∧ u = .lst xsp := fun {k a u} e => by
      by_cases hk : k = i
      · rw [if_pos hk] at e
        by_cases ha : a = p
        · subst ha; rw [upd_same] at e; cases e; exact ⟨hk, rfl, rfl⟩
        · rw [upd_ne ha] at e; cases e
      · rw [if_neg hk] at e; cases e
    have hil : i < (lent j ds γ).length := by
      unfold lent
      rw [List.length_set, lentS_len]
      exact R.lt g'
    refine ⟨fun k => if k = i then L2.upd emptyH p (.lst xsp) else emptyH, l.same, fun a o h _ => h, fun a ha => ?_, Same.refl _, fun a o h => .inl h, by unfold lentP; rw [List.length_set]; exact l.len, fun k s hs => ?_, fun k a u e => ?_, fun k a u e => ?_, fun k l a u v hkl e1 e2 => hkl ((em e1).1.trans (em e2).1.symm), fun k a u e => ?_, fun p o hp => (by cases hp), List.nodup_nil, hSP.trans hS⟩
    · have : a = p := List.eq_of_mem_replicate ha
      subst this
      exact ⟨sp', ⟨_, hp⟩, _, hp⟩
    · unfold lentP at hs
      by_cases hk : k = i
      · subst hk
        rw [List.getElem?_set_self hil] at hs
        cases hs
        show SlF X.K _ _ (if k = k then L2.upd emptyH p (.lst xsp) else emptyH) _ _
        rw [if_pos rfl]
        have dp' : DenL (if mp = true then B.SP else S) xsp pl := own_old dp op
        exact ⟨p, xsp, ep, upd_same, dp', fun _ => List.mem_replicate.mpr ⟨Nat.succ_ne_zero _, rfl⟩⟩
      · rw [List.getElem?_set_ne (fun z => hk z.symm)] at hs
        have q := l.sl k s hs
        cases s with
        | any => trivial
        | val d => exact q
        | scr ns => exact q
        | own m' ds' =>
          exfalso
          unfold lent at hs
          by_cases hkj : k = j
          · subst hkj
            rw [List.getElem?_set_self (by rw [lentS_len]; exact R.lt g)] at hs
            cases hs
          · rw [List.getElem?_set_ne (fun z => hkj z.symm)] at hs
            rcases lentS_get hs with z | ⟨_, z⟩
            · cases z
            · cases z
        | ins m' C' fs' =>
          exfalso
          unfold lent at hs
          by_cases hkj : k = j
          · subst hkj
            rw [List.getElem?_set_self (by rw [lentS_len]; exact R.lt g)] at hs
            cases hs
          · rw [List.getElem?_set_ne (fun z => hkj z.symm)] at hs
            rcases lentS_get hs with z | ⟨_, z⟩
            · cases z
            · cases z
        | hp m' L' =>
          exfalso
          unfold lent at hs
          by_cases hkj : k = j
          · subst hkj
            rw [List.getElem?_set_self (by rw [lentS_len]; exact R.lt g)] at hs
            cases hs
          · rw [List.getElem?_set_ne (fun z => hkj z.symm)] at hs
            rcases lentS_get hs with z | ⟨_, z⟩
            · cases z
            · cases z
    · obtain ⟨_, z, z'⟩ := em e; subst z z'; exact hp
    · obtain ⟨_, z, z'⟩ := em e; subst z z'; exact sp'
    · obtain ⟨z0, z, z'⟩ := em e
      subst z0 z z'
      refine ⟨.own true pl, true, ?_, rfl, .inl ⟨rfl, by show (List.replicate _ _)[_]? = _; simp⟩⟩
      unfold lentP
      rw [List.getElem?_set_self hil]
  refine ⟨_, ep, ?_⟩
  refine h.run _ _ H σ _ _ R'.no (h.mono _ _ _ (fun as γ1 ⟨e1, q⟩ vs S1 H1 R1 e2 d1 => ?_) q)
  subst e1
  show spP X.K s ((.ref p :: vs) ++ []) H1 Q E0
  rw [List.append_nil]
  have gi : (lentP i j ds pl γ)[i]? = some (.own true pl) := by
    unfold lentP
    rw [List.getElem?_set_self (by unfold lent; rw [List.length_set, lentS_len]; exact R.lt g')]
  obtain ⟨p', xs1, f1, f2, f3, f4, f5⟩ := R1.sl i _ gi
  rw [ep] at f1
  cases f1
  refine ⟨S1, (if mp = true then B.SP else S), p, xs1, pl, vs, as, rfl, R1.same, (hSP.trans hS).trans e2, f2, f3, (f5 rfl).2, d1, s.mono _ _ _ _ (fun r pl' ⟨es, e, fl, q⟩ v S2 H2 xs' C k1 k2 k3 rv => ?_) q⟩
  subst e
  obtain ⟨a, ys, rfl, l1, l2, l3, l4⟩ := rv
  have l2' : H1 a = none := l2
  have keep : ∀ c o, H c = some o → c ≠ p → H2 c = some o := fun c o e n => C.keep c o (R1.keep c o e (by intro z; exact n (List.eq_of_mem_replicate z))) (by intro z; exact n (List.mem_singleton.mp z))
  have na : a ≠ p := fun z => by subst z; rw [f3] at l2'; cases l2'
  have ha : H a = none := by
    cases hh : H a with
    | none => rfl
    | some o =>
      have := R1.keep a o hh (by intro z; exact na (List.eq_of_mem_replicate z))
      rw [l2'] at this; cases this
  have sa : S a = none := R.same.free ha
  have C' : Rel0 X.K ⟨H, S, [p], [], (if mp = true then B.SP else S)⟩ S H2 [] [] := by
    refine ⟨fun _ => emptyH, fun c o e => keep c o (R.same c o e) (fun z => by subst z; rw [sp] at e; cases e), fun c o e hm => keep c o e (fun z => hm (List.mem_singleton.mpr z)), fun c hc => ?_, Same.refl _, fun c o e => .inl e, rfl, fun i s e => (by simp at e), fun i a o e => (by cases e), fun i a o e => (by cases e), fun i j a o u _ e => (by cases e), fun i a o e => (by cases e), fun p o hp => (by cases hp), List.nodup_nil, hSP⟩
    have : c = p := List.mem_singleton.mp hc
    subst this
    exact ⟨sp, ⟨_, hp⟩, _, k2⟩
  exact q a ys S H2 (R.callPN g' ep C' sp k2 k3 ha l3 sa) (Same.refl S) (l4.flat fl)
theorem df_callPL (K' : PySem.W.Frag) (i j : Nat) {s : SpecP} {y : Str} {py : Pos} (F : FnOk X.prog X.w X.K X.mg X.base CX0 k f fd ps (spP K' s)) (hr : Room k X.A) (hm : X.mg x = some (.ref f)) (hk : PySem.W.keepIn X.K (.ref f) = true) (hb : Binds X.K fd ps []) (ha : DA X.noX es t w) (hN : X.N[i]? = some y := by rfl) (hv : Vis X.env.scope y := by first | exact Or.inl rfl | exact Or.inr (Or.inl rfl) | exact Or.inr (Or.inr rfl)) (hd : (y == ("__debug__" : Str)) = false := by decide)
    (hcd : (y == ("__classdict__" : Str)) = false := by decide) (hg : Gl X x := by rfl)
    (hdb : (x == ("__debug__" : Str)) = false := by decide) (he : starEach (.Name y py :: es) X.env = (false, eval (.Name y py) X.env) :: starEach es X.env := by rfl) (hpl : (backTo pos (starEach es X.env)).any (·.1) = false := by rfl) (hK : X.K = K' := by rfl) : DF X (.Call (.Name x p) (.Name y py :: es) [] pos) (tCall (spP K' s) [] E0 (tCons (tVar i) t)) (dCallPL i j s w) := by
  subst hK
  exact ⟨pe_call F hr hg hm hk hb .nil pass0 (pa_cons (pe_var hN hv hd hcd) ha.pa he) hdb he hpl, sf_callPL ha.sa⟩
end
section
variable {γ : List Sl} {i j : Nat} {ds pl : List D} {mm mp : Bool} {s : SpecP} {w : WA} {QF : List D → List Sl → Prop}
theorem i_callPF (g : γ[i]? = some (.own mm pl)) (q : w γ fun ds γ1 => ∃ m pl, γ1[i]? = some (.own m pl) ∧ s.S pl ds fun r pl' => ∃ es, r = .f es ∧ QF es (γ1.set i (.own m pl'))) : dCallPF i s w γ QF := ⟨⟨_, _, g⟩, q⟩
theorem i_callPL (n : i ≠ j) (g : γ[j]? = some (.own mm ds)) (g' : γ[i]? = some (.own mp pl)) (q : w (lentP i j ds pl γ) fun as γ1 => γ1 = lentP i j ds pl γ ∧ s.S pl as fun r pl' => ∃ es, r = .f es ∧ flats es ∧ QF es (γ.set i (.own mp pl'))) : dCallPL i j s w γ QF := ⟨mm, ds, mp, pl, n, g, g', q⟩
theorem i_same {P : Prop} (q : P) : γ = γ ∧ P := ⟨rfl, q⟩
instance {P : Prop} : Go (γ = γ ∧ P) (P) := ⟨fun z => i_same z⟩
theorem flats_ints {ns : List Int} : flats (ns.map D.int) := fun d hd => by
  obtain ⟨i, _, rfl⟩ := List.mem_map.mp hd
  trivial
end
/-- a slot is forgotten ahead of what follows -/
def dAny (i : Nat) (w : WS) : WS := fun Dd γ => w Dd (γ.set i .any)
theorem dss_any {X : Xb} (i : Nat) {sts : List Stmt} {t : TS} {w : WS} (h : DSs X sts t w) : DSs X sts t (dAny i w) := ⟨h.ps, ⟨fun B S0 S H σ γ Dd D R e L q => h.ss.run B S0 S H σ _ Dd D R.drop e L q⟩⟩
theorem i_any1 {i : Nat} {γ : List Sl} {w : WS} {Dd : EndsD} (q : w Dd (γ.set i .any)) : dAny i w Dd γ := q
instance {i : Nat} {γ : List Sl} {w : WS} {Dd : EndsD} : Go (dAny i w Dd γ) (w Dd (γ.set i .any)) := ⟨fun z => i_any1 z⟩
end DL
set_option Elab.async false
set_option linter.all false
set_option autoImplicit false
set_option maxRecDepth 100000
set_option maxHeartbeats 4000000
/-! DL17: small helps. -/
namespace DL
open PySem PySem.Spec PyProof.Rows L2
theorem ixN_n {n j : Nat} (hj : j < n) : ixN n (j : Int) = some j := by
  unfold ixN
  rw [if_pos (by omega), if_pos (by omega), Int.toNat_natCast]
theorem nite_f (a b : Bool) : (if false = true then a else b) = b := rfl
theorem nite_t (a b : Bool) : (if true = true then a else b) = a := rfl
theorem cut_take (v : List D) {p : Nat} (h : p ≤ v.length) : cutL v none (some (p : Int)) = v.take p := by
  unfold cutL
  rw [HT.sIx_none, List.drop_zero, HT.sIx_nat, Nat.sub_zero, Nat.min_eq_left h]
theorem cut_drop (v : List D) {p : Nat} (h : p ≤ v.length) : cutL v (some (p : Int)) none = v.drop p := by
  unfold cutL
  rw [HT.sIx_none, HT.sIx_nat, Nat.min_eq_left h, List.take_of_length_le (by rw [List.length_drop]; omega)]
end DL
set_option Elab.async false
set_option linter.all false
set_option autoImplicit false
set_option maxRecDepth 100000
set_option maxHeartbeats 4000000
/-! DL18: the head's facts with own classes: any Bool over the heap's part. -/
namespace DL
open PySem PySem.Spec PyProof.Rows L2 He
section
variable {fa : List Fa} {fn : List DefD} {xs : List (PySem.W.Frag → Bool)} {K : PySem.W.Frag}
theorem SaysE.d (c : SaysE fa fn xs K) : SaysD fa fn K := by
  have h1 : ((obsD fa fn K).1 && xs.all fun e => e K) = true := congrArg (fun z : AlD => z.1) c
  have h2 : (obsD fa fn K).2 = fn.map DefD.val := congrArg (fun z : AlD => z.2) c
  have h3 := (ba h1).1
  show obsD fa fn K = valD fn
  exact Prod.ext h3 h2
theorem SaysE.ex (c : SaysE fa fn xs K) (i : Nat) {e : PySem.W.Frag → Bool} (h : xs[i]? = some e := by rfl) : e K = true := by
  have h1 : ((obsD fa fn K).1 && xs.all fun e => e K) = true := congrArg (fun z : AlD => z.1) c
  exact List.all_eq_true.mp (ba h1).2 e (List.mem_of_getElem? h)
end
def Tc.of {K : PySem.W.Frag} {h : Heap} {mg : Str → Option Value} {x : Str} {fields : List Str} (X : K.In h) (G : h.Ns mainGlobals mg) (hg : (Fa.glo x).ok K = true) (hc : clsB x K = true) (hn : noatB x fields K = true) : Tc K mg x fields :=
  have c1 := ba hc
  have c2 := ba c1.2
  have c3 := ba c2.2
  have c4 := ba c3.2
  have c5 := ba c4.2
  have c6 := ba c5.2
  have c7 := ba c6.2
  have c8 := ba c7.2
  have c9 := ba c8.2
  have c10 := ba c9.2
  { C := ga K x
    own := ⟨cls_ok c1.1, eqO_ok c2.1, eqO_ok c3.1, of_decide_eq_true c4.1, of_decide_eq_true c5.1, fun T hT => of_decide_eq_true (List.all_eq_true.mp c6.1 T hT), of_decide_eq_true c7.1, fun T hT => of_decide_eq_true (List.all_eq_true.mp c8.1 T hT)⟩
    g := glo_ok X G hg
    first := c9.1
    no := fun f hf => eqO_ok (List.all_eq_true.mp hn f hf)
    makes := c10.1
    kp := c10.2 }
end DL
set_option Elab.async false
set_option linter.all false
set_option autoImplicit false
set_option maxRecDepth 100000
set_option maxHeartbeats 4000000
/-! DL19: == and != of data of any depth. -/
namespace DL
open PySem PySem.Spec PyProof.Rows L2
mutual
def toP : D → PyData
  | .non => .none | .bl b => .bool b | .int i => .int i | .str s => .str s | .lst ds => .list (toPs ds) | .tup ds => .tuple (toPs ds) | .obj _ _ => .none | .emp => .none | .ref _ => .none
def toPs : List D → List PyData
  | [] => []
  | d :: ds => toP d :: toPs ds
end
mutual
/-- no instances, no dicts -/
def noObj : D → Bool
  | .obj _ _ => false | .emp => false | .ref _ => false | .lst ds => noObjs ds | .tup ds => noObjs ds | _ => true
def noObjs : List D → Bool
  | [] => true
  | d :: ds => noObj d && noObjs ds
end
mutual
/-- no instances, no dicts, no bools -/
def clean : D → Bool
  | .obj _ _ => false | .emp => false | .ref _ => false | .bl _ => false | .lst ds => cleans ds | .tup ds => cleans ds | _ => true
def cleans : List D → Bool
  | [] => true
  | d :: ds => clean d && cleans ds
end
section
variable {K : PySem.W.Frag} {S H : Hp}
mutual
theorem Den.dp (e : Same S H) : ∀ (d : D) (v : V), Den S v d → noObj d = true → Dp K H v (toP d)
  | .non, _, h, _ => by cases h; exact .non
  | .bl b, _, h, _ => by cases h; exact .bl b
  | .int i, _, h, _ => by cases h; exact .int i
  | .str s, _, h, _ => by cases h; exact .str s
  | .lst ds, _, h, n => by
    obtain ⟨a, xs, rfl, h1, h2⟩ := h.lst_inv
    exact .lst (SqL.of (e _ _ h1)) (DenL.dp e ds xs h2 n)
  | .tup ds, _, h, n => by
    obtain ⟨a, xs, rfl, h1, h2⟩ := h.tup_inv
    exact .tup (SqT.of (e _ _ h1)) (DenL.dp e ds xs h2 n)
  | .obj _ _, _, _, n => by cases n
  | .emp, _, _, n => by cases n
  | .ref _, _, _, n => by cases n
theorem DenL.dp (e : Same S H) : ∀ (ds : List D) (xs : List V), DenL S xs ds → noObjs ds = true → DpAll K H xs (toPs ds)
  | [], xs, h, _ => by rw [h.nil_inv]; exact .nil
  | d :: ds, xs, h, n => by
    have n : (noObj d && noObjs ds) = true := n
    rw [Bool.and_eq_true] at n
    obtain ⟨x, r, rfl, h1, h2⟩ := h.cons_inv
    exact .cons (Den.dp e d x h1 n.1) (DenL.dp e ds r h2 n.2)
end
end
/-- data that == takes -/
structure PlD (d : D) : Prop where
  no : noObj d = true
  sh : SeqAt.shaped (toP d) = true
def eqD (x y : D) : Bool := PyData.eqv (toP x) (toP y)
def fEqD (neg : Bool) (x y : D) (Q : D → Prop) : Prop := PlD x ∧ PlD y ∧ Q (.bl (if neg then !eqD x y else eqD x y))
theorem ops_eqD {X : Xb} : OpSK X (rEqD X.K) (fEqD false) := by
  refine ⟨fun x y P P' k ⟨h1, h2, q⟩ => ⟨h1, h2, k _ q⟩, fun B S H σ γ Q v u x y R d1 d2 ⟨h1, h2, q⟩ => ?_⟩
  exact ⟨toP x, toP y, Den.dp R.same x v d1 h1.no, Den.dp R.same y u d2 h2.no, h1.sh, h2.sh, q _ S H R (Same.refl S) (.bl _)⟩
section
variable {X : Xb} {a b : Expr} {ta tb : TE} {wa wb : WE} {pos : Pos} {k : Nat}
theorem de_eqD (K' : PySem.W.Frag) (hr : Room k X.A) (ha : DE X a ta wa) (hb : DE X b tb wb) (hK : X.K = K' := by rfl) : DE X (.Compare a [.Eq] [b] pos) (tOp (rEqD K') ta tb) (dOp (fEqD false) wa wb) := by
  subst hK
  exact ⟨pe_cmpR (op_eqD (by have h := hr.un; dsimp only [Xb.A] at h ⊢; omega)) ha.pe hb.pe (nomark _), se_opK ops_eqD ha.se hb.se⟩
end
/-! ### what == says -/
mutual
theorem eqv_iff : ∀ (d e : D), clean d = true → clean e = true → (PyData.eqv (toP d) (toP e) = true ↔ d = e)
  | .non, e, _, h => by cases e <;> first | (cases h; done) | (simp [toP, PyData.eqv]; done)
  | .int i, e, _, h => by cases e <;> first | (cases h; done) | (simp [toP, PyData.eqv]; done)
  | .str i, e, _, h => by cases e <;> first | (cases h; done) | (simp [toP, PyData.eqv]; done)
  | .lst ds, e, k, h => by
    cases e with
    | lst es => simp only [toP, PyData.eqv, D.lst.injEq]; exact eqvs_iff ds es k h
    | _ => first | (cases h; done) | (simp [toP, PyData.eqv]; done)
  | .tup ds, e, k, h => by
    cases e with
    | tup es => simp only [toP, PyData.eqv, D.tup.injEq]; exact eqvs_iff ds es k h
    | _ => first | (cases h; done) | (simp [toP, PyData.eqv]; done)
  | .bl _, _, k, _ => by cases k
  | .obj _ _, _, k, _ => by cases k
  | .emp, _, k, _ => by cases k
  | .ref _, _, k, _ => by cases k
theorem eqvs_iff : ∀ (ds es : List D), cleans ds = true → cleans es = true → (PyData.eqvAll (toPs ds) (toPs es) = true ↔ ds = es)
  | [], [], _, _ => by simp [toPs, PyData.eqvAll]
  | [], _ :: _, _, _ => by simp [toPs, PyData.eqvAll]
  | _ :: _, [], _, _ => by simp [toPs, PyData.eqvAll]
  | d :: ds, e :: es, k, h => by
    have k : (clean d && cleans ds) = true := k
    have h : (clean e && cleans es) = true := h
    rw [Bool.and_eq_true] at k h
    simp only [toPs, PyData.eqvAll, Bool.and_eq_true, List.cons.injEq]
    rw [eqv_iff d e k.1 h.1, eqvs_iff ds es k.2 h.2]
end
theorem eqD_iff {d e : D} (h : clean d = true) (k : clean e = true) : eqD d e = true ↔ d = e := eqv_iff d e h k
theorem eqD_dec {d e : D} (h : clean d = true) (k : clean e = true) {p : Prop} [Decidable p] (i : d = e ↔ p) : eqD d e = decide p := by
  by_cases q : p
  · rw [decide_eq_true q]; exact (eqD_iff h k).mpr (i.mpr q)
  · rw [decide_eq_false q]
    cases z : eqD d e with
    | false => rfl
    | true => exact absurd (i.mp ((eqD_iff h k).mp z)) q
/-! ### lists of ints, of rows -/
theorem cleans_of {ds : List D} (h : ∀ d ∈ ds, clean d = true) : cleans ds = true := by
  induction ds with
  | nil => rfl
  | cons d ds ih => show (clean d && cleans ds) = true; rw [h d (List.mem_cons_self ..), ih fun e he => h e (List.mem_cons_of_mem _ he)]; rfl
theorem noObjs_of {ds : List D} (h : ∀ d ∈ ds, noObj d = true) : noObjs ds = true := by
  induction ds with
  | nil => rfl
  | cons d ds ih => show (noObj d && noObjs ds) = true; rw [h d (List.mem_cons_self ..), ih fun e he => h e (List.mem_cons_of_mem _ he)]; rfl
theorem lay_of : ∀ {ds : List D}, (∀ d ∈ ds, (toP d).canLay0 = true) → PyData.canLayAll0 (toPs ds) = true
  | [], _ => by simp [toPs, PyData.canLayAll0]
  | d :: ds, h => by simp only [toPs, PyData.canLayAll0, Bool.and_eq_true]; exact ⟨h d (List.mem_cons_self ..), lay_of fun e he => h e (List.mem_cons_of_mem _ he)⟩
theorem depth_of {n : Nat} : ∀ {ds : List D}, (∀ d ∈ ds, (toP d).depth ≤ n) → PyData.depthAll (toPs ds) ≤ n
  | [], _ => by simp [toPs, PyData.depthAll]
  | d :: ds, h => by
    simp only [toPs, PyData.depthAll]
    exact Nat.max_le.mpr ⟨h d (List.mem_cons_self ..), depth_of fun e he => h e (List.mem_cons_of_mem _ he)⟩
/-- data of depth n that == takes -/
structure PlN (n : Nat) (d : D) : Prop where
  no : noObj d = true
  lay : (toP d).canLay0 = true
  dep : (toP d).depth ≤ n
theorem PlN.pl {n : Nat} {d : D} (h : PlN n d) (hn : n ≤ 64) : PlD d := ⟨h.no, by unfold SeqAt.shaped; rw [h.lay, decide_eq_true (Nat.le_trans h.dep hn)]; rfl⟩
theorem PlN.le {m n : Nat} {d : D} (h : PlN m d) (k : m ≤ n) : PlN n d := ⟨h.no, h.lay, Nat.le_trans h.dep k⟩
theorem pl_int {n : Nat} (i : Int) : PlN n (.int i) := ⟨rfl, by simp [toP, PyData.canLay0], by simp [toP, PyData.depth]⟩
theorem pl_bl {n : Nat} (b : Bool) : PlN n (.bl b) := ⟨rfl, by simp [toP, PyData.canLay0], by simp [toP, PyData.depth]⟩
theorem pl_non {n : Nat} : PlN n .non := ⟨rfl, by simp [toP, PyData.canLay0], by simp [toP, PyData.depth]⟩
theorem pl_str {n : Nat} {s : Str} (h : (toP (.str s)).canLay0 = true) : PlN n (.str s) := ⟨rfl, h, by simp [toP, PyData.depth]⟩
theorem pl_lst {n : Nat} {ds : List D} (h : ∀ d ∈ ds, PlN n d) : PlN (n + 1) (.lst ds) :=
  ⟨noObjs_of fun d hd => (h d hd).no, by simp only [toP, PyData.canLay0]; exact lay_of fun d hd => (h d hd).lay, by simp only [toP, PyData.depth]; have := depth_of fun d hd => (h d hd).dep; omega⟩
theorem pl_tup {n : Nat} {ds : List D} (h : ∀ d ∈ ds, PlN n d) : PlN (n + 1) (.tup ds) :=
  ⟨noObjs_of fun d hd => (h d hd).no, by simp only [toP, PyData.canLay0]; exact lay_of fun d hd => (h d hd).lay, by simp only [toP, PyData.depth]; have := depth_of fun d hd => (h d hd).dep; omega⟩
theorem pl_ints {n : Nat} (ns : List Int) : PlN (n + 1) (.lst (intL ns)) := pl_lst fun d hd => by
  obtain ⟨i, _, rfl⟩ := List.mem_map.mp hd
  exact pl_int i
theorem pl_rows {n : Nat} (B : List (List Int)) : PlN (n + 2) (.lst (rowsD B)) := pl_lst fun d hd => by
  obtain ⟨r, _, rfl⟩ := List.mem_map.mp hd
  exact pl_ints r
theorem clean_ints (ns : List Int) : clean (.lst (intL ns)) = true := cleans_of fun d hd => by
  obtain ⟨i, _, rfl⟩ := List.mem_map.mp hd
  rfl
theorem clean_rows (B : List (List Int)) : clean (.lst (rowsD B)) = true := cleans_of fun d hd => by
  obtain ⟨r, _, rfl⟩ := List.mem_map.mp hd
  exact clean_ints r
theorem intL_inj : ∀ {a b : List Int}, intL a = intL b → a = b
  | [], [], _ => rfl
  | [], _ :: _, h => by cases h
  | _ :: _, [], h => by cases h
  | x :: a, y :: b, h => by
    obtain ⟨h1, h2⟩ := List.cons.inj h
    rw [D.int.inj h1, intL_inj h2]
theorem rowsD_inj : ∀ {A B : List (List Int)}, rowsD A = rowsD B → A = B
  | [], [], _ => rfl
  | [], _ :: _, h => by cases h
  | _ :: _, [], h => by cases h
  | x :: a, y :: b, h => by
    obtain ⟨h1, h2⟩ := List.cons.inj h
    rw [intL_inj (D.lst.inj h1), rowsD_inj h2]
theorem eqD_ints (a b : List Int) : eqD (.lst (intL a)) (.lst (intL b)) = decide (a = b) := eqD_dec (clean_ints a) (clean_ints b) ⟨fun h => intL_inj (D.lst.inj h), fun h => by rw [h]⟩
theorem eqD_rows (A B : List (List Int)) : eqD (.lst (rowsD A)) (.lst (rowsD B)) = decide (A = B) := eqD_dec (clean_rows A) (clean_rows B) ⟨fun h => rowsD_inj (D.lst.inj h), fun h => by rw [h]⟩
section
variable {R : D → Prop}
theorem i_eqDI {a b : List Int} (q : R (.bl (decide (a = b)))) : fEqD false (.lst (intL a)) (.lst (intL b)) R := ⟨(pl_ints (n := 1) a).pl (by decide), (pl_ints (n := 1) b).pl (by decide), by rw [eqD_ints]; exact q⟩
instance {a b : List Int} : Go (fEqD false (.lst (intL a)) (.lst (intL b)) R) (R (.bl (decide (a = b)))) := ⟨fun z => i_eqDI z⟩
theorem i_neDI {a b : List Int} (q : R (.bl (!decide (a = b)))) : fEqD true (.lst (intL a)) (.lst (intL b)) R := ⟨(pl_ints (n := 1) a).pl (by decide), (pl_ints (n := 1) b).pl (by decide), by rw [eqD_ints]; exact q⟩
instance {a b : List Int} : Go (fEqD true (.lst (intL a)) (.lst (intL b)) R) (R (.bl (!decide (a = b)))) := ⟨fun z => i_neDI z⟩
theorem i_eqDR {A B : List (List Int)} (q : R (.bl (decide (A = B)))) : fEqD false (.lst (rowsD A)) (.lst (rowsD B)) R := ⟨(pl_rows (n := 1) A).pl (by decide), (pl_rows (n := 1) B).pl (by decide), by rw [eqD_rows]; exact q⟩
instance {A B : List (List Int)} : Go (fEqD false (.lst (rowsD A)) (.lst (rowsD B)) R) (R (.bl (decide (A = B)))) := ⟨fun z => i_eqDR z⟩
theorem i_neDR {A B : List (List Int)} (q : R (.bl (!decide (A = B)))) : fEqD true (.lst (rowsD A)) (.lst (rowsD B)) R := ⟨(pl_rows (n := 1) A).pl (by decide), (pl_rows (n := 1) B).pl (by decide), by rw [eqD_rows]; exact q⟩
instance {A B : List (List Int)} : Go (fEqD true (.lst (rowsD A)) (.lst (rowsD B)) R) (R (.bl (!decide (A = B)))) := ⟨fun z => i_neDR z⟩
end
/-- a Bool that tells p -/
noncomputable def dP (p : Prop) : Bool := @decide p (Classical.propDecidable p)
theorem isO_self {C : Addr} {fs : List (Str × D)} : isO C (.obj C fs) = true := beq_self_eq_true C
end DL
set_option Elab.async false
set_option linter.all false
set_option autoImplicit false
set_option maxRecDepth 100000
set_option maxHeartbeats 4000000
/-! DL20: comprehensions of two clauses. -/
namespace DL
open PySem PySem.Spec PyProof.Rows L2

def dLc2 (wi : WA) (wg : WG) (wt : WT) (wi1 : WA) (wg1 : WG) (wt1 : WT) (we : WE) (vs vs1 : List Nat) : WF := fun γ Q => wi γ fun ds γ1 => (∀ v ∈ vs, ∀ s, γ1[v]? = some s → s = .any) ∧ ∃ I : Nat → List D → List Sl → Prop, I 0 [] γ1 ∧
  (∀ i acc γ d, ds[i]? = some d → I i acc γ → (∀ v ∈ vs, ∀ s, γ[v]? = some s → s = .any) ∧ wg d γ fun γ2 => wt γ2 fun b γ3 => if b = true then
    wi1 γ3 fun ds1 γ4 => (∀ v ∈ vs1, ∀ s, γ4[v]? = some s → s = .any) ∧ ∃ I1 : Nat → List D → List Sl → Prop, I1 0 acc γ4 ∧
      (∀ j acc γ d, ds1[j]? = some d → I1 j acc γ → (∀ v ∈ vs1, ∀ s, γ[v]? = some s → s = .any) ∧ wg1 d γ fun γ5 => wt1 γ5 fun b γ6 => if b = true then we γ6 fun y γ7 => acc.length < sizeLine ∧ I1 (j + 1) (acc ++ [y]) (wipeG γ7 vs1) else I1 (j + 1) acc (wipeG γ6 vs1)) ∧
      ∀ acc γ, I1 ds1.length acc γ → (∀ v ∈ vs1, ∀ s, γ[v]? = some s → s = .any) ∧ I (i + 1) acc (wipeG γ vs)
    else I (i + 1) acc (wipeG γ3 vs)) ∧
  ∀ acc γ, I ds.length acc γ → (∀ v ∈ vs, ∀ s, γ[v]? = some s → s = .any) ∧ Q acc γ
section
variable {X : Xb} {K : PySem.W.Frag}
end
/-- all the items of an inner list, turn by turn -/
def dLs2 (n m : Nat) (g : Nat → Nat → D) : List D := (List.range n).flatMap fun i => dLs m (g i)
def Lc2G (items : List D) (γ : List Sl) (wg : WG) (wt : WT) (wi1 : WA) (wg1 : WG) (wt1 : WT) (we : WE) (vs vs1 : List Nat) (QF : List D → List Sl → Prop) : Prop := dLc2 (fun γ Q => Q items γ) wg wt wi1 wg1 wt1 we vs vs1 γ QF
section
variable {γ : List Sl} {we : WE} {QF : List D → List Sl → Prop} {wg wg1 : WG} {wt wt1 : WT} {wi1 : WA} {vs vs1 : List Nat}
theorem i_lc2 {wi : WA} (q : wi γ fun ds γ1 => Lc2G ds γ1 wg wt wi1 wg1 wt1 we vs vs1 QF) : dLc2 wi wg wt wi1 wg1 wt1 we vs vs1 γ QF := q
instance {wi : WA} : Go (dLc2 wi wg wt wi1 wg1 wt1 we vs vs1 γ QF) (wi γ fun ds γ1 => Lc2G ds γ1 wg wt wi1 wg1 wt1 we vs vs1 QF) := ⟨fun z => i_lc2 z⟩
end
end DL
set_option Elab.async false
set_option linter.all false
set_option autoImplicit false
set_option maxRecDepth 100000
set_option maxHeartbeats 4000000
/-! DL21: match statements of texts: cases of words, of words joined by |, and the rest. -/
namespace DL
open PySem PySem.Spec PyProof.Rows L2

/-- a pattern of words -/
structure PPat (X : Xb) (p : Pattern) (ls : List Str) : Prop where
  run : ∀ (pins : List (Addr × Obj)) (s : Shared) (σ : L2.St) (H : Hp) (z : Str) (u : Value), Inv X pins σ H s → RelV (.str z) u →
    wpAny (model X.prog X.w) X.A (matchPattern p X.env u) (fun r s' => Inv X pins σ H s' ∧ r = if z ∈ ls then some [] else none) X.xe s
structure PPats (X : Xb) (ps : List Pattern) (ls : List Str) : Prop where
  run : ∀ (pins : List (Addr × Obj)) (s : Shared) (σ : L2.St) (H : Hp) (z : Str) (u : Value), Inv X pins σ H s → RelV (.str z) u →
    wpAny (model X.prog X.w) X.A (matchFirst ps X.env u) (fun r s' => Inv X pins σ H s' ∧ r = if z ∈ ls then some [] else none) X.xe s
abbrev TMs := V → TS
structure PM (X : Xb) (cs : List MatchCase) (t : TMs) : Prop where
  run : ∀ (first : Bool) (pins : List (Addr × Obj)) (s : Shared) (σ : L2.St) (H : Hp) (D : Ends) (v : V) (u : Value), Inv X pins σ H s → RelV v u → t v D σ H → wpAny (model X.prog X.w) X.A (matchCases cs X.env u first) (SP X pins D) X.xe s
def tMnil : TMs := fun _ D σ H => D.nx σ H
def tMany (tb : TS) : TMs := fun _ D σ H => tb D σ H
def tMstr (ls : List Str) (tb : TS) (tr : TMs) : TMs := fun v D σ H => ∃ z, v = .str z ∧ if z ∈ ls then tb D σ H else tr v D σ H
def tMatch (te : TE) (tm : TMs) : TS := fun D σ H => te σ H fun v H1 => tm v D σ H1
section
variable {X : Xb} {pos p1 : Pos} {e : Expr} {te : TE} {tb : TS} {tm : TMs} {body : List Stmt} {rest : List MatchCase} {pat : Pattern} {ls : List Str} {pats : List Pattern}
end

/-! ### over data -/
abbrev WM := D → WS
structure SM (X : Xb) (t : TMs) (w : WM) : Prop where
  run : ∀ B S0 S H σ γ Dd D v d, Rel X B S H σ γ → Same S0 S → Link X B S0 Dd D → Den S v d → w d Dd γ → t v D σ H
structure DM (X : Xb) (cs : List MatchCase) (t : TMs) (w : WM) : Prop where
  pm : PM X cs t
  sm : SM X t w
def dMnil : WM := fun _ Dd γ => Dd.nx γ
def dMany (wb : WS) : WM := fun _ Dd γ => wb Dd γ
def dMstr (ls : List Str) (wb : WS) (wr : WM) : WM := fun d Dd γ => ∃ z, d = .str z ∧ if z ∈ ls then wb Dd γ else wr d Dd γ
def dMatch (we : WE) (wm : WM) : WS := fun Dd γ => we γ fun d γ1 => wm d Dd γ1
section
variable {X : Xb} {pos p1 : Pos} {e : Expr} {te : TE} {we : WE} {tb : TS} {wb : WS} {tm : TMs} {wm : WM} {body : List Stmt} {rest : List MatchCase} {pat : Pattern} {ls : List Str}
end
section
variable {γ : List Sl} {Dd : EndsD} {we : WE} {wm : WM} {wb : WS} {ls : List Str} {z : Str}
theorem i_match (q : we γ fun d γ1 => wm d Dd γ1) : dMatch we wm Dd γ := q
instance : Go (dMatch we wm Dd γ) (we γ fun d γ1 => wm d Dd γ1) := ⟨fun z => i_match z⟩
theorem i_mAny {d : D} (q : wb Dd γ) : dMany wb d Dd γ := q
instance {d : D} : Go (dMany wb d Dd γ) (wb Dd γ) := ⟨fun z => i_mAny z⟩
theorem i_mNil {d : D} (q : Dd.nx γ) : dMnil d Dd γ := q
instance {d : D} : Go (dMnil d Dd γ) (Dd.nx γ) := ⟨fun z => i_mNil z⟩
end
end DL
set_option Elab.async false
set_option linter.all false
set_option autoImplicit false
set_option maxRecDepth 100000
set_option maxHeartbeats 4000000
/-! DL22: defs that change two lists of the caller: the pool and a flat one. -/
namespace DL
open PySem PySem.Spec PyProof.Rows L2

section
variable {K : PySem.W.Frag} {B : Bs} {S S' H H' SP : Hp} {σ : L2.St} {γ : List Sl} {p q : Addr} {o2 : HO}
/-- a call that changes two things, seen from a heap where the second has changed already -/
theorem Rel0.two (C : Rel0 K ⟨H, S, [p, q], [], SP⟩ S' H' [] []) (npq : p ≠ q) (k1 : S' q = none) (k2 : H' q = some o2) : Rel0 K ⟨upd H q o2, S, [p], [], SP⟩ S' H' [] [] := by
  obtain ⟨φ, r⟩ := C
  refine ⟨fun _ => emptyH, r.same, fun a o e hm => ?_, fun a ha => ?_, r.grow, fun a o e => ?_, rfl, fun i s e => (by simp at e), fun i a o e => (by cases e), fun i a o e => (by cases e), fun i j a o u _ e => (by cases e), fun i a o e => (by cases e), fun p o hp => (by cases hp), List.nodup_nil, r.spS⟩
  · have e : upd H q o2 a = some o := e
    by_cases ha : a = q
    · subst ha; rw [upd_same] at e; cases e; exact k2
    · rw [upd_ne ha] at e
      refine r.keep a o e fun z => ?_
      rcases List.mem_cons.mp z with z | z
      · exact hm (List.mem_singleton.mpr z)
      · exact ha (List.mem_singleton.mp z)
  · have : a = p := List.mem_singleton.mp ha
    subst this
    obtain ⟨f1, ⟨o, f2⟩, f3⟩ := r.muk a (List.mem_cons_self ..)
    exact ⟨f1, ⟨o, by show upd H q o2 a = some o; rw [upd_ne npq]; exact f2⟩, f3⟩
  · rcases r.ext a o e with z | z
    · exact .inl z
    · refine .inr ?_
      show upd H q o2 a = none
      by_cases ha : a = q
      · subst ha; rw [k1] at e; cases e
      · rw [upd_ne ha]; exact z
structure SpecPP where
  S : List D → List D → List D → (Rv → List D → List D → Prop) → Prop
  mono : ∀ pl wl ds P P', (∀ r pl wl, P r pl wl → P' r pl wl) → S pl wl ds P → S pl wl ds P'
def spPP (K : PySem.W.Frag) (s : SpecPP) : Sp := fun vs H Q _ => ∃ S SP p q xs ys pl wl vs' ds, vs = .ref p :: .ref q :: vs' ∧ p ≠ q ∧ Same S H ∧ Same SP S ∧ S p = none ∧ S q = none ∧ H p = some (.lst xs) ∧ H q = some (.lst ys) ∧ DenL SP xs pl ∧ DenL SP ys wl ∧ flats wl ∧ DenL S vs' ds ∧
  s.S pl wl ds fun r pl' wl' => ∀ v S' H' xs' ys', Rel0 K ⟨H, S, [p, q], [], SP⟩ S' H' [] [] → S' p = none → S' q = none → H' p = some (.lst xs') → H' q = some (.lst ys') → DenL SP xs' pl' → DenL SP ys' wl' → RvOk ⟨H, S, [p, q], [], SP⟩ S' H' v r → Q v H'
end
section
variable {X : Xb} {K : PySem.W.Frag} {f : Addr} {fd : FuncData} {ps : List Str} {k : Nat} {x : Str} {e : Expr} {es : List Expr} {t : TA} {w : WA} {p pos : Pos}
/-- a call that draws from the list in slot i and changes the flat one in slot j -/
def dCallPP (i j : Nat) (s : SpecPP) (w : WA) : WE := fun γ Q => i ≠ j ∧ (∃ m pl, γ[i]? = some (.own m pl)) ∧ (∃ m wl, γ[j]? = some (.own m wl)) ∧ w γ fun ds γ1 => ∃ m pl m2 wl, γ1[i]? = some (.own m pl) ∧ γ1[j]? = some (.own m2 wl) ∧ flats wl ∧ s.S pl wl ds fun r pl' wl' => flats wl' ∧ Q r.val ((γ1.set j (.own m2 wl')).set i (.own m pl'))
end
def gamPP (N : List Str) (pl wl ds : List D) : List Sl := .own true pl :: .own true wl :: (ds.map .val ++ List.replicate (N.length - (ds.length + 2)) .any)
section
variable {P : Program} {w : World} {K : PySem.W.Frag} {mg : Str → Option Value} {base : Heap} {x qual : Str} {st : Stmt} {f : Addr} {fd : FuncData} {N ps : List Str} {k : Nat}
end
end DL
set_option Elab.async false
set_option linter.all false
set_option autoImplicit false
set_option maxRecDepth 100000
set_option maxHeartbeats 4000000
/-! DL23: texts: +, str(int), f-strings, join; star items. -/
namespace DL
open PySem PySem.Spec PyProof.Rows L2

def rAddStr : R2 := fun x y H Q => ∃ i j, x = .str i ∧ y = .str j ∧ i.length + j.length ≤ sizeLine ∧ Q (.str (i ++ j)) H
def addSD (x y : D) (Q : D → Prop) : Prop := ∃ i j, x = .str i ∧ y = .str j ∧ i.length + j.length ≤ sizeLine ∧ Q (.str (i ++ j))
def strID (ds : List D) (Q : D → Prop) : Prop := ∃ i : Int, ds = [.int i] ∧ i.natAbs.log2 < 1920 ∧ Q (.str (toString i))
section
variable {X : Xb} {K : PySem.W.Frag} {a b e : Expr} {ta tb te : TE} {wa wb we : WE} {pos p : Pos} {es : List Expr} {t : TA} {w : WA}
/-- a part of an f-string -/
def dFmt (we : WE) : WE := fun γ Q => we γ fun x γ1 => (∃ y : Str, x = .str y ∧ y.length ≤ sizeLine ∧ Q (.str y) γ1) ∨ ∃ i : Int, x = .int i ∧ i.natAbs.log2 < 1920 ∧ Q (.str (toString i)) γ1
inductive DJ (X : Xb) : List Expr → List TE → List WE → Prop where
  | nil : DJ X [] [] []
  | cons {e : Expr} {t : TE} {w : WE} {es : List Expr} {ts : List TE} {ws : List WE} (h : DE X e t w) (r : DJ X es ts ws) : DJ X (e :: es) (t :: ts) (w :: ws)
def dJs : List WE → Str → List Sl → (Str → List Sl → Prop) → Prop
  | [], acc, γ, Q => Q acc γ
  | w :: ws, acc, γ, Q => w γ fun x γ1 => ∃ y : Str, x = .str y ∧ (acc ++ y).length ≤ sizeLine ∧ dJs ws (acc ++ y) γ1 Q
theorem DJ.mono {es : List Expr} {ts : List TE} {ws : List WE} (h : DJ X es ts ws) : ∀ acc γ (P P' : Str → List Sl → Prop), (∀ x γ, P x γ → P' x γ) → dJs ws acc γ P → dJs ws acc γ P' := by
  induction h with
  | nil => exact fun acc γ P P' k q => k _ _ q
  | cons h _ ih => exact fun acc γ P P' k q => h.se.mono γ _ _ (fun x γ1 ⟨y, e, c, q⟩ => ⟨y, e, c, ih _ _ _ _ k q⟩) q
theorem DJ.run {es : List Expr} {ts : List TE} {ws : List WE} (h : DJ X es ts ws) : ∀ B S H σ γ acc (Q : Str → Hp → Prop), Rel X B S H σ γ → dJs ws acc γ (fun x γ' => ∀ S' H', Rel X B S' H' σ γ' → Same S S' → Q x H') → tJs ts acc σ H Q := by
  induction h with
  | nil => exact fun B S H σ γ acc Q R q => q S H R (Same.refl S)
  | cons h r ih =>
    intro B S H σ γ acc Q R q
    refine h.se.run B S H σ γ _ R (h.se.mono γ _ _ (fun x γ1 ⟨y, e, c, q⟩ v S1 H1 R1 e1 d1 => ?_) q)
    subst e; cases d1
    exact ⟨y, rfl, c, ih B S1 H1 σ γ1 _ Q R1 (r.mono _ _ _ _ (fun x γ2 q S2 H2 R2 e2 => q S2 H2 R2 (e1.trans e2)) q)⟩
def dJoined (ws : List WE) : WE := fun γ Q => dJs ws Str.empty γ fun out γ1 => Q (.str out) γ1
/-- *items among arguments -/
def dStar (we : WE) (w : WA) : WA := fun γ Q => we γ fun d γ1 => ∃ xs, (d = .lst xs ∨ d = .tup xs) ∧ w γ1 fun ds γ2 => Q (xs ++ ds) γ2
/-- sep.join(texts) -/
def dJoin (wo we : WE) : WE := fun γ Q => wo γ fun x γ1 => (∃ a, x = .str a) ∧ we γ1 fun y γ2 => ∃ (a : Str) (ys : List Str), x = .str a ∧ y = .lst (ys.map D.str) ∧ (ys.map (·.length)).sum + ys.length * a.length ≤ 16777216 ∧ Q (.str (Txt.join a ys)) γ2
def rJoin (K : PySem.W.Frag) : V → List V → Hp → VK → Prop := fun x xs H Q => ∃ a p, ∃ ys : List Str, x = .str a ∧ xs = [.ref p] ∧ (SqL K H p (ys.map V.str) ∨ SqT K H p (ys.map V.str)) ∧ (ys.map (·.length)).sum + ys.length * a.length ≤ 16777216 ∧ Q (.str (Txt.join a ys)) H
end
end DL
set_option Elab.async false
set_option linter.all false
set_option autoImplicit false
set_option maxRecDepth 100000
set_option maxHeartbeats 4000000
/-! DL24: dicts of the module with text keys and ints, t + u of tuples, calls with a star, head facts with tables. -/
namespace DL
open PySem PySem.Spec PyProof.Rows L2 He

/-! ### a dict of the module -/
structure Dc (K : PySem.W.Frag) (w : World) (mg : Str → Option Value) (x : Str) (kvs : List (Str × Int)) (no : List Str) : Type where
  a : Addr
  g : mg x = some (.ref a)
  D : ∃ es n, KDict K w a es n
  yes : ∀ q ∈ kvs, ∃ u, PySem.W.nsIn K a q.1 = some (some u) ∧ RelV (.int q.2) u
  non : ∀ z ∈ no, PySem.W.nsIn K a z = some none
/-- is the text a key? (none: not known) -/
def kdIn (kvs : List (Str × Int)) (no : List Str) (z : Str) : Option Bool := if z ∈ kvs.map (·.1) then some true else if z ∈ no then some false else none
def kdAt (kvs : List (Str × Int)) (z : Str) : Option Int := kvs.lookup z
section
variable {X : Xb} {K : PySem.W.Frag} {e a b : Expr} {te ta tb : TE} {we wa wb : WE} {pos p : Pos} {x : Str} {kvs : List (Str × Int)} {no : List Str}
def dInKd (kvs : List (Str × Int)) (no : List Str) (we : WE) : WE := fun γ Q => we γ fun y γ1 => ∃ z b, y = .str z ∧ kdIn kvs no z = some b ∧ Q (.bl b) γ1
def rInKd (K : PySem.W.Frag) (a : Addr) : R2 := fun x y H Q => ∃ (z : Str) (r : Option Value), x = .str z ∧ y = .ref a ∧ PySem.W.nsIn K a z = some r ∧ Q (.bl r.isSome) H
def dAtKd (kvs : List (Str × Int)) (we : WE) : WE := fun γ Q => we γ fun y γ1 => ∃ z i, y = .str z ∧ kdAt kvs z = some i ∧ Q (.int i) γ1
/-! ### t + u -/
def dCatT (wa wb : WE) : WE := fun γ Q => wa γ fun x γ1 => wb γ1 fun y γ2 => ∃ ds es, x = .tup ds ∧ y = .tup es ∧ ds.length + es.length ≤ sizeLine ∧ Q (.tup (ds ++ es)) γ2
/-- t[lo:hi] of a tuple -/
def dSlT (wa : WE) (wl wh : WO) : WE := fun γ Q => wa γ fun x γ1 => wl γ1 fun l γ2 => wh γ2 fun h γ3 => ∃ ds, x = .tup ds ∧ Q (.tup (cutL ds l h)) γ3
/-! ### calls with a star -/
variable {f : Addr} {fd : FuncData} {ps : List Str} {k : Nat} {es : List Expr} {t : TA} {w : WA}
end
section
variable {γ : List Sl} {Q : D → List Sl → Prop} {wa wb we : WE} {wl wh : WO} {kvs : List (Str × Int)} {no : List Str} {ds es : List D}
theorem i_inKd (q : we γ fun y γ1 => ∃ z b, y = .str z ∧ kdIn kvs no z = some b ∧ Q (.bl b) γ1) : dInKd kvs no we γ Q := q
instance : Go (dInKd kvs no we γ Q) (we γ fun y γ1 => ∃ z b, y = .str z ∧ kdIn kvs no z = some b ∧ Q (.bl b) γ1) := ⟨fun z => i_inKd z⟩
theorem i_atKd (q : we γ fun y γ1 => ∃ z i, y = .str z ∧ kdAt kvs z = some i ∧ Q (.int i) γ1) : dAtKd kvs we γ Q := q
instance : Go (dAtKd kvs we γ Q) (we γ fun y γ1 => ∃ z i, y = .str z ∧ kdAt kvs z = some i ∧ Q (.int i) γ1) := ⟨fun z => i_atKd z⟩
theorem i_catT (q : wa γ fun x γ1 => wb γ1 fun y γ2 => ∃ ds es, x = .tup ds ∧ y = .tup es ∧ ds.length + es.length ≤ sizeLine ∧ Q (.tup (ds ++ es)) γ2) : dCatT wa wb γ Q := q
instance : Go (dCatT wa wb γ Q) (wa γ fun x γ1 => wb γ1 fun y γ2 => ∃ ds es, x = .tup ds ∧ y = .tup es ∧ ds.length + es.length ≤ sizeLine ∧ Q (.tup (ds ++ es)) γ2) := ⟨fun z => i_catT z⟩
theorem i_slT (q : wa γ fun x γ1 => wl γ1 fun l γ2 => wh γ2 fun h γ3 => ∃ ds, x = .tup ds ∧ Q (.tup (cutL ds l h)) γ3) : dSlT wa wl wh γ Q := q
instance : Go (dSlT wa wl wh γ Q) (wa γ fun x γ1 => wl γ1 fun l γ2 => wh γ2 fun h γ3 => ∃ ds, x = .tup ds ∧ Q (.tup (cutL ds l h)) γ3) := ⟨fun z => i_slT z⟩
end

/-! ### the head's facts, with tables -/
section
variable {fa : List Fa} {fn : List DefD} {xs : List (PySem.W.Frag → Bool)} {ts : List Tab} {w : World} {K : PySem.W.Frag}
theorem SaysET.e (c : SaysET fa fn xs ts w K) : SaysE fa fn xs K := congrArg (fun z : AlT => z.1) c
end
def Dc.of {K : PySem.W.Frag} {w : World} {h : Heap} {mg : Str → Option Value} {x : Str} {kvs : List (Str × Int)} {no : List Str} (X : K.In h) (G : h.Ns mainGlobals mg) (hg : (Fa.glo x).ok K = true) (hd : ∃ es n, KDict K w (ga K x) es n) (hb : kdB x kvs no K = true) : Dc K w mg x kvs no :=
  { a := ga K x
    g := glo_ok X G hg
    D := hd
    yes := fun q hq => valsB_ok (ba hb).1 (q := (q.1, Dv.int q.2)) (List.mem_map.mpr ⟨q, hq, rfl⟩)
    non := fun z hz => eqO_ok (List.all_eq_true.mp (ba hb).2 z hz) }
end DL
set_option Elab.async false
set_option linter.all false
set_option autoImplicit false
set_option maxRecDepth 100000
set_option maxHeartbeats 4000000
/-! DL25: steps for texts, star items, calls that change two lists; loops and comprehensions over lists told by a function. -/
namespace DL
open PySem PySem.Spec PyProof.Rows L2
section
variable {γ : List Sl} {Q : D → List Sl → Prop} {QA : List D → List Sl → Prop} {QF : List D → List Sl → Prop} {wa wb we wo : WE} {wA : WA} {w : WE} {ws : List WE} {ds es : List D} {R : D → Prop} {wg : WG} {Dd : EndsD}
theorem i_fmt (q : we γ fun x γ1 => (∃ y : Str, x = .str y ∧ y.length ≤ sizeLine ∧ Q (.str y) γ1) ∨ ∃ i : Int, x = .int i ∧ i.natAbs.log2 < 1920 ∧ Q (.str (toString i)) γ1) : dFmt we γ Q := q
instance : Go (dFmt we γ Q) (we γ fun x γ1 => (∃ y : Str, x = .str y ∧ y.length ≤ sizeLine ∧ Q (.str y) γ1) ∨ ∃ i : Int, x = .int i ∧ i.natAbs.log2 < 1920 ∧ Q (.str (toString i)) γ1) := ⟨fun z => i_fmt z⟩
theorem i_joined (q : dJs ws Str.empty γ fun out γ1 => Q (.str out) γ1) : dJoined ws γ Q := q
instance : Go (dJoined ws γ Q) (dJs ws Str.empty γ fun out γ1 => Q (.str out) γ1) := ⟨fun z => i_joined z⟩
theorem i_jnil {acc : Str} {QS : Str → List Sl → Prop} (q : QS acc γ) : dJs [] acc γ QS := q
instance {acc : Str} {QS : Str → List Sl → Prop} : Go (dJs [] acc γ QS) (QS acc γ) := ⟨fun z => i_jnil z⟩
theorem i_jcons {acc : Str} {QS : Str → List Sl → Prop} (q : w γ fun x γ1 => ∃ y : Str, x = .str y ∧ (acc ++ y).length ≤ sizeLine ∧ dJs ws (acc ++ y) γ1 QS) : dJs (w :: ws) acc γ QS := q
instance {acc : Str} {QS : Str → List Sl → Prop} : Go (dJs (w :: ws) acc γ QS) (w γ fun x γ1 => ∃ y : Str, x = .str y ∧ (acc ++ y).length ≤ sizeLine ∧ dJs ws (acc ++ y) γ1 QS) := ⟨fun z => i_jcons z⟩
theorem str_len_append (x y : Str) : (x ++ y).length = x.length + y.length := by
  show (x.cps ++ y.cps).size = _
  rw [Array.size_append]; rfl
theorem i_star (q : we γ fun d γ1 => ∃ xs, (d = .lst xs ∨ d = .tup xs) ∧ wA γ1 fun ds γ2 => QA (xs ++ ds) γ2) : dStar we wA γ QA := q
instance : Go (dStar we wA γ QA) (we γ fun d γ1 => ∃ xs, (d = .lst xs ∨ d = .tup xs) ∧ wA γ1 fun ds γ2 => QA (xs ++ ds) γ2) := ⟨fun z => i_star z⟩
theorem i_join (q : wo γ fun x γ1 => (∃ a, x = .str a) ∧ we γ1 fun y γ2 => ∃ (a : Str) (ys : List Str), x = .str a ∧ y = .lst (ys.map D.str) ∧ (ys.map (·.length)).sum + ys.length * a.length ≤ 16777216 ∧ Q (.str (Txt.join a ys)) γ2) : dJoin wo we γ Q := q
instance : Go (dJoin wo we γ Q) (wo γ fun x γ1 => (∃ a, x = .str a) ∧ we γ1 fun y γ2 => ∃ (a : Str) (ys : List Str), x = .str a ∧ y = .lst (ys.map D.str) ∧ (ys.map (·.length)).sum + ys.length * a.length ≤ 16777216 ∧ Q (.str (Txt.join a ys)) γ2) := ⟨fun z => i_join z⟩
theorem i_jo {x : Str} {P : Prop} (q : P) : (∃ a, D.str x = .str a) ∧ P := ⟨⟨x, rfl⟩, q⟩
instance {x : Str} {P : Prop} : Go ((∃ a, D.str x = .str a) ∧ P) (P) := ⟨fun z => i_jo z⟩
end
end DL
namespace DL
open PySem PySem.Spec PyProof.Rows L2
/-- the sizes of statements (the program's table, for the steps) -/
abbrev SZ : List (Str × Int) := [("set", 3), ("carry", 2), ("keep", 3), ("either", 3), ("again", 2), ("call", 4), ("end", 2)]
end DL
namespace DL
open PySem PySem.Spec PyProof.Rows L2
/-- a promise by parameters whose answer is told by a function -/
def SpecD.fn {α : Type} (args : α → List D) (pre : α → Prop) (f : α → Rv) : SpecD := ⟨fun ds Q => ∃ a, ds = args a ∧ pre a ∧ Q (f a), fun ds P P' k ⟨a, e, h, q⟩ => ⟨a, e, h, k _ q⟩⟩
end DL
namespace DL
open PySem PySem.Spec PyProof.Rows L2
def isZ (d : D) : Bool := isI d && !isB d
theorem isZ_i (i : Int) : isZ (.int i) = true := rfl
theorem isZ_b (b : Bool) : isZ (.bl b) = false := rfl
theorem isZ_n : isZ .non = false := rfl
theorem isZ_s (s : Str) : isZ (.str s) = false := rfl
theorem isZ_l (ds : List D) : isZ (.lst ds) = false := rfl
theorem isZ_t (ds : List D) : isZ (.tup ds) = false := rfl
theorem isZ_o (C : Addr) (fs : List (Str × D)) : isZ (.obj C fs) = false := rfl
theorem isZ_e : isZ .emp = false := rfl
theorem i_iteDT {p : Prop} [Decidable p] {A B : Prop} (h : p) (q : A) : if decide p = true then A else B := by rw [if_pos (decide_eq_true h)]; exact q
theorem i_iteND {p : Prop} [Decidable p] {A B : Prop} (h : p) (q : B) : if (!decide p) = true then A else B := by rw [if_neg (by rw [decide_eq_true h]; decide)]; exact q
end DL
namespace DL
end DL
namespace DL
open PySem PySem.Spec PyProof.Rows L2
end DL
namespace DL
open PySem PySem.Spec PyProof.Rows L2
theorem len_lit (s : String) : (Str.ofString s).length = s.toList.length := by
  have := TL.tl_ofString s
  have h2 : (TL.tl (Str.ofString s)).length = s.toList.length := by rw [this, List.length_map]
  exact h2
theorem len_empty : Str.empty.length = 0 := rfl
end DL
namespace DL
open PySem PySem.Spec PyProof.Rows L2
end DL
namespace DL
open PySem PySem.Spec PyProof.Rows L2
end DL
namespace DL
end DL
set_option Elab.async false
set_option linter.all false
set_option autoImplicit false
set_option maxRecDepth 100000
set_option maxHeartbeats 4000000
/-! DL26: boxes: lists and instances that other things hold and that change. -/
namespace DL
open PySem PySem.Spec PyProof.Rows L2
def updB (L : Bxs) (p : Addr) (b : Bx) : Bxs := fun q => if q = p then some b else L q
def delB (L : Bxs) (p : Addr) : Bxs := fun q => if q = p then none else L q
theorem updB_same {L : Bxs} {p : Addr} {b : Bx} : updB L p b p = some b := if_pos rfl
theorem updB_ne {L : Bxs} {p q : Addr} {b : Bx} (h : q ≠ p) : updB L p b q = L q := if_neg h
theorem delB_same {L : Bxs} {p : Addr} : delB L p p = none := if_pos rfl
theorem delB_ne {L : Bxs} {p q : Addr} (h : q ≠ p) : delB L p q = L q := if_neg h
section
variable {K : PySem.W.Frag} {B : Bs} {S S' F H H' : Hp} {σ : L2.St} {γ : List Sl} {p : Addr} {o : HO} {φ : Nat → Hp} {i : Nat} {m : Bool} {L L' : Bxs} {b b0 : Bx}
theorem BxsOk.at_ (h : BxsOk S F L) (e : L p = some b) : ∃ o, F p = some o ∧ BxOk S (some o) (some b) := by
  have k := h.2 p
  rw [e] at k
  cases hF : F p with
  | none => rw [hF] at k; exact k.elim
  | some o => rw [hF] at k; exact ⟨o, rfl, k⟩
theorem BxsOk.none_ (h : BxsOk S F L) (e : F p = none) : L p = none := by
  have k := h.2 p
  cases hL : L p with
  | none => rfl
  | some b => rw [hL, e] at k; exact k.elim
theorem BxsOk.upd (h : BxsOk S F L) (hb : BxOk S (some o) (some b)) : BxsOk S (upd F p o) (updB L p b) := by
  obtain ⟨⟨ks, hk⟩, h⟩ := h
  refine ⟨⟨p :: ks, fun q hq => ?_⟩, fun q => ?_⟩
  · by_cases e : q = p
    · rw [e]; exact List.mem_cons_self ..
    · rw [updB_ne e] at hq; exact List.mem_cons_of_mem _ (hk q hq)
  · by_cases e : q = p
    · subst e; rw [upd_same, updB_same]; exact hb
    · rw [upd_ne e, updB_ne e]; exact h q
theorem BxsOk.del (h : BxsOk S F L) : BxsOk S (L2.del F p) (delB L p) := by
  obtain ⟨⟨ks, hk⟩, h⟩ := h
  refine ⟨⟨ks, fun q hq => ?_⟩, fun q => ?_⟩
  · by_cases e : q = p
    · subst e; rw [delB_same] at hq; exact (hq rfl).elim
    · rw [delB_ne e] at hq; exact hk q hq
  · by_cases e : q = p
    · subst e; rw [L2.del_same, delB_same]; trivial
    · rw [L2.del_ne e, delB_ne e]; exact h q
theorem BxsOk.mono (h : BxsOk S F L) (e : Same S S') : BxsOk S' F L := ⟨h.1, fun p => (h.2 p).mono e⟩
/-- slot i's part of the heap becomes F -/
theorem RelF.chgB (r : RelF K B S H σ γ φ) {s t : Sl} {u : HO} (hg : γ[i]? = some s) (hp : φ i p = some u) (ht : SlF K B S (upd (φ i) p o) σ[i]? t) (hm : t.may = s.may) (ha : ∀ i a, s.at_ B i a → t.at_ B i a) : Rel0 K B S (upd H p o) σ (γ.set i t) := by
  have hS := r.phS i _ _ hp
  have hO := r.phO i _ _ hp
  have em : ∀ {j a v}, (if j = i then L2.upd (φ i) p o else φ j) a = some v → (j = i ∧ a = p ∧ v = o) ∨ (φ j a = some v ∧ a ≠ p) := fun {j a v} e => by
    by_cases hj : j = i
    · rw [if_pos hj] at e
      by_cases ha : a = p
      · subst ha; rw [upd_same] at e; cases e; exact .inl ⟨hj, rfl, rfl⟩
      · rw [upd_ne ha] at e; subst hj; exact .inr ⟨e, ha⟩
    · rw [if_neg hj] at e; exact .inr ⟨e, fun z => by subst z; exact r.phD j i _ _ _ hj e hp⟩
  have em2 : ∀ {j a v}, (if j = i then L2.upd (φ i) p o else φ j) a = some v → ∃ w, φ j a = some w := fun {j a v} e => by
    rcases em e with ⟨z, z', _⟩ | ⟨z, _⟩
    · subst z z'; exact ⟨_, hp⟩
    · exact ⟨_, z⟩
  refine ⟨fun j => if j = i then L2.upd (φ i) p o else φ j, Same.updS r.same hS, fun a x e hm => ?_, fun a ha => ?_, r.grow, r.ext, by rw [List.length_set]; exact r.len, fun j t' e => ?_, fun j a v e => ?_, fun j a v e => ?_, fun j k a v w hjk e1 e2 => ?_, fun j a v e => ?_, fun q v hq => ?_, r.frn, r.spS⟩
  · rw [upd_ne (fun z => ?_)]
    · exact r.keep a x e hm
    · subst z
      obtain ⟨s', m, _, _, h | h⟩ := hO
      · exact hm (Sl.at_mem h.2)
      · rw [e] at h; cases h
  · obtain ⟨k1, k2, x, k3⟩ := r.muk a ha
    by_cases hap : a = p
    · subst hap; exact ⟨k1, k2, _, upd_same⟩
    · exact ⟨k1, k2, x, by rw [upd_ne hap]; exact k3⟩
  · rw [set_get hg] at e
    by_cases hj : j = i
    · rw [if_pos hj] at e
      cases e
      show SlF K B S (if j = i then L2.upd (φ i) p o else φ j) _ _
      rw [if_pos hj, hj]
      exact ht
    · rw [if_neg hj] at e
      show SlF K B S (if j = i then L2.upd (φ i) p o else φ j) _ _
      rw [if_neg hj]
      exact r.sl j t' e
  · rcases em e with ⟨_, z, z'⟩ | ⟨z, z'⟩
    · subst z z'; exact upd_same
    · rw [upd_ne z']; exact r.phH j a v z
  · obtain ⟨w, z⟩ := em2 e
    exact r.phS j a w z
  · obtain ⟨w1, z1⟩ := em2 e1
    obtain ⟨w2, z2⟩ := em2 e2
    exact r.phD j k a _ _ hjk z1 z2
  · obtain ⟨w, z⟩ := em2 e
    have q := r.phO j a w z
    by_cases hj : j = i
    · subst hj
      obtain ⟨s', m, e1, e2, e3⟩ := q
      rw [hg] at e1
      cases e1
      rw [set_get hg, if_pos rfl]
      exact ⟨t, m, rfl, hm.trans e2, e3.imp (fun z => ⟨z.1, ha _ _ z.2⟩) id⟩
    · rw [List.getElem?_set_ne (fun z => hj z.symm)]
      exact q
  · obtain ⟨k1, k2, k3, k4⟩ := r.frm q v hq
    have nq : q ≠ p := fun z => by subst z; rw [k4 i] at hp; cases hp
    refine ⟨by rw [upd_ne nq]; exact k1, k2, k3, fun j => ?_⟩
    show (if j = i then L2.upd (φ i) p o else φ j) q = none
    by_cases hj : j = i
    · rw [if_pos hj, upd_ne nq]; exact k4 i
    · rw [if_neg hj]; exact k4 j
/-- a box is changed -/
theorem Rel0.chgB (R : Rel0 K B S H σ γ) (hg : γ[i]? = some (.hp m L)) (hL : L p = some b0) (hb : BxOk S (some o) (some b)) : Rel0 K B S (upd H p o) σ (γ.set i (.hp m (updB L p b))) := by
  obtain ⟨φ, r⟩ := R
  have q : BxsOk S (φ i) L := r.sl i _ hg
  obtain ⟨u, hp, _⟩ := q.at_ hL
  exact r.chgB hg hp (q.upd hb) rfl (fun _ _ h => h)
/-- what is kept aside becomes a box -/
theorem Rel0.addB (R : Rel0 K (B.fram p o) S H σ γ) (hg : γ[i]? = some (.hp m L)) (hb : BxOk S (some o) (some b)) : Rel0 K B S H σ (γ.set i (.hp m (updB L p b))) ∧ L p = none := by
  obtain ⟨φ, r⟩ := R
  obtain ⟨h1, h2, h3, h4⟩ := r.frm p o (List.mem_cons_self ..)
  have n : ((p, o) :: B.fr |>.map (·.1)).Nodup := r.frn
  rw [List.map_cons] at n
  have q : BxsOk S (φ i) L := r.sl i _ hg
  have em : ∀ {j a u}, (if j = i then L2.upd (φ i) p o else φ j) a = some u → (j = i ∧ a = p ∧ u = o) ∨ (φ j a = some u) := fun {j a u} e => by
    by_cases hj : j = i
    · rw [if_pos hj] at e
      by_cases ha : a = p
      · subst ha; rw [upd_same] at e; cases e; exact .inl ⟨hj, rfl, rfl⟩
      · rw [upd_ne ha] at e; subst hj; exact .inr e
    · rw [if_neg hj] at e; exact .inr e
  refine ⟨⟨fun j => if j = i then L2.upd (φ i) p o else φ j, r.same, r.keep, r.muk, r.grow, r.ext, by rw [List.length_set]; exact r.len, fun j t e => ?_, fun j a u e => ?_, fun j a u e => ?_, fun j k a u v hjk e1 e2 => ?_, fun j a u e => ?_, fun q u hq => ?_, (List.nodup_cons.mp n).2, r.spS⟩, q.none_ (h4 i)⟩
  · rw [set_get hg] at e
    by_cases hj : j = i
    · rw [if_pos hj] at e
      cases e
      show SlF K B S (if j = i then L2.upd (φ i) p o else φ j) _ _
      rw [if_pos hj]
      exact q.upd hb
    · rw [if_neg hj] at e
      show SlF K B S (if j = i then L2.upd (φ i) p o else φ j) _ _
      rw [if_neg hj]
      exact r.sl j t e
  · rcases em e with ⟨_, z, z'⟩ | z
    · subst z z'; exact h1
    · exact r.phH j a u z
  · rcases em e with ⟨_, z, z'⟩ | z
    · subst z; exact h2
    · exact r.phS j a u z
  · rcases em e1 with ⟨z1, z2, _⟩ | z2
    · rcases em e2 with ⟨y1, _, _⟩ | y2
      · exact hjk (z1.trans y1.symm)
      · subst z2; rw [h4 k] at y2; cases y2
    · rcases em e2 with ⟨y1, y2, _⟩ | y2
      · subst y2; rw [h4 j] at z2; cases z2
      · exact r.phD j k a u v hjk z2 y2
  · rcases em e with ⟨z1, z2, _⟩ | z2
    · rw [z1, set_get hg, if_pos rfl, z2]
      exact ⟨_, m, rfl, rfl, .inr h3⟩
    · have qo := r.phO j a u z2
      by_cases hj : j = i
      · subst hj
        obtain ⟨s', m', e1, e2, e3⟩ := qo
        rw [hg] at e1
        cases e1
        rw [set_get hg, if_pos rfl]
        exact ⟨_, m', rfl, e2, e3⟩
      · rw [List.getElem?_set_ne (fun z => hj z.symm)]
        exact qo
  · obtain ⟨k1, k2, k3, k4⟩ := r.frm q u (List.mem_cons_of_mem _ hq)
    refine ⟨k1, k2, k3, fun j => ?_⟩
    show (if j = i then L2.upd (φ i) p o else φ j) q = none
    by_cases hj : j = i
    · rw [if_pos hj, upd_ne (fun z => (List.nodup_cons.mp n).1 (by subst z; exact List.mem_map.mpr ⟨_, hq, rfl⟩))]; exact k4 i
    · rw [if_neg hj]; exact k4 j
/-- a list of one's own in a box becomes a value -/
theorem Rel0.frzB (R : Rel0 K B S H σ γ) (hg : γ[i]? = some (.hp false L)) (hL : L p = some b) : ∃ o, H p = some o ∧ S p = none ∧ BxOk S (some o) (some b) ∧ Rel0 K B (upd S p o) H σ (γ.set i (.hp false (delB L p))) := by
  obtain ⟨φ, r⟩ := R
  have q : BxsOk S (φ i) L := r.sl i _ hg
  obtain ⟨o, hp, hb⟩ := q.at_ hL
  have hS := r.phS i _ _ hp
  have hH := r.phH i _ _ hp
  have h0 : B.H0 p = none := by
    obtain ⟨s', m', e1, e2, h | h⟩ := r.phO i _ _ hp
    · rw [hg] at e1; cases e1
      have e2 : some false = some m' := e2
      cases e2
      exact absurd h.1 (by decide)
    · exact h
  have eS : Same S (upd S p o) := Same.upd (Same.refl S) hS
  have em : ∀ {j a u}, (if j = i then L2.del (φ i) p else φ j) a = some u → φ j a = some u ∧ a ≠ p := fun {j a u} e => by
    by_cases hj : j = i
    · rw [if_pos hj] at e
      by_cases ha : a = p
      · subst ha; rw [L2.del_same] at e; cases e
      · rw [L2.del_ne ha] at e; subst hj; exact ⟨e, ha⟩
    · rw [if_neg hj] at e; exact ⟨e, fun z => by subst z; exact r.phD j i _ _ _ hj e hp⟩
  refine ⟨o, hH, hS, hb, fun j => if j = i then L2.del (φ i) p else φ j, Same.updL r.same hH, r.keep, r.muk, fun a x e => eS _ _ (r.grow a x e), fun a x e => ?_, by rw [List.length_set]; exact r.len, fun j t e => ?_, fun j a u e => r.phH j a u (em e).1, fun j a u e => ?_, fun j k a u v hjk e1 e2 => r.phD j k a u v hjk (em e1).1 (em e2).1, fun j a u e => ?_, fun a u hu => ?_, r.frn, r.spS⟩
  · by_cases ha : a = p
    · subst ha; exact .inr h0
    · rw [upd_ne ha] at e; exact r.ext a x e
  · rw [set_get hg] at e
    by_cases hj : j = i
    · rw [if_pos hj] at e
      cases e
      show SlF K B _ (if j = i then L2.del (φ i) p else φ j) _ _
      rw [if_pos hj]
      exact (q.del).mono eS
    · rw [if_neg hj] at e
      show SlF K B _ (if j = i then L2.del (φ i) p else φ j) _ _
      rw [if_neg hj]
      exact (r.sl j t e).mono eS
  · rw [upd_ne (em e).2]; exact r.phS j a u (em e).1
  · have qo := r.phO j a u (em e).1
    by_cases hj : j = i
    · subst hj
      obtain ⟨s', m', e1, e2, e3⟩ := qo
      rw [hg] at e1
      cases e1
      rw [set_get hg, if_pos rfl]
      exact ⟨_, m', rfl, e2, e3⟩
    · rw [List.getElem?_set_ne (fun z => hj z.symm)]
      exact qo
  · obtain ⟨k1, k2, k3, k4⟩ := r.frm a u hu
    refine ⟨k1, ?_, k3, fun j => ?_⟩
    · rw [upd_ne (fun z => by subst z; rw [k4 i] at hp; cases hp)]; exact k2
    · show (if j = i then L2.del (φ i) p else φ j) a = none
      by_cases hj : j = i
      · rw [if_pos hj]
        by_cases ha : a = p
        · subst ha; exact L2.del_same
        · rw [L2.del_ne ha]; exact k4 i
      · rw [if_neg hj]; exact k4 j
/-- the boxes behind a call -/
def BxsOut (S' H' : Hp) (L' : Bxs) (mu : List Addr) (H : Hp) : Prop := (∃ ks : List Addr, ∀ p, L' p ≠ none → p ∈ ks) ∧ ∀ p b, L' p = some b → S' p = none ∧ BxOk S' (H' p) (some b) ∧ (p ∈ mu ∨ H p = none)
/-- the part of the heap where boxes stand -/
def partB (L : Bxs) (H : Hp) : Hp := fun a => if (L a).isSome then H a else none
theorem partB_some {a : Addr} {o : HO} (h : partB L H a = some o) : H a = some o ∧ ∃ b, L a = some b := by
  unfold partB at h
  cases hL : L a with
  | none => rw [hL] at h; cases h
  | some b => rw [hL] at h; exact ⟨h, b, rfl⟩
theorem partB_ok (hf : ∃ ks : List Addr, ∀ p, L p ≠ none → p ∈ ks) (h : ∀ p b, L p = some b → BxOk S (H p) (some b)) : BxsOk S (partB L H) L := by
  refine ⟨hf, fun p => ?_⟩
  unfold partB
  cases hL : L p with
  | none => trivial
  | some b => exact h p b hL
/-- behind a call that may change the boxes -/
theorem Rel0.callB (R : Rel0 K B S H σ γ) (hg : γ[i]? = some (.hp m L)) {mu : List Addr} {SP : Hp} (hmu : ∀ a, a ∈ mu → L a ≠ none) (C : Rel0 K ⟨H, S, mu, [], SP⟩ S' H' [] []) (ho : BxsOut S' H' L' mu H) : Rel0 K B S' H' σ (γ.set i (.hp m L')) := by
  obtain ⟨φ, r⟩ := R
  have q : BxsOk S (φ i) L := r.sl i _ hg
  have mine : ∀ a, a ∈ mu → ∃ o, φ i a = some o := fun a ha => by
    cases hL : L a with
    | none => exact (hmu a ha hL).elim
    | some b => obtain ⟨o, e, _⟩ := q.at_ hL; exact ⟨o, e⟩
  have hk : ∀ a o, H a = some o → a ∉ mu → H' a = some o := fun a o e n => C.keep a o e n
  have hS : ∀ a o, H a = some o → S a = none → S' a = none := fun a o e n => by
    cases q : S' a with
    | none => rfl
    | some u =>
      rcases C.ext a u q with z | z
      · have z' : S a = some u := z
        rw [n] at z'; cases z'
      · have z' : H a = none := z
        rw [e] at z'; cases z'
  have other : ∀ {j a v}, j ≠ i → φ j a = some v → a ∉ mu := fun {j a v} hj e ha => by
    obtain ⟨o, e2⟩ := mine a ha
    exact r.phD j i _ _ _ hj e e2
  have em : ∀ {j a v}, (if j = i then partB L' H' else φ j) a = some v → (j = i ∧ H' a = some v ∧ ∃ b, L' a = some b) ∨ (j ≠ i ∧ φ j a = some v) := fun {j a v} e => by
    by_cases hj : j = i
    · rw [if_pos hj] at e; exact .inl ⟨hj, partB_some e⟩
    · rw [if_neg hj] at e; exact .inr ⟨hj, e⟩
  have newp : ∀ {a b}, L' a = some b → ∀ {j v}, j ≠ i → φ j a = some v → False := fun {a b} e {j v} hj e2 => by
    rcases (ho.2 a b e).2.2 with z | z
    · exact other hj e2 z
    · rw [r.phH j _ _ e2] at z; cases z
  have muk : ∀ a, a ∈ mu → ∃ o, H' a = some o := fun a ha => (C.muk a ha).2.2
  refine ⟨fun j => if j = i then partB L' H' else φ j, C.same, fun a x e hm => ?_, fun a ha => ?_, fun a x e => C.grow a x (r.grow a x e), fun a x e => ?_, by rw [List.length_set]; exact r.len, fun j t' e => ?_, fun j a v e => ?_, fun j a v e => ?_, fun j k a v w hjk e1 e2 => ?_, fun j a v e => ?_, fun q v hq => ?_, r.frn, r.spS⟩
  · refine hk a x (r.keep a x e hm) fun z => ?_
    obtain ⟨o, e2⟩ := mine a z
    obtain ⟨s', m', _, _, h | h⟩ := r.phO i _ _ e2
    · exact hm (Sl.at_mem h.2)
    · rw [e] at h; cases h
  · obtain ⟨f1, f2, x, f3⟩ := r.muk a ha
    by_cases hap : a ∈ mu
    · exact ⟨f1, f2, muk a hap⟩
    · exact ⟨f1, f2, x, hk a _ f3 hap⟩
  · rcases C.ext a x e with z | z
    · exact r.ext a x z
    · exact .inr (r.fresh0 z)
  · rw [set_get hg] at e
    by_cases hj : j = i
    · rw [if_pos hj] at e
      cases e
      show SlF K B S' (if j = i then partB L' H' else φ j) _ _
      rw [if_pos hj]
      exact partB_ok ho.1 fun p b e => (ho.2 p b e).2.1
    · rw [if_neg hj] at e
      show SlF K B S' (if j = i then partB L' H' else φ j) _ _
      rw [if_neg hj]
      exact (r.sl j t' e).mono C.grow
  · rcases em e with ⟨_, z, _⟩ | ⟨hj, z⟩
    · exact z
    · exact hk a v (r.phH j a v z) (other hj z)
  · rcases em e with ⟨_, z, b, hb⟩ | ⟨hj, z⟩
    · exact (ho.2 a b hb).1
    · exact hS a v (r.phH j a v z) (r.phS j a v z)
  · rcases em e1 with ⟨z1, _, b1, hb1⟩ | ⟨z1, z2⟩
    · rcases em e2 with ⟨y1, _, _⟩ | ⟨y1, y2⟩
      · exact hjk (z1.trans y1.symm)
      · exact newp hb1 y1 y2
    · rcases em e2 with ⟨y1, _, b2, hb2⟩ | ⟨y1, y2⟩
      · exact newp hb2 z1 z2
      · exact r.phD j k a v w hjk z2 y2
  · rcases em e with ⟨z1, z2, b, hb⟩ | ⟨z1, z2⟩
    · rw [z1, set_get hg, if_pos rfl]
      rcases (ho.2 a b hb).2.2 with z | z
      · obtain ⟨o, e2⟩ := mine a z
        obtain ⟨s', m', e1, e2, e3⟩ := r.phO i _ _ e2
        rw [hg] at e1
        cases e1
        exact ⟨_, m', rfl, e2, e3⟩
      · exact ⟨_, m, rfl, rfl, .inr (r.fresh0 z)⟩
    · rw [List.getElem?_set_ne (fun z => z1 z.symm)]
      exact r.phO j a v z2
  · obtain ⟨f1, f2, f3, f4⟩ := r.frm q v hq
    have nq : q ∉ mu := fun z => by obtain ⟨o, e⟩ := mine q z; rw [f4 i] at e; cases e
    refine ⟨hk q v f1 nq, hS q v f1 f2, f3, fun j => ?_⟩
    show (if j = i then partB L' H' else φ j) q = none
    by_cases hj : j = i
    · rw [if_pos hj]
      cases e : partB L' H' q with
      | none => rfl
      | some o =>
        obtain ⟨_, b, hb⟩ := partB_some e
        rcases (ho.2 q b hb).2.2 with z | z
        · exact (nq z).elim
        · rw [f1] at z; cases z
    · rw [if_neg hj]; exact f4 j
end
end DL
set_option Elab.async false
set_option linter.all false
set_option autoImplicit false
set_option maxRecDepth 100000
set_option maxHeartbeats 4000000
/-! DL27: boxes: reading, changing, promises of defs that change boxes. -/
namespace DL
open PySem PySem.Spec PyProof.Rows L2
section
variable {X : Xb} {B : Bs} {S S' F H H' : Hp} {σ : L2.St} {γ : List Sl} {p : Addr} {o : HO} {i : Nat} {m : Bool} {L L' : Bxs} {b b0 : Bx}
theorem Rel.boxAt (R : Rel X B S H σ γ) (hg : γ[i]? = some (.hp m L)) (hL : L p = some b) : S p = none ∧ BxOk S (H p) (some b) := R.sl i _ hg p b hL
theorem Rel.boxL {ds : List D} (R : Rel X B S H σ γ) (hg : γ[i]? = some (.hp m L)) (hL : L p = some (.lst ds)) : ∃ xs, H p = some (.lst xs) ∧ DenL S xs ds := by
  obtain ⟨_, h⟩ := R.boxAt hg hL
  cases e : H p with
  | none => rw [e] at h; exact h.elim
  | some o => rw [e] at h; obtain ⟨xs, rfl, h2⟩ := h; exact ⟨xs, rfl, h2⟩
theorem Rel.boxI {C : Addr} {fs : List (Str × D)} (R : Rel X B S H σ γ) (hg : γ[i]? = some (.hp m L)) (hL : L p = some (.ins C fs)) : ∃ dx vs, H p = some (.ins C dx vs) ∧ DenF S vs fs := by
  obtain ⟨_, h⟩ := R.boxAt hg hL
  cases e : H p with
  | none => rw [e] at h; exact h.elim
  | some o => rw [e] at h; obtain ⟨dx, vs, rfl, h2⟩ := h; exact ⟨dx, vs, rfl, h2⟩
theorem Rel.chgL {xs : List V} {ds : List D} (R : Rel X B S H σ γ) (hg : γ[i]? = some (.hp m L)) (hL : L p = some b0) (hd : DenL S xs ds) : Rel X B S (upd H p (.lst xs)) σ (γ.set i (.hp m (updB L p (.lst ds)))) :=
  ⟨R.r.chgB hg hL ⟨xs, rfl, hd⟩, R.x⟩
theorem Rel.chgO {C dx : Addr} {vs : List (Str × V)} {fs : List (Str × D)} (R : Rel X B S H σ γ) (hg : γ[i]? = some (.hp m L)) (hL : L p = some b0) (hd : DenF S vs fs) : Rel X B S (upd H p (.ins C dx vs)) σ (γ.set i (.hp m (updB L p (.ins C fs)))) :=
  ⟨R.r.chgB hg hL ⟨dx, vs, rfl, hd⟩, R.x⟩
theorem Rel.addB (R : Rel X (B.fram p o) S H σ γ) (hg : γ[i]? = some (.hp m L)) (hb : BxOk S (some o) (some b)) : Rel X B S H σ (γ.set i (.hp m (updB L p b))) ∧ L p = none :=
  ⟨⟨(R.r.addB hg hb).1, R.x⟩, (R.r.addB hg hb).2⟩
theorem Rel.callB (R : Rel X B S H σ γ) (hg : γ[i]? = some (.hp m L)) {mu : List Addr} {SP : Hp} (hmu : ∀ a, a ∈ mu → L a ≠ none) (C : Rel0 X.K ⟨H, S, mu, [], SP⟩ S' H' [] []) (ho : BxsOut S' H' L' mu H) : Rel X B S' H' σ (γ.set i (.hp m L')) :=
  ⟨R.r.callB hg hmu C ho, R.x.mono C.grow⟩
end
section
variable {X : Xb} {K : PySem.W.Frag} {a b c e o : Expr} {es : List Expr} {ta tb tc te to : TE} {wa wb wc we wo : WE} {t : TA} {w : WA} {pos p p1 p2 : Pos} {f : Str}
/-- x.f, x an instance in a box -/
def dFldB (K : PySem.W.Frag) (h : Nat) (f : Str) (wa : WE) : WE := fun γ Q => wa γ fun x γ1 => ∃ m L q C fs d, x = .ref q ∧ γ1[h]? = some (.hp m L) ∧ L q = some (.ins C fs) ∧ (Cls K C ∧ NoAttr K C f) ∧ fs.lookup f = some d ∧ Q d γ1
/-- x.f = e, x an instance in a box -/
def dPutB (K : PySem.W.Frag) (h : Nat) (f : Str) (wo we : WE) : WS := fun Dd γ => we γ fun d γ1 => wo γ1 fun x γ2 => ∃ m L q C fs, x = .ref q ∧ γ2[h]? = some (.hp m L) ∧ L q = some (.ins C fs) ∧ (Cls K C ∧ NoAttr K C f) ∧ fs.length < 1000 ∧ Dd.nx (γ2.set h (.hp m (updB L q (.ins C (putD f d fs)))))
theorem ds_putB (K' : PySem.W.Frag) (h : Nat) {f : Str} {pa : Pos} (ho : DE X o to wo) (he : DE X e te we)
    (hs : swapsWith e (some (.Attribute o f pa)) pos.line X.env = pure false := by rfl) (hK : X.K = K' := by rfl) : DS X (.Assign [.Attribute o f pa] e pos) (sFld K' to te f) (dPutB K' h f wo we) := by
  subst hK
  refine ⟨ps_fld ho.pe he.pe hs, ⟨fun B S0 S H σ γ Dd D R e L q => ?_⟩⟩
  refine he.se.run B S H σ γ _ R (he.se.mono γ _ _ (fun d γ1 q v S1 H1 R1 e1 d1 => ?_) q)
  refine ho.se.run B S1 H1 σ γ1 _ R1 (ho.se.mono γ1 _ _ (fun x γ2 ⟨m, Lb, q, C, fs, ex, g, l, c, hl, q'⟩ u S2 H2 R2 e2 d2 => ?_) q)
  subst ex
  cases d2
  obtain ⟨dx, vs, h1, h2⟩ := R2.boxI g l
  exact ⟨q, C, dx, vs, rfl, h1, c.1, c.2, by rw [h2.1]; exact hl, L.nx S2 _ σ _ (e.trans (e1.trans e2)) (R2.chgO g l (h2.put (d1.mono e2))) q'⟩
/-- o.append(e), o a list in a box -/
def dAppB (h : Nat) (wo we : WE) : WS := fun Dd γ => wo γ fun x γ1 => (∃ m L q ds, x = .ref q ∧ γ1[h]? = some (.hp m L) ∧ L q = some (.lst ds)) ∧ we γ1 fun d γ2 => ∃ m L q ds, x = .ref q ∧ γ2[h]? = some (.hp m L) ∧ L q = some (.lst ds) ∧ ds.length < sizeLine ∧ Dd.nx (γ2.set h (.hp m (updB L q (.lst (ds ++ [d])))))
theorem ds_appB (h : Nat) (hpe : PE X o to → PE X e te → PE X (.Call (.Attribute o "append" p1) [e] [] p2) (tBM X.K "list" rAppend to (tCons te tNil))) (ho : DE X o to wo) (he : DE X e te we)
    (hs : swapsWith (.Call (.Attribute o "append" p1) [e] [] p2) none pos.line X.env = pure false := by rfl) : DS X (.Expr (.Call (.Attribute o "append" p1) [e] [] p2) pos) (tDrop (tBM X.K "list" rAppend to (tCons te tNil))) (dAppB h wo we) :=
  ⟨ps_expr (hpe ho.pe he.pe) hs, ⟨fun B S0 S H σ γ Dd D R e L q => by
    refine ho.se.run B S H σ γ _ R (ho.se.mono γ _ _ (fun x γ1 q v S1 H1 R1 e1 d1 => ?_) q)
    obtain ⟨⟨m0, L0, q0, ds0, ex0, g0, l0⟩, q⟩ := q
    subst ex0
    cases d1
    obtain ⟨xs0, h0, _⟩ := R1.boxL g0 l0
    refine ⟨.inl ⟨rfl, _, SqL.of h0⟩, ?_⟩
    refine he.se.run B S1 H1 σ γ1 _ R1 (he.se.mono γ1 _ _ (fun d γ2 ⟨m, Lb, q, ds, ex, g, l, hz, q'⟩ v S2 H2 R2 e2 d2 => ?_) q)
    cases ex
    obtain ⟨xs, h1, h2⟩ := R2.boxL g l
    exact ⟨q0, xs, v, rfl, rfl, h1, by rw [h2.1]; exact hz, L.nx S2 _ σ _ (e.trans (e1.trans e2)) (R2.chgL g l (h2.snoc d2)) q'⟩⟩⟩
/-- o.pop(), o a list in a box -/
def dPopB (h : Nat) (wo : WE) : WE := fun γ Q => wo γ fun x γ1 => ∃ m L q ds d, x = .ref q ∧ γ1[h]? = some (.hp m L) ∧ L q = some (.lst (ds ++ [d])) ∧ Q d (γ1.set h (.hp m (updB L q (.lst ds))))
end
end DL
set_option Elab.async false
set_option linter.all false
set_option autoImplicit false
set_option maxRecDepth 100000
set_option maxHeartbeats 4000000
/-! DL28: boxes: len, items, new ones, freezing; promises of defs that change boxes; their calls. -/
namespace DL
open PySem PySem.Spec PyProof.Rows L2
theorem Den.ref_inv {S : Hp} {v : V} {q : Addr} (h : Den S v (.ref q)) : v = .ref q := by
  cases h with
  | ref p => rfl
section
variable {X : Xb} {K : PySem.W.Frag} {a b c e o : Expr} {es : List Expr} {ta tb tc te to : TE} {wa wb wc we wo : WE} {t : TA} {w : WA} {pos p p1 p2 px : Pos} {f x : Str}
/-- len(o), o a list in a box -/
def dLenB (h : Nat) (w : WA) : WE := fun γ Q => w γ fun ds γ1 => ∃ m L q es, ds = [.ref q] ∧ γ1[h]? = some (.hp m L) ∧ L q = some (.lst es) ∧ Q (.int es.length) γ1
/-- o[e], o a list in a box -/
def dIxB (h : Nat) (wa wb : WE) : WE := fun γ Q => wa γ fun x γ1 => wb γ1 fun y γ2 => ∃ m L q es k d, x = .ref q ∧ y = .int k ∧ γ2[h]? = some (.hp m L) ∧ L q = some (.lst es) ∧ atI es k = some d ∧ Q d γ2
/-- a new list, put into a box -/
def dNewB (h : Nat) (wf : WF) : WE := fun γ Q => wf γ fun ds γ1 => ∃ m L, γ1[h]? = some (.hp m L) ∧ ∀ p, L p = none → Q (.ref p) (γ1.set h (.hp m (updB L p (.lst ds))))
theorem de_newB (h : Nat) {wf : WF} (hf : DF X e te wf) : DE X e te (dNewB h wf) := by
  refine ⟨hf.pe, fun γ P P' k q => hf.sf.mono γ _ _ (fun ds γ1 ⟨m, L, g, q'⟩ => ⟨m, L, g, fun p hp => k _ _ (q' p hp)⟩) q, fun B S H σ γ Q R q => ?_⟩
  refine hf.sf.run B S H σ γ _ R (hf.sf.mono γ _ _ (fun ds γ1 ⟨m, L, g, q'⟩ p xs S1 H1 R1 e1 d1 => ?_) q)
  obtain ⟨R2, hp⟩ := R1.addB (b := .lst ds) g ⟨xs, rfl, d1⟩
  exact q' p hp (.ref p) S1 H1 R2 e1 (.ref p)
/-- a list in a box, from here on a value; no box of a caller is in sight -/
def dFrzB (h : Nat) (wa : WE) : WE := fun γ Q => wa γ fun x γ1 => ∃ L q es, x = .ref q ∧ γ1[h]? = some (.hp false L) ∧ L q = some (.lst es) ∧ Q (.lst es) (γ1.set h (.hp false (delB L q)))
end
/-! ### promises -/
structure SpecB where
  S : List D → Bxs → (D → Bxs → Prop) → Prop
  mono : ∀ ds L P P', (∀ d L', P d L' → P' d L') → S ds L P → S ds L P'
def spB (K : PySem.W.Frag) (s : SpecB) : Sp := fun vs H Q _ => ∃ S mu L ds, Same S H ∧ (∀ a, a ∈ mu ↔ L a ≠ none) ∧ (∀ p b, L p = some b → S p = none ∧ BxOk S (H p) (some b)) ∧ DenL S vs ds ∧
  s.S ds L fun d L' => ∀ v S' H', Rel0 K ⟨H, S, mu, [], emptyH⟩ S' H' [] [] → BxsOut S' H' L' mu H → Den S' v d → Q v H'
theorem keysB {L : Bxs} (h : ∃ ks : List Addr, ∀ p, L p ≠ none → p ∈ ks) : ∃ mu : List Addr, ∀ a, a ∈ mu ↔ L a ≠ none := by
  obtain ⟨ks, hk⟩ := h
  refine ⟨ks.filter fun a => (L a).isSome, fun a => ?_⟩
  rw [List.mem_filter]
  constructor
  · intro h z
    rw [z] at h
    exact absurd h.2 (by decide)
  · intro h
    refine ⟨hk a h, ?_⟩
    cases e : L a with
    | none => exact (h e).elim
    | some b => rfl
theorem Rel.finB {X : Xb} {B : Bs} {S H : Hp} {σ : L2.St} {γ : List Sl} {i : Nat} {m : Bool} {L : Bxs} (R : Rel X B S H σ γ) (hg : γ[i]? = some (.hp m L)) : ∃ ks : List Addr, ∀ p, L p ≠ none → p ∈ ks := by
  obtain ⟨φ, r⟩ := R.r
  have q : BxsOk S (φ i) L := r.sl i _ hg
  exact q.1
section
variable {X : Xb} {K : PySem.W.Frag} {C f : Addr} {fd : FuncData} {ps : List Str} {k : Nat} {x m : Str} {e o : Expr} {es : List Expr} {t : TA} {w : WA} {ta : TE} {wa : WE} {p pos apos : Pos} {s : SpecB} {pl : Sem Bool}
def dCallBx (h : Nat) (s : SpecB) (w : WA) : WE := fun γ Q => w γ fun ds γ1 => ∃ m L, γ1[h]? = some (.hp m L) ∧ s.S ds L fun d L' => Q d (γ1.set h (.hp m L'))
theorem run_spB {B : Bs} {S H : Hp} {σ : L2.St} {γ : List Sl} {h : Nat} {m : Bool} {L : Bxs} {vs : List V} {ds : List D} {Q : VK} (R : Rel X B S H σ γ) (g : γ[h]? = some (.hp m L)) (hd : DenL S vs ds)
    (q : s.S ds L fun d L' => ∀ v S' H', Rel X B S' H' σ (γ.set h (.hp m L')) → Same S S' → Den S' v d → Q v H') : spB X.K s vs H Q E0 := by
  obtain ⟨mu, hmu⟩ := keysB (R.finB g)
  refine ⟨S, mu, L, ds, R.same, hmu, fun p b hb => R.boxAt g hb, hd, s.mono _ _ _ _ (fun d L' q v S' H' C' ho dn => ?_) q⟩
  exact q v S' H' (R.callB g (fun a ha => (hmu a).mp ha) C' ho) C'.grow dn
theorem se_callBx {h : Nat} (ha : SA X t w) : SE X (tCall (spB X.K s) [] E0 t) (dCallBx h s w) := by
  refine ⟨fun γ P P' k q => ha.mono γ _ _ (fun ds γ1 ⟨m, L, g, q⟩ => ⟨m, L, g, s.mono _ _ _ _ (fun d L' q => k _ _ q) q⟩) q, fun B S H σ γ Q R q => ?_⟩
  refine ha.run B S H σ γ _ R (ha.mono γ _ _ (fun ds γ1 ⟨m, L, g, q⟩ vs S1 H1 R1 e1 d1 => ?_) q)
  rw [List.append_nil]
  exact run_spB R1 g d1 (s.mono _ _ _ _ (fun d L' q v S' H' R' e' dn => q v S' H' R' (e1.trans e') dn) q)
/-- a call of a def that may change boxes -/
theorem de_callBx (K' : PySem.W.Frag) (h : Nat) (F : FnOk X.prog X.w X.K X.mg X.base CX0 k f fd ps (spB K' s)) (hr : Room k X.A) (hm : X.mg x = some (.ref f)) (hk : PySem.W.keepIn X.K (.ref f) = true) (hb : Binds X.K fd ps []) (ha : DA X (e :: es) t w) (hg : Gl X x := by rfl)
    (hdb : (x == ("__debug__" : Str)) = false := by decide) (he : starEach (e :: es) X.env = (false, eval e X.env) :: starEach es X.env := by rfl) (hpl : (backTo pos (starEach es X.env)).any (·.1) = false := by rfl) (hK : X.K = K' := by rfl) : DE X (.Call (.Name x p) (e :: es) [] pos) (tCall (spB K' s) [] E0 t) (dCallBx h s w) := by
  subst hK
  exact ⟨pe_call F hr hg hm hk hb .nil pass0 ha.pa hdb he hpl, se_callBx ha.sa⟩
/-- a method of an instance in a box -/
def dMethB (h : Nat) (C : Addr) (m : Str) (s : SpecB) (wa : WE) (w : WA) : WE := fun γ Q => wa γ fun x γ1 => ∃ mm L q fs, x = .ref q ∧ γ1[h]? = some (.hp mm L) ∧ L q = some (.ins C fs) ∧ fs.lookup m = none ∧ w γ1 fun ds γ2 => ∃ mm L, γ2[h]? = some (.hp mm L) ∧ s.S (.ref q :: ds) L fun d L' => Q d (γ2.set h (.hp mm L'))
/-- a new instance, put into a box -/
def dMakeB (h : Nat) (C : Addr) (s : SpecB) (w : WA) : WE := fun γ Q => w γ fun ds γ1 => ∃ m L, γ1[h]? = some (.hp m L) ∧ ∀ p, L p = none → s.S (.ref p :: ds) (updB L p (.ins C [])) fun d L' => d = .non ∧ Q (.ref p) (γ1.set h (.hp m L'))
theorem se_makeB {h : Nat} (hh : SA X t w) : SE X (tMake C (spB X.K s) [] E0 t) (dMakeB h C s w) := by
  refine ⟨fun γ P P' k q => hh.mono γ _ _ (fun ds γ1 ⟨m, L, g, q⟩ => ⟨m, L, g, fun p hp => s.mono _ _ _ _ (fun d L' q => ⟨q.1, k _ _ q.2⟩) (q p hp)⟩) q, fun B S H σ γ Q R q => ?_⟩
  refine hh.run B S H σ γ _ R (hh.mono γ _ _ (fun ds γ1 ⟨m, L, g, q⟩ vs S1 H1 R1 e1 d1 x dx hx hdx ne => ?_) q)
  rw [List.append_nil]
  have R2 := R1.newOut (o := .own x) hdx
  have hx2 : upd H1 dx (.own x) x = none := by rw [upd_ne (fun z => ne z.symm)]; exact hx
  have R3 := R2.newF (o := .ins C dx []) hx2
  obtain ⟨R4, hp⟩ := R3.addB (b := .ins C []) g ⟨dx, [], rfl, .nil⟩
  have hlt := R1.lt g
  have g4 : (γ1.set h (.hp m (updB L x (.ins C []))))[h]? = some (.hp m (updB L x (.ins C []))) := by rw [List.getElem?_set_self hlt]
  refine run_spB R4 g4 (.cons (.ref x) d1) (s.mono _ _ _ _ (fun d L' q v S' H' R' e' dn => ?_) (q x hp))
  obtain ⟨rfl, q⟩ := q
  cases dn
  rw [List.set_set] at R'
  exact ⟨rfl, q (.ref x) S' H' R' (e1.trans e') (.ref x)⟩
theorem de_makeB (K' : PySem.W.Frag) (h : Nat) (M : Mk X.K C f) (F : FnOk X.prog X.w X.K X.mg X.base CX0 k f fd ps (spB K' s)) (hr : Room (k + 1) X.A) (hm : X.mg x = some (.ref C)) (hb : Binds X.K fd ps []) (ha : DA X (e :: es) t w) (hg : Gl X x := by rfl)
    (hdb : (x == ("__debug__" : Str)) = false := by decide) (he : starEach (e :: es) X.env = (false, eval e X.env) :: starEach es X.env := by rfl) (hpl : (backTo pos (starEach es X.env)).any (·.1) = false := by rfl) (hK : X.K = K' := by rfl) :
    DE X (.Call (.Name x p) (e :: es) [] pos) (tMake C (spB K' s) [] E0 t) (dMakeB h C s w) := by
  subst hK
  exact ⟨pe_make M F hr hg hm hb .nil pass0 ha.pa hdb he hpl, se_makeB ha.sa⟩
end
/-- the slots of a def that may change boxes: at the end of the names stands a name that no code has -/
def gamB (N : List Str) (ds : List D) (L : Bxs) : List Sl := (gam N ds).set (N.length - 1) (.hp true L)
section
variable {P : Program} {w : World} {K : PySem.W.Frag} {mg : Str → Option Value} {base : Heap} {x qual : Str} {st : Stmt} {f : Addr} {fd : FuncData} {N ps : List Str} {k : Nat}
theorem start_relB {H S : Hp} {vs : List V} {ds : List D} {mu : List Addr} {L : Bxs} (e : Same S H) (hmu : ∀ a, a ∈ mu ↔ L a ≠ none) (hL : ∀ p b, L p = some b → S p = none ∧ BxOk S (H p) (some b)) (hd : DenL S vs ds) (hl : ds.length < N.length) : Rel0 K ⟨H, S, mu, [], emptyH⟩ S H (L2.start N vs) (gamB N ds L) := by
  obtain ⟨φ, r⟩ := start_rel (K := K) (N := N) e hd
  have hlen : N.length - 1 < (gam N ds).length := by unfold gam; rw [List.length_append, List.length_map, List.length_replicate]; omega
  have sp : ∀ {i s F}, (gam N ds)[i]? = some s → SlF K ⟨H, S, mu, [], emptyH⟩ S F (L2.start N vs)[i]? s := fun {i s F} h => by
    have hm := gam_may h
    have q := r.sl i s h
    cases s with
    | any => trivial
    | val d => exact q
    | scr ns => exact q
    | own m ds => cases hm
    | ins m C fs => cases hm
    | hp m L => cases hm
  have there : ∀ {a}, a ∈ mu → ∃ o, H a = some o := fun {a} ha => by
    cases hb : L a with
    | none => exact ((hmu a).mp ha hb).elim
    | some b =>
      have := (hL a b hb).2
      cases hH : H a with
      | none => rw [hH] at this; exact this.elim
      | some o => exact ⟨o, rfl⟩
  have em : ∀ {j a v}, (if j = N.length - 1 then partB L H else emptyH) a = some v → j = N.length - 1 ∧ H a = some v ∧ ∃ b, L a = some b := fun {j a v} e => by
    by_cases hj : j = N.length - 1
    · rw [if_pos hj] at e; exact ⟨hj, partB_some e⟩
    · rw [if_neg hj] at e; cases e
  refine ⟨fun j => if j = N.length - 1 then partB L H else emptyH, e, fun a o h _ => h, fun a ha => ?_, Same.refl S, fun a o h => .inl h, by unfold gamB; rw [List.length_set]; exact r.len, fun i s h => ?_, fun i a o e => (em e).2.1, fun i a o e => let ⟨_, _, b, hb⟩ := em e; (hL a b hb).1, fun i j a o u hij e1 e2 => hij ((em e1).1.trans (em e2).1.symm), fun i a o e => ?_, fun p o hp => (by cases hp), List.nodup_nil, fun a o e => (by cases e)⟩
  · obtain ⟨o, ho⟩ := there ha
    refine ⟨?_, ⟨o, ho⟩, o, ho⟩
    cases hb : L a with
    | none => exact ((hmu a).mp ha hb).elim
    | some b => exact (hL a b hb).1
  · unfold gamB at h
    by_cases hi : i = N.length - 1
    · subst hi
      rw [List.getElem?_set_self hlen] at h
      cases h
      show SlF K _ S (if N.length - 1 = N.length - 1 then partB L H else emptyH) _ _
      rw [if_pos rfl]
      exact partB_ok ⟨mu, fun p hp => (hmu p).mpr hp⟩ fun p b e => (hL p b e).2
    · rw [List.getElem?_set_ne (fun z => hi z.symm)] at h
      exact sp h
  · obtain ⟨z, _, b, hb⟩ := em e
    subst z
    unfold gamB
    rw [List.getElem?_set_self hlen]
    exact ⟨_, true, rfl, rfl, .inl ⟨rfl, (hmu a).mpr (by rw [hb]; exact fun z => by cases z)⟩⟩
theorem endB {H S S' H' : Hp} {σ : L2.St} {γ : List Sl} {mu : List Addr} {L' : Bxs} {i : Nat} {X : Xb} (R : Rel X ⟨H, S, mu, [], emptyH⟩ S' H' σ γ) (g : γ[i]? = some (.hp true L')) : BxsOut S' H' L' mu H := by
  refine ⟨R.finB g, fun p b hb => ?_⟩
  obtain ⟨h1, h2⟩ := R.boxAt g hb
  refine ⟨h1, h2, ?_⟩
  obtain ⟨φ, r⟩ := R.r
  have q : BxsOk S' (φ i) L' := r.sl i _ g
  obtain ⟨o, e, _⟩ := q.at_ hb
  obtain ⟨s', m, e1, e2, e3⟩ := r.phO i _ _ e
  rw [g] at e1
  cases e1
  exact e3.imp (fun z => z.2) id
/-- THE RULE for a def that may change boxes -/
theorem fn_okB {s : SpecB} (F : Fun K x qual st f fd) (Sc : FnScope N ps (defScope st)) (hN : ps.length < N.length) (len : ∀ ds L Q, s.S ds L Q → ds.length = ps.length)
    (hbody : ∀ (cdv : Value) (A : Around) (outer : List Env) (s0 : Shared) (H : Hp) (E : XK), Room k (A.deeper (envOfC qual (defScope st) s0.heap.objs.size f cdv)) →
      ∃ t w', DSs (Xb.of (cxOf CX0 P w K mg base N qual (defScope st) f cdv A outer s0 H E).nox) (defBody st) t w' ∧ ∀ ds L Q, s.S ds L Q → w' { nx := fun γ => ∃ L', γ[N.length - 1]? = some (.hp true L') ∧ Q .non L', rt := fun r γ => ∃ d L', r = .d d ∧ γ[N.length - 1]? = some (.hp true L') ∧ Q d L' } (gamB N ds L)) : FnOk P w K mg base CX0 (k + 1) f fd ps (spB K s) := by
  refine F.ok Sc (fun vs H Q E h => ?_) (fun cdv A outer s0 H vs Q E hr h => ?_)
  · obtain ⟨S, mu, L, ds, e, hmu, hL, hd, q⟩ := h
    rw [hd.1]
    exact len _ _ _ q
  · obtain ⟨S, mu, L, ds, e, hmu, hL, hd, q⟩ := h
    obtain ⟨t, w', h1, h2⟩ := hbody cdv A outer s0 H E hr
    refine ⟨t, h1.ps, ?_⟩
    have hl : ds.length < N.length := by rw [len _ _ _ q]; exact hN
    exact h1.ss.run ⟨H, S, mu, [], emptyH⟩ S S H (L2.start N vs) (gamB N ds L) { nx := fun γ => ∃ L', γ[N.length - 1]? = some (.hp true L') ∧ _, rt := fun r γ => ∃ d L', r = .d d ∧ γ[N.length - 1]? = some (.hp true L') ∧ _ } _ (Rel0.of (start_relB e hmu hL hd hl)) (Same.refl S) ⟨fun S' H' σ' γ' _ R ⟨L', g, q⟩ => q _ _ _ R.nil (endB R g) .non, fun S' H' σ' γ' v r _ R rv ⟨d, L', er, g, q⟩ => by
        subst er
        exact q v _ _ R.nil (endB R g) rv, fun S' H' σ' γ' _ R q => q.elim, fun S' H' σ' γ' _ R q => q.elim⟩ (h2 ds L _ q)
end
end DL
set_option Elab.async false
set_option linter.all false
set_option autoImplicit false
set_option maxRecDepth 100000
set_option maxHeartbeats 4000000
/-! DL29: boxes: their beginning in a def; += of attributes; items set; steps. -/
namespace DL
open PySem PySem.Spec PyProof.Rows L2
section
variable {K : PySem.W.Frag} {B : Bs} {S S' F H H' : Hp} {σ : L2.St} {γ : List Sl} {φ : Nat → Hp} {i : Nat}
/-- no boxes as yet -/
theorem Rel0.initB (R : Rel0 K B S H σ γ) : Rel0 K B S H σ (γ.set i (.hp false (fun _ => none))) := by
  obtain ⟨φ, r⟩ := R
  have em : ∀ {j a u}, (if j = i then emptyH else φ j) a = some u → j ≠ i ∧ φ j a = some u := fun {j a u} e => by
    by_cases hj : j = i
    · rw [if_pos hj] at e; cases e
    · rw [if_neg hj] at e; exact ⟨hj, e⟩
  refine ⟨fun j => if j = i then emptyH else φ j, r.same, r.keep, r.muk, r.grow, r.ext, by rw [List.length_set]; exact r.len, fun j t e => ?_, fun j a u e => r.phH j a u (em e).2, fun j a u e => r.phS j a u (em e).2, fun j k a u v hjk e1 e2 => r.phD j k a u v hjk (em e1).2 (em e2).2, fun j a u e => ?_, fun q u hq => ?_, r.frn, r.spS⟩
  · by_cases hj : j = i
    · subst hj
      by_cases hl : j < γ.length
      · rw [List.getElem?_set_self hl] at e
        cases e
        show SlF K B S (if j = j then emptyH else φ j) _ _
        rw [if_pos rfl]
        exact ⟨⟨[], fun p hp => (hp rfl).elim⟩, fun p => trivial⟩
      · rw [List.getElem?_eq_none (by rw [List.length_set]; omega)] at e
        cases e
    · rw [List.getElem?_set_ne (fun z => hj z.symm)] at e
      show SlF K B S (if j = i then emptyH else φ j) _ _
      rw [if_neg hj]
      exact r.sl j t e
  · obtain ⟨h1, h2⟩ := em e
    rw [List.getElem?_set_ne (fun z => h1 z.symm)]
    exact r.phO j a u h2
  · obtain ⟨k1, k2, k3, k4⟩ := r.frm q u hq
    refine ⟨k1, k2, k3, fun j => ?_⟩
    show (if j = i then emptyH else φ j) q = none
    by_cases hj : j = i
    · rw [if_pos hj]; rfl
    · rw [if_neg hj]; exact k4 j
end
/-- ahead of a def's code: no boxes as yet -/
def dInitB (i : Nat) (w : WS) : WS := fun Dd γ => w Dd (γ.set i (.hp false (fun _ => none)))
theorem dss_initB {X : Xb} (i : Nat) {sts : List Stmt} {t : TS} {w : WS} (h : DSs X sts t w) : DSs X sts t (dInitB i w) := ⟨h.ps, ⟨fun B S0 S H σ γ Dd D R e L q => h.ss.run B S0 S H σ _ Dd D ⟨R.r.initB, R.x⟩ e L q⟩⟩
theorem i_initB {i : Nat} {γ : List Sl} {w : WS} {Dd : EndsD} (q : w Dd (γ.set i (.hp false (fun _ => none)))) : dInitB i w Dd γ := q
section
variable {X : Xb} {K : PySem.W.Frag} {a b c e o : Expr} {es : List Expr} {ta tb tc te to tk : TE} {wa wb wc we wo wk : WE} {t : TA} {w : WA} {pos p p1 p2 px tpos : Pos} {f x : Str}
/-- o.f += e of ints, o an instance in a box -/
def dAugB (K : PySem.W.Frag) (h : Nat) (f : Str) (wo we : WE) : WS := fun Dd γ => wo γ fun x γ1 => (∃ m L q C fs i, x = .ref q ∧ γ1[h]? = some (.hp m L) ∧ L q = some (.ins C fs) ∧ (Cls K C ∧ NoAttr K C f) ∧ fs.lookup f = some (.int i) ∧
  we γ1 fun d γ2 => ∃ j m L fs, d = .int j ∧ γ2[h]? = some (.hp m L) ∧ L q = some (.ins C fs) ∧ fs.length < 1000 ∧ Dd.nx (γ2.set h (.hp m (updB L q (.ins C (putD f (.int (i + j)) fs))))))
end
end DL
set_option Elab.async false
set_option linter.all false
set_option autoImplicit false
set_option maxRecDepth 100000
set_option maxHeartbeats 4000000
/-! DL30: steps for boxes. -/
namespace DL
open PySem PySem.Spec PyProof.Rows L2
section
variable {K : PySem.W.Frag} {γ : List Sl} {h : Nat} {m mm : Bool} {L : Bxs} {q : Addr} {C : Addr} {fs : List (Str × D)} {f : Str} {d : D} {ds es : List D} {b b' : Bx} {p : Addr}
variable {wa wb we wo : WE} {w : WA} {wf : WF} {Q : D → List Sl → Prop} {Dd : EndsD} {s : SpecB} {nm : Str}
theorem i_fldB (k : wa γ fun x γ1 => ∃ m L q C fs d, x = .ref q ∧ γ1[h]? = some (.hp m L) ∧ L q = some (.ins C fs) ∧ (Cls K C ∧ NoAttr K C f) ∧ fs.lookup f = some d ∧ Q d γ1) : dFldB K h f wa γ Q := k
instance : Go (dFldB K h f wa γ Q) (wa γ fun x γ1 => ∃ m L q C fs d, x = .ref q ∧ γ1[h]? = some (.hp m L) ∧ L q = some (.ins C fs) ∧ (Cls K C ∧ NoAttr K C f) ∧ fs.lookup f = some d ∧ Q d γ1) := ⟨fun z => i_fldB z⟩
theorem i_putB (k : we γ fun d γ1 => wo γ1 fun x γ2 => ∃ m L q C fs, x = .ref q ∧ γ2[h]? = some (.hp m L) ∧ L q = some (.ins C fs) ∧ (Cls K C ∧ NoAttr K C f) ∧ fs.length < 1000 ∧ Dd.nx (γ2.set h (.hp m (updB L q (.ins C (putD f d fs)))))) : dPutB K h f wo we Dd γ := k
instance : Go (dPutB K h f wo we Dd γ) (we γ fun d γ1 => wo γ1 fun x γ2 => ∃ m L q C fs, x = .ref q ∧ γ2[h]? = some (.hp m L) ∧ L q = some (.ins C fs) ∧ (Cls K C ∧ NoAttr K C f) ∧ fs.length < 1000 ∧ Dd.nx (γ2.set h (.hp m (updB L q (.ins C (putD f d fs)))))) := ⟨fun z => i_putB z⟩
theorem i_putB2 {F : Bool → Bxs → Addr → Addr → List (Str × D) → Prop} (g : γ[h]? = some (.hp m L)) (l : L q = some (.ins C fs)) (c : Cls K C ∧ NoAttr K C f) (hl : fs.length < 1000) (k : F m L q C fs) :
    ∃ m L q' C fs, D.ref q = .ref q' ∧ γ[h]? = some (.hp m L) ∧ L q' = some (.ins C fs) ∧ (Cls K C ∧ NoAttr K C f) ∧ fs.length < 1000 ∧ F m L q' C fs := ⟨m, L, q, C, fs, rfl, g, l, c, hl, k⟩
theorem i_augB (k : wo γ fun x γ1 => (∃ m L q C fs i, x = .ref q ∧ γ1[h]? = some (.hp m L) ∧ L q = some (.ins C fs) ∧ (Cls K C ∧ NoAttr K C f) ∧ fs.lookup f = some (.int i) ∧
  we γ1 fun d γ2 => ∃ j m L fs, d = .int j ∧ γ2[h]? = some (.hp m L) ∧ L q = some (.ins C fs) ∧ fs.length < 1000 ∧ Dd.nx (γ2.set h (.hp m (updB L q (.ins C (putD f (.int (i + j)) fs)))))) ) : dAugB K h f wo we Dd γ := k
instance : Go (dAugB K h f wo we Dd γ) (wo γ fun x γ1 => (∃ m L q C fs i, x = .ref q ∧ γ1[h]? = some (.hp m L) ∧ L q = some (.ins C fs) ∧ (Cls K C ∧ NoAttr K C f) ∧ fs.lookup f = some (.int i) ∧
  we γ1 fun d γ2 => ∃ j m L fs, d = .int j ∧ γ2[h]? = some (.hp m L) ∧ L q = some (.ins C fs) ∧ fs.length < 1000 ∧ Dd.nx (γ2.set h (.hp m (updB L q (.ins C (putD f (.int (i + j)) fs))))))) := ⟨fun z => i_augB z⟩
theorem i_appB (k : wo γ fun x γ1 => (∃ m L q ds, x = .ref q ∧ γ1[h]? = some (.hp m L) ∧ L q = some (.lst ds)) ∧ we γ1 fun d γ2 => ∃ m L q ds, x = .ref q ∧ γ2[h]? = some (.hp m L) ∧ L q = some (.lst ds) ∧ ds.length < sizeLine ∧ Dd.nx (γ2.set h (.hp m (updB L q (.lst (ds ++ [d])))))) : dAppB h wo we Dd γ := k
instance : Go (dAppB h wo we Dd γ) (wo γ fun x γ1 => (∃ m L q ds, x = .ref q ∧ γ1[h]? = some (.hp m L) ∧ L q = some (.lst ds)) ∧ we γ1 fun d γ2 => ∃ m L q ds, x = .ref q ∧ γ2[h]? = some (.hp m L) ∧ L q = some (.lst ds) ∧ ds.length < sizeLine ∧ Dd.nx (γ2.set h (.hp m (updB L q (.lst (ds ++ [d])))))) := ⟨fun z => i_appB z⟩
theorem i_appB2 {P : Prop} (g : γ[h]? = some (.hp m L)) (l : L q = some (.lst ds)) (k : P) : (∃ m L q' ds, D.ref q = .ref q' ∧ γ[h]? = some (.hp m L) ∧ L q' = some (.lst ds)) ∧ P := ⟨⟨m, L, q, ds, rfl, g, l⟩, k⟩
theorem i_popB (k : wo γ fun x γ1 => ∃ m L q ds d, x = .ref q ∧ γ1[h]? = some (.hp m L) ∧ L q = some (.lst (ds ++ [d])) ∧ Q d (γ1.set h (.hp m (updB L q (.lst ds))))) : dPopB h wo γ Q := k
instance : Go (dPopB h wo γ Q) (wo γ fun x γ1 => ∃ m L q ds d, x = .ref q ∧ γ1[h]? = some (.hp m L) ∧ L q = some (.lst (ds ++ [d])) ∧ Q d (γ1.set h (.hp m (updB L q (.lst ds))))) := ⟨fun z => i_popB z⟩
theorem i_lenB (k : w γ fun ds γ1 => ∃ m L q es, ds = [.ref q] ∧ γ1[h]? = some (.hp m L) ∧ L q = some (.lst es) ∧ Q (.int es.length) γ1) : dLenB h w γ Q := k
instance : Go (dLenB h w γ Q) (w γ fun ds γ1 => ∃ m L q es, ds = [.ref q] ∧ γ1[h]? = some (.hp m L) ∧ L q = some (.lst es) ∧ Q (.int es.length) γ1) := ⟨fun z => i_lenB z⟩
theorem i_ixB (k : wa γ fun x γ1 => wb γ1 fun y γ2 => ∃ m L q es k d, x = .ref q ∧ y = .int k ∧ γ2[h]? = some (.hp m L) ∧ L q = some (.lst es) ∧ atI es k = some d ∧ Q d γ2) : dIxB h wa wb γ Q := k
instance : Go (dIxB h wa wb γ Q) (wa γ fun x γ1 => wb γ1 fun y γ2 => ∃ m L q es k d, x = .ref q ∧ y = .int k ∧ γ2[h]? = some (.hp m L) ∧ L q = some (.lst es) ∧ atI es k = some d ∧ Q d γ2) := ⟨fun z => i_ixB z⟩
theorem i_newB (k : wf γ fun ds γ1 => ∃ m L, γ1[h]? = some (.hp m L) ∧ ∀ p, L p = none → Q (.ref p) (γ1.set h (.hp m (updB L p (.lst ds))))) : dNewB h wf γ Q := k
instance : Go (dNewB h wf γ Q) (wf γ fun ds γ1 => ∃ m L, γ1[h]? = some (.hp m L) ∧ ∀ p, L p = none → Q (.ref p) (γ1.set h (.hp m (updB L p (.lst ds))))) := ⟨fun z => i_newB z⟩
theorem i_frzB (k : wa γ fun x γ1 => ∃ L q es, x = .ref q ∧ γ1[h]? = some (.hp false L) ∧ L q = some (.lst es) ∧ Q (.lst es) (γ1.set h (.hp false (delB L q)))) : dFrzB h wa γ Q := k
instance : Go (dFrzB h wa γ Q) (wa γ fun x γ1 => ∃ L q es, x = .ref q ∧ γ1[h]? = some (.hp false L) ∧ L q = some (.lst es) ∧ Q (.lst es) (γ1.set h (.hp false (delB L q)))) := ⟨fun z => i_frzB z⟩
theorem i_callBx (k : w γ fun ds γ1 => ∃ m L, γ1[h]? = some (.hp m L) ∧ s.S ds L fun d L' => Q d (γ1.set h (.hp m L'))) : dCallBx h s w γ Q := k
instance : Go (dCallBx h s w γ Q) (w γ fun ds γ1 => ∃ m L, γ1[h]? = some (.hp m L) ∧ s.S ds L fun d L' => Q d (γ1.set h (.hp m L'))) := ⟨fun z => i_callBx z⟩
theorem i_methB (k : wa γ fun x γ1 => ∃ mm L q fs, x = .ref q ∧ γ1[h]? = some (.hp mm L) ∧ L q = some (.ins C fs) ∧ fs.lookup nm = none ∧ w γ1 fun ds γ2 => ∃ mm L, γ2[h]? = some (.hp mm L) ∧ s.S (.ref q :: ds) L fun d L' => Q d (γ2.set h (.hp mm L'))) : dMethB h C nm s wa w γ Q := k
instance : Go (dMethB h C nm s wa w γ Q) (wa γ fun x γ1 => ∃ mm L q fs, x = .ref q ∧ γ1[h]? = some (.hp mm L) ∧ L q = some (.ins C fs) ∧ fs.lookup nm = none ∧ w γ1 fun ds γ2 => ∃ mm L, γ2[h]? = some (.hp mm L) ∧ s.S (.ref q :: ds) L fun d L' => Q d (γ2.set h (.hp mm L'))) := ⟨fun z => i_methB z⟩
theorem i_makeB (k : w γ fun ds γ1 => ∃ m L, γ1[h]? = some (.hp m L) ∧ ∀ p, L p = none → s.S (.ref p :: ds) (updB L p (.ins C [])) fun d L' => d = .non ∧ Q (.ref p) (γ1.set h (.hp m L'))) : dMakeB h C s w γ Q := k
instance : Go (dMakeB h C s w γ Q) (w γ fun ds γ1 => ∃ m L, γ1[h]? = some (.hp m L) ∧ ∀ p, L p = none → s.S (.ref p :: ds) (updB L p (.ins C [])) fun d L' => d = .non ∧ Q (.ref p) (γ1.set h (.hp m L'))) := ⟨fun z => i_makeB z⟩
end
/-- a functional promise about boxes: I says what the boxes are, post what is answered, J what they are behind -/
def SpecB.fn {α : Type} (args : α → List D) (pre : α → Bxs → Prop) (post : α → D → Bxs → Bxs → Prop) : SpecB := ⟨fun ds L Q => ∃ a, ds = args a ∧ pre a L ∧ ∀ d L', post a d L L' → Q d L', fun ds L P P' k ⟨a, e, h, q⟩ => ⟨a, e, h, fun d L' z => k _ _ (q d L' z)⟩⟩
end DL
set_option Elab.async false
set_option linter.all false
set_option autoImplicit false
set_option maxRecDepth 100000
set_option maxHeartbeats 4000000
/-! DL31: items of boxes set. -/
namespace DL
open PySem PySem.Spec PyProof.Rows L2
section
variable {X : Xb} {K : PySem.W.Frag} {a b c e o : Expr} {es : List Expr} {ta tb tc te to tk : TE} {wa wb wc we wo wk : WE} {t : TA} {w : WA} {pos p p1 p2 px tpos : Pos} {f x : Str}
/-- o[k] = e, o a list in a box -/
def dStB (h : Nat) (we wo wk : WE) : WS := fun Dd γ => we γ fun d γ1 => wo γ1 fun x γ2 => wk γ2 fun y γ3 => ∃ m L q ds n j, x = .ref q ∧ y = .int n ∧ γ3[h]? = some (.hp m L) ∧ L q = some (.lst ds) ∧ ixN ds.length n = some j ∧ Dd.nx (γ3.set h (.hp m (updB L q (.lst (ds.set j d)))))
end
section
variable {γ : List Sl} {h : Nat} {m : Bool} {L : Bxs} {q : Addr} {es : List D} {Dd : EndsD} {we wo wk : WE}
theorem i_stB (k : we γ fun d γ1 => wo γ1 fun x γ2 => wk γ2 fun y γ3 => ∃ m L q ds n j, x = .ref q ∧ y = .int n ∧ γ3[h]? = some (.hp m L) ∧ L q = some (.lst ds) ∧ ixN ds.length n = some j ∧ Dd.nx (γ3.set h (.hp m (updB L q (.lst (ds.set j d)))))) : dStB h we wo wk Dd γ := k
instance : Go (dStB h we wo wk Dd γ) (we γ fun d γ1 => wo γ1 fun x γ2 => wk γ2 fun y γ3 => ∃ m L q ds n j, x = .ref q ∧ y = .int n ∧ γ3[h]? = some (.hp m L) ∧ L q = some (.lst ds) ∧ ixN ds.length n = some j ∧ Dd.nx (γ3.set h (.hp m (updB L q (.lst (ds.set j d)))))) := ⟨fun z => i_stB z⟩
end
end DL
namespace DL
open PySem PySem.Spec PyProof.Rows L2
theorem updB_none {L : Bxs} {p q : Addr} {b : Bx} (h : updB L p b q = none) : q ≠ p ∧ L q = none := by
  unfold updB at h
  by_cases e : q = p
  · rw [if_pos e] at h; cases h
  · rw [if_neg e] at h; exact ⟨e, h⟩
end DL
set_option Elab.async false
set_option linter.all false
set_option autoImplicit false
set_option maxRecDepth 100000
set_option maxHeartbeats 4000000
/-! DL32: calls counted one by one (for defs that call one another deep). -/
namespace DL
open PySem PySem.Spec PyProof.Rows L2
/-- room for j calls, one in the other -/
structure RoomR (j : Nat) (A : Around) : Prop where
  h : A.handled = none
  d : A.depth + j + 5 < recursionLimit
  u : A.units + 3 * j + 400 < cLine
theorem RoomR.le {i j : Nat} {A : Around} (r : RoomR j A) (h : i ≤ j) : RoomR i A := ⟨r.h, by have := r.d; omega, by have := r.u; omega⟩
theorem RoomR.room {j k : Nat} {A : Around} (r : RoomR j A) (h : 3 * k ≤ j) (hk : k ≤ 12) : Room k A := ⟨r.h, by have := r.d; omega, by have := r.u; omega⟩
theorem RoomR.of {j k : Nat} {A : Around} (r : Room k A) (h : j ≤ 3 * k) (hk : 3 * j + 200 ≤ 16 * k) : RoomR j A := ⟨r.hd, by have := r.dp; omega, by have := r.un; omega⟩
/-- a def keeps its promise where there is room for j calls -/
structure FnR (P : Program) (w : World) (K : PySem.W.Frag) (mg : Str → Option Value) (base : Heap) (j : Nat) (f : Addr) (fd : FuncData) (ps : List Str) (sp : Sp) : Prop where
  n : ∀ vs H Q E, sp vs H Q E → vs.length = ps.length
  go : ∀ {A : Around} {outer : List Env} {s : Shared} {H : Hp} {args : Args} {us : List Value} {vs : List V} {Q : VK} {E : XK}, RoomR j A → Env0 P w K mg base A outer s H → BindsTo s fd args (ps.zip us) → Vals vs us → sp vs H Q E → codeAny (model P w) A (.call (.ref f) args) (CR CX0 outer P w H s Q E) s
section
variable {P : Program} {w : World} {K : PySem.W.Frag} {mg : Str → Option Value} {base : Heap} {f : Addr} {fd : FuncData} {ps N : List Str} {sp : Sp} {j k : Nat}
theorem FnR.le (F : FnR P w K mg base j f fd ps sp) (h : j ≤ k) : FnR P w K mg base k f fd ps sp := ⟨F.n, fun r e b v q => F.go (r.le h) e b v q⟩
end
section
variable {X : Cx} {j : Nat} {f : Addr} {fd : FuncData} {ps : List Str} {sp : Sp} {E : XK} {x : Str} {p pos : Pos} {e : Expr} {es : List Expr} {t : TA}
end
section
variable {X : Xb} {f : Addr} {fd : FuncData} {ps : List Str} {j : Nat} {x : Str} {e : Expr} {es : List Expr} {t : TA} {w : WA} {p pos : Pos} {s : SpecB}
end
section
variable {P : Program} {w : World} {K : PySem.W.Frag} {mg : Str → Option Value} {base : Heap} {f : Addr} {fd : FuncData} {ps N : List Str} {x qual : Str} {st : Stmt} {j : Nat}
end
end DL
set_option Elab.async false
set_option linter.all false
set_option autoImplicit false
set_option maxRecDepth 100000
set_option maxHeartbeats 4000000
/-! DL33: keyword arguments of plain defs. -/
namespace DL
open PySem PySem.Spec PyProof.Rows L2
structure DK (X : Xb) (kws : List Keyword) (t : TA) (w : WA) : Prop where
  pk : PK X kws t
  sa : SA X t w
/-- a def of the top with keyword-only parameters: n written ones, then keywords -/
structure Gk (K : PySem.W.Frag) (mg : Str → Option Value) (x : Str) (st : Stmt) (ps : List Str) (n : Nat) (ks : List Str) (kws : List (Str × V)) : Type where
  f : Addr
  fd : FuncData
  F : Fun K x x st f fd
  g : mg x = some (.ref f)
  /-- all keywords are written -/
  kb : KBn K fd ps n ks (fun us ws => us ++ ws) (fun vs zs => vs ++ zs)
section
variable {X : Xb} {K : PySem.W.Frag} {f : Addr} {fd : FuncData} {ps ks : List Str} {k n : Nat} {x nm : Str} {e : Expr} {es : List Expr} {te : TE} {we : WE} {t tk : TA} {w wk : WA} {p pos kpos : Pos} {kws : List Keyword} {s : SpecD}
/-- a call with keywords -/
def dCallK (n m : Nat) (s : SpecD) (w wk : WA) : WE := fun γ Q => w γ fun ds γ1 => wk γ1 fun es γ2 => ds.length = n ∧ es.length = m ∧ s.S (ds ++ es) fun r => Q r.val γ2
end
end DL
set_option Elab.async false
set_option linter.all false
set_option autoImplicit false
set_option maxRecDepth 100000
set_option maxHeartbeats 4000000
/-! DL34: enumerate of a tuple. -/
namespace PySem
end PySem
namespace DL
open PySem PySem.Spec PyProof.Rows L2
/-- the tuple at a, each item in a new pair -/
def IteT (K : PySem.W.Frag) (a : Addr) : It where
  go i H := ∃ (xs : List V) (x : V), SqT K H a xs ∧ xs[i]? = some x
  yld i H v H1 := ∃ T x, v = .ref T ∧ H T = none ∧ H1 = L2.upd H T (.tup [.int (i : Nat), x]) ∧ ∀ xs, SqT K H a xs → xs[i]? = some x
  stop i H := ∃ xs : List V, SqT K H a xs ∧ xs.length ≤ i
def iEnumT (K : PySem.W.Frag) (ta : TA) : TI := fun σ H R => ta σ H fun vs H1 => ∃ a xs, vs = [.ref a] ∧ SqT K H1 a xs ∧ R (IteT K a) H1
section
variable {X : Xb} {e : Expr} {p pos : Pos}
/-- enumerate(tuple) -/
def dIEnT (w : WA) : WA := fun γ Q => w γ fun ds γ1 => ∃ es, ds = [.tup es] ∧ Q (enumD es) γ1
theorem i_ienT {w : WA} {γ : List Sl} {QA : List D → List Sl → Prop} (q : w γ fun ds γ1 => ∃ es, ds = [.tup es] ∧ QA (enumD es) γ1) : dIEnT w γ QA := q
instance {w : WA} {γ : List Sl} {QA : List D → List Sl → Prop} : Go (dIEnT w γ QA) (w γ fun ds γ1 => ∃ es, ds = [.tup es] ∧ QA (enumD es) γ1) := ⟨fun z => i_ienT z⟩
theorem i_ienT' {ds : List D} {P : List D → Prop} (q : P ds) : ∃ es, [D.tup ds] = [.tup es] ∧ P es := ⟨ds, rfl, q⟩
end
end DL
set_option Elab.async false
set_option linter.all false
set_option autoImplicit false
set_option maxRecDepth 100000
set_option maxHeartbeats 4000000
/-! DL35: try/except whose body raises nothing. -/
namespace DL
open PySem PySem.Spec PyProof.Rows L2
section
variable {X : Xb} {body : List Stmt} {h₀ : ExceptHandler} {hs : List ExceptHandler} {t : TS} {w : WS} {pos : Pos}
end
end DL
set_option Elab.async false
set_option linter.all false
set_option autoImplicit false
set_option maxRecDepth 100000
set_option maxHeartbeats 4000000
/-! DL36: steps with one equation that rfl closes, found by the goal's form; guards. -/
namespace DL
open PySem PySem.Spec PyProof.Rows L2
/-- one step back to «there is one x, an equation, and the rest» -/
class GoH1 (P : Prop) (H : outParam Prop) : Prop where
  go : H → P
/-- .. two x's .. -/
class GoH2 (P : Prop) (H : outParam Prop) : Prop where
  go : H → P
theorem ex_id {α : Sort _} {p : α → Prop} (h : Exists p) : Exists p := h
theorem and_id {p q : Prop} (h : p ∧ q) : p ∧ q := h
theorem if_id {c : Prop} {i : Decidable c} {p q : Prop} (h : @ite Prop c i p q) : @ite Prop c i p q := h
section
variable {γ : List Sl} {i h : Nat} {Q : D → List Sl → Prop} {QF : List D → List Sl → Prop} {QT : Bool → List Sl → Prop} {R : D → Prop} {Dd : EndsD} {w : WS} {we wb : WE} {wA : WA} {wt : WT} {ds : List D} {n m : Int}
instance : Go (fLt (.int m) (.int n) R) (R (.bl (decide (m < n)))) := ⟨fun z => i_lt' z⟩
instance : Go (fLe (.int m) (.int n) R) (R (.bl (decide (m ≤ n)))) := ⟨fun z => i_le' z⟩
instance {P : List D → Prop} : Go (∃ es, [D.tup ds] = [.tup es] ∧ P es) (P ds) := ⟨fun z => i_ienT' z⟩
instance {P : List D → Prop} : Go (∃ es, [D.lst ds] = [.lst es] ∧ P es) (P ds) := ⟨fun z => i_ien' z⟩
instance {es : List D} {P : List D → List D → Prop} : Go (∃ a b, [D.lst ds, D.lst es] = [.lst a, .lst b] ∧ P a b) (P ds es) := ⟨fun z => i_iz' z⟩
instance : GoH1 (dVar i γ Q) (∃ d, γ[i]? = some (.val d) ∧ Q d γ) := ⟨fun ⟨_, g, q⟩ => i_var g q⟩
instance : GoH1 (dFrz i w Dd γ) (∃ ds, γ[i]? = some (.own false ds) ∧ w Dd (γ.set i (.val (.lst ds)))) := ⟨fun z => z⟩
instance : GoH1 (dRetO i Dd γ) (∃ ds, γ[i]? = some (.own false ds) ∧ Dd.rt (.f ds) (γ.set i .any)) := ⟨fun z => z⟩
instance {f : Int → Int → Int} : GoH1 (dAug i f we Dd γ) (∃ n, γ[i]? = some (.val (.int n)) ∧ we γ fun d γ1 => ∃ k, d = .int k ∧ Dd.nx (γ1.set i (.val (.int (f n k))))) := ⟨fun z => z⟩
instance {QA : List D → List Sl → Prop} : GoH1 (dIS i γ QA) (∃ ns, γ[i]? = some (.scr ns) ∧ QA (ns.map D.int) γ) := ⟨fun z => z⟩
instance {s : SpecS} : GoH1 (dCallScr i s γ QF) (∃ ns, γ[i]? = some (.scr ns) ∧ s.S ns fun r => ∃ es, r = .f es ∧ QF es γ) := ⟨fun z => z⟩
instance : GoH1 (itemD (.lst ds) (.int n) R) (∃ d, atI ds n = some d ∧ R d) := ⟨fun ⟨_, g, q⟩ => i_ixL g q⟩
instance : GoH1 (itemD (.tup ds) (.int n) R) (∃ d, atI ds n = some d ∧ R d) := ⟨fun ⟨_, g, q⟩ => i_ixT g q⟩
instance : GoH2 (dLendT i wt γ QT) (∃ m ds, γ[i]? = some (.own m ds) ∧ wt (lent i ds γ) fun b _ => QT b γ) := ⟨fun z => z⟩
instance : GoH2 (dLend i we γ Q) (∃ m ds, γ[i]? = some (.own m ds) ∧ we (lent i ds γ) fun d _ => flat d ∧ Q d γ) := ⟨fun z => z⟩
instance : GoH2 (dLenO i γ Q) (∃ m ds, γ[i]? = some (.own m ds) ∧ Q (.int ds.length) γ) := ⟨fun z => z⟩
instance : GoH2 (dIxO i wb γ Q) (∃ m ds, γ[i]? = some (.own m ds) ∧ wb γ fun y γ1 => ∃ k m ds d, y = .int k ∧ γ1[i]? = some (.own m ds) ∧ atI ds k = some d ∧ Q d γ1) := ⟨fun ⟨_, _, g, q⟩ => i_ixO g q⟩
instance : GoH2 (dApp i we Dd γ) (∃ m ds, γ[i]? = some (.own m ds) ∧ we γ fun d γ1 => ∃ m ds, γ1[i]? = some (.own m ds) ∧ ds.length < sizeLine ∧ (m = true → flat d) ∧ Dd.nx (γ1.set i (.own m (ds ++ [d])))) := ⟨fun ⟨_, _, g, q⟩ => i_app g q⟩
instance : GoH2 (dExt i we Dd γ) (∃ m ds, γ[i]? = some (.own m ds) ∧ we γ fun d γ1 => ∃ es m ds, d = .lst es ∧ γ1[i]? = some (.own m ds) ∧ ds.length + es.length ≤ sizeLine ∧ (m = true → flats es) ∧ Dd.nx (γ1.set i (.own m (ds ++ es)))) := ⟨fun ⟨_, _, g, q⟩ => i_ext g q⟩
instance {s : SpecP} : GoH2 (dCallP i s wA γ Q) (∃ m pl, γ[i]? = some (.own m pl) ∧ wA γ fun ds γ1 => ∃ m pl, γ1[i]? = some (.own m pl) ∧ s.S pl ds fun r pl' => Q r.val (γ1.set i (.own m pl'))) := ⟨fun ⟨_, _, g, q⟩ => i_callP g q⟩
instance {s : SpecP} : GoH2 (dCallPF i s wA γ QF) (∃ m pl, γ[i]? = some (.own m pl) ∧ wA γ fun ds γ1 => ∃ m pl, γ1[i]? = some (.own m pl) ∧ s.S pl ds fun r pl' => ∃ es, r = .f es ∧ QF es (γ1.set i (.own m pl'))) := ⟨fun ⟨_, _, g, q⟩ => i_callPF g q⟩
instance {F : Bool → List D → Prop} : GoH2 (∃ m pl, γ[i]? = some (.own m pl) ∧ F m pl) (∃ m pl, γ[i]? = some (.own m pl) ∧ F m pl) := ⟨fun z => z⟩
instance {F : Bool → Bxs → Prop} : GoH2 (∃ m L, γ[h]? = some (.hp m L) ∧ F m L) (∃ m L, γ[h]? = some (.hp m L) ∧ F m L) := ⟨fun z => z⟩
end
end DL
set_option Elab.async false
set_option linter.all false
set_option autoImplicit false
set_option maxRecDepth 100000
set_option maxHeartbeats 4000000
/-! DL37: exceptions: defs that may raise, their calls, raise. -/
namespace DL
open PySem PySem.Spec PyProof.Rows L2
/-- what is wanted of an exception of the class at C, with these fields -/
abbrev EQ := Addr → List (Str × D) → Prop
/-- a promise of a def that may raise -/
structure SpecX where
  S : List D → (Rv → Prop) → EQ → Prop
  mono : ∀ ds (P P' : Rv → Prop) (E E' : EQ), (∀ r, P r → P' r) → (∀ C fs, E C fs → E' C fs) → S ds P E → S ds P' E'
/-- the way out is a function of what comes in -/
def SpecX.fn {α : Type} (args : α → List D) (pre : α → Prop) (out : α → Sum Rv (Addr × List (Str × D))) : SpecX :=
  ⟨fun ds Q E => ∃ a, ds = args a ∧ pre a ∧ (match out a with | .inl r => Q r | .inr e => E e.1 e.2), fun ds P P' E E' k k' ⟨a, e, h, q⟩ => ⟨a, e, h, by
    cases o : out a with
    | inl r => rw [o] at q; exact k _ q
    | inr z => rw [o] at q; exact k' _ _ q⟩⟩
def spX (K : PySem.W.Frag) (s : SpecX) : Sp := fun vs H Q E => ∃ S ds, Same S H ∧ DenL S vs ds ∧ s.S ds (fun r => ∀ v S' H', Rel0 K ⟨H, S, [], [], emptyH⟩ S' H' [] [] → RvOk ⟨H, S, [], [], emptyH⟩ S' H' v r → Q v H')
  (fun C fs => ∀ S' H' d, Rel0 K ⟨H, S, [], [], emptyH⟩ S' H' [] [] → ExD S' d fs → E (.ref C) d H')
/-- a context whose code may raise -/
abbrev Xb.x (c : Cx) (E : XK) (dX : EQ) : Xb := ⟨c, fun cls d _ H => E cls d H, fun C fs _ => dX C fs⟩
section
variable {X : Xb} {K : PySem.W.Frag} {f : Addr} {fd : FuncData} {ps : List Str} {k : Nat} {x : Str} {e : Expr} {es : List Expr} {t : TA} {w : WA} {p pos : Pos}
def dCallX (s : SpecX) (dX : Addr → List (Str × D) → List Sl → Prop) (w : WA) : WE := fun γ Q => w γ fun ds γ1 => s.S ds (fun r => Q r.val γ1) fun C fs => dX C fs γ1
end
section
variable {P : Program} {w : World} {K : PySem.W.Frag} {mg : Str → Option Value} {base : Heap} {x qual : Str} {st : Stmt} {f : Addr} {fd : FuncData} {N ps : List Str} {k : Nat}
end
/-! ### raise -/
/-- an own exception class without an own __init__ -/
structure Xc0 (K : PySem.W.Frag) (mg : Str → Option Value) (x : Str) where
  C : Addr
  g : mg x = some (.ref C)
  q : PySem.W.excIn K C [.type "ValueError", .type "Exception", .type "BaseException", .type "object"] "ValueError.__new__" = true
  k : PySem.W.keepIn K (.ref C) = true
  b : PySem.W.subIn K (.ref C) (.type "BaseException") = some true
  t : PySem.W.typeIn K (.ref C) = some (.type "type")
/-- X() -/
theorem pmk_own0 {X : Cx} {C : Addr} {bmB : List Value} {B newId initId : String} {x : Str} {p pos : Pos} (F : ExcBaseFacts B newId initId bmB) (q : PySem.W.excIn X.K C bmB newId = true) (gC : X.mg x = some (.ref C)) (kC : PySem.W.keepIn X.K (.ref C) = true) (r : Raises X (.ref C)) (hg : Gl X x)
    (hdb : (x == ("__debug__" : Str)) = false := by decide) : PMk X (.Call (.Name x p) [] [] pos) (fun _ H Q => Q (.ref C) none H) := by
  intro pins s σ H Q I h
  refine wpAny_Call_Name_kw (ld_glob I hg gC ?_ hdb)
  refine PySem.W.callWith_K0 I.kIn kC ?_
  obtain ⟨bm, N, nm, qn, bs, hdct, sn, sub, ab, col, dd, k0, k1, k2, k3, k5, mN, hC, hN, hni, T⟩ := exc_obj I.kIn q
  refine wpAny_call_exc_subT F T hC hN hni (fun h' e hm => ?_) (by show 0 ≤ sizeLine; exact Nat.zero_le _)
  exact mk_of I hm r h (I.hok.gone hm.new)
section
variable {X : Xb} {x : Str} {p p2 pos : Pos} {te : TE} {we : WE} {e : Expr}
def dRaise0 (C : Addr) (dX : Addr → List (Str × D) → List Sl → Prop) : WS := fun _ γ => dX C [] γ
theorem ds_raise0 (T : Xc0 X.K X.mg x) (tk : L2.Takes X.c X.W) (hc : X.calm = true := by rfl) (hg : Gl X x := by rfl) (hdb : (x == ("__debug__" : Str)) = false := by decide) : DS X (.Raise (some (.Call (.Name x p) [] [] p2)) none pos) (fun _ σ H => X.W (.ref T.C) none σ H) (dRaise0 T.C X.dX) :=
  ⟨ps_raise hc tk (pmk_own0 PySem.F.excBase_ValueError T.q T.g T.k (raises_own T.b T.t) hg hdb), ⟨fun B S0 S H σ γ Dd D R e L q => R.x S H σ γ T.C [] none (Same.refl S) R.r.core (.inl ⟨rfl, rfl⟩) q⟩⟩
/-- what the __init__ of a class with one field does -/
def spInit1 (C : Addr) (f : Str) : Sp := fun vs H Q _ => ∃ a y, vs = [.ref a, y] ∧ H a = some (exo a C none) ∧ ∀ dx, H dx = none → dx ≠ a → Q .non (upd (upd H dx (exd dx [(f, y)])) a (exo a C (some dx)))
/-- an own exception class with an __init__ of one field -/
structure Xc1 (P : Program) (w : World) (K : PySem.W.Frag) (mg : Str → Option Value) (base : Heap) (x f : Str) where
  C : Addr
  g : mg x = some (.ref C)
  T : OexC K C
  fI : Addr
  i : PySem.W.findIn K (.ref C) "__init__" = some (some (.ref fI))
  ti : PySem.W.typeIn K (.ref fI) = some (.type "function")
  fd : FuncData
  ps : List Str
  F : FnOk P w K mg base CX0 1 fI fd ps (spInit1 C f)
  b : Binds K fd ps []
def dRaise1 (C : Addr) (f : Str) (we : WE) (dX : Addr → List (Str × D) → List Sl → Prop) : WS := fun _ γ => we γ fun d γ1 => dX C [(f, d)] γ1
theorem heap_exd {H1 : Hp} {a dx : Addr} {o1 o2 o3 u : HO} (ha : H1 a = none) : upd (L2.del (upd (upd (upd H1 a o1) dx o2) a o3) a) dx u = upd H1 dx u := by
  funext b
  by_cases hb : b = dx
  · subst hb; rw [upd_same, upd_same]
  · rw [upd_ne hb, upd_ne hb]
    by_cases h : b = a
    · subst h; rw [L2.del_same, ha]
    · rw [L2.del_ne h, upd_ne h, upd_ne hb, upd_ne h]
theorem ds_raise1 {f : Str} (T : Xc1 X.prog X.w X.K X.mg X.base x f) (tk : L2.Takes X.c X.W) (hr : Room 2 X.A) (he : DE X e te we) (hc : X.calm = true := by rfl) (hg : Gl X x := by rfl) (hdb : (x == ("__debug__" : Str)) = false := by decide)
    (hst : starEach [e] X.env = (false, eval e X.env) :: starEach [] X.env := by rfl) (hpl : (backTo p2 (starEach [] X.env)).any (·.1) = false := by rfl) :
    DS X (.Raise (some (.Call (.Name x p) [e] [] p2)) none pos) (fun _ σ H => tMkO T.C (spInit1 T.C f) [] (tCons te tNil) σ H fun cls d H' => X.W cls d σ H') (dRaise1 T.C f we X.dX) := by
  refine ⟨ps_raise hc tk (pmk_oex T.T T.i T.ti T.F hr T.b .nil pass0 hg T.g (pa_cons he.pe pa_nil hst) hdb hst hpl), ⟨fun B S0 S H σ γ Dd D R e0 L q => ?_⟩⟩
  refine he.se.run B S H σ γ _ R (he.se.mono γ _ _ (fun dv γ1 q v S1 H1 R1 e1 d1 => ?_) q)
  refine ⟨by show 1 ≤ 1000; decide, fun a ha => ⟨a, v, rfl, upd_same, fun dx hdx hne => ?_⟩⟩
  have hdx1 : H1 dx = none := by rw [upd_ne hne] at hdx; exact hdx
  refine ⟨rfl, dx, [(f, v)], upd_same, by rw [upd_ne hne]; exact upd_same, hdx1, ?_⟩
  rw [heap_exd ha]
  have eS : Same S1 (upd S1 dx (.xd [(f, v)])) := Same.upd (Same.refl S1) (R1.freshS hdx1)
  refine R1.x _ _ σ γ1 T.C [(f, dv)] (some dx) eS (R1.new hdx1).r.core (.inr ⟨dx, [(f, v)], rfl, upd_same, fun g z hz => ?_⟩) q
  by_cases hg : g = f
  · subst hg
    rw [List.lookup_cons_self] at hz ⊢
    cases hz
    exact ⟨v, rfl, d1.mono eS⟩
  · have b : (g == f) = false := beq_eq_false_iff_ne.mpr hg
    rw [List.lookup_cons, b] at hz
    cases hz
end
end DL
set_option Elab.async false
set_option linter.all false
set_option autoImplicit false
set_option maxRecDepth 100000
set_option maxHeartbeats 4000000
/-! DL38: try: .. except C as e: .. -/
namespace DL
open PySem PySem.Spec PyProof.Rows L2
/-- slot i is forgotten, its variable may change -/
theorem Rel0.forget {K : PySem.W.Frag} {B : Bs} {S H : Hp} {σ : L2.St} {γ : List Sl} {i : Nat} {v : Option V} (R : Rel0 K B S H σ γ) : Rel0 K B S H (σ.set i v) (γ.set i .any) := by
  obtain ⟨φ, r⟩ := R.drop (i := i)
  refine ⟨φ, r.same, r.keep, r.muk, r.grow, r.ext, by rw [List.length_set]; exact r.len, fun j s h => ?_, r.phH, r.phS, r.phD, r.phO, r.frm, r.frn, r.spS⟩
  by_cases e : j = i
  · subst e
    by_cases hl : j < γ.length
    · rw [List.getElem?_set_self hl] at h
      cases h
      trivial
    · rw [List.getElem?_eq_none (by rw [List.length_set]; omega)] at h
      cases h
  · rw [List.getElem?_set_ne (fun z => e z.symm)]
    exact r.sl j s h
/-! statements where nothing is kept aside -/
structure SS0 (X : Xb) (t : TS) (w : WS) : Prop where
  run : ∀ B S0 S H σ γ Dd D, B.fr = [] → Rel X B S H σ γ → Same S0 S → Link X B S0 Dd D → w Dd γ → t D σ H
structure DS0 (X : Xb) (st : Stmt) (t : TS) (w : WS) : Prop where
  ps : PS X st t
  ss : SS0 X t w
structure DSs0 (X : Xb) (st : List Stmt) (t : TS) (w : WS) : Prop where
  ps : PSs X st t
  ss : SS0 X t w
section
variable {X : Xb} {st : Stmt} {rest sts : List Stmt} {t u : TS} {w w' : WS}
theorem SS.s0 (h : SS X t w) : SS0 X t w := ⟨fun B S0 S H σ γ Dd D _ R e L q => h.run B S0 S H σ γ Dd D R e L q⟩
theorem DS.d0 (h : DS X st t w) : DS0 X st t w := ⟨h.ps, h.ss.s0⟩
theorem DSs.d0 (h : DSs X sts t w) : DSs0 X sts t w := ⟨h.ps, h.ss.s0⟩
theorem dss0_cons (h : DS0 X st t w) (h' : DSs0 X rest u w') : DSs0 X (st :: rest) (tSeq t u) (dSeq w w') :=
  ⟨pss_cons h.ps h'.ps, ⟨fun B S0 S H σ γ Dd D f R e L q => h.ss.run B S0 S H σ γ { Dd with nx := w' Dd } _ f R e ⟨fun S1 H1 σ1 γ1 e1 R1 q1 => h'.ss.run B S0 S1 H1 σ1 γ1 Dd D f R1 e1 L q1, L.rt, L.bk, L.ct⟩ q⟩⟩
end
section
variable {P : Program} {w : World} {K : PySem.W.Frag} {mg : Str → Option Value} {base : Heap} {x qual : Str} {st : Stmt} {f : Addr} {fd : FuncData} {N ps : List Str} {k : Nat}
/-- as fn_ok, its body with a try -/
theorem fn_ok0 {s : SpecD} (F : Fun K x qual st f fd) (Sc : FnScope N ps (defScope st)) (len : ∀ ds Q, s.S ds Q → ds.length = ps.length)
    (hbody : ∀ (cdv : Value) (A : Around) (outer : List Env) (s0 : Shared) (H : Hp) (E : XK), Room k (A.deeper (envOfC qual (defScope st) s0.heap.objs.size f cdv)) →
      ∃ t w', DSs0 (Xb.of (cxOf CX0 P w K mg base N qual (defScope st) f cdv A outer s0 H E).nox) (defBody st) t w' ∧ ∀ ds Q, s.S ds Q → w' { nx := fun _ => Q (.d .non), rt := fun r _ => Q r } (gam N ds)) : FnOk P w K mg base CX0 (k + 1) f fd ps (spV K s) := by
  refine F.ok Sc (fun vs H Q E h => ?_) (fun cdv A outer s0 H vs Q E hr h => ?_)
  · obtain ⟨S, ds, e, hd, q⟩ := h
    rw [hd.1]
    exact len _ _ q
  · obtain ⟨S, ds, e, hd, q⟩ := h
    obtain ⟨t, w', h1, h2⟩ := hbody cdv A outer s0 H E hr
    refine ⟨t, h1.ps, ?_⟩
    exact h1.ss.run ⟨H, S, [], [], emptyH⟩ S S H (L2.start N vs) (gam N ds) { nx := fun _ => _, rt := fun r _ => _ } _ rfl (Rel0.of (start_rel e hd)) (Same.refl S) ⟨fun S' H' σ' γ' _ R q => q _ _ _ R.nil .non, fun S' H' σ' γ' v r _ R rv q => q v _ _ R.nil rv, fun S' H' σ' γ' _ R q => q.elim, fun S' H' σ' γ' _ R q => q.elim⟩ (h2 ds _ q)
end
/-! ### try -/
/-- what is known of a caught exception -/
def KnowX (cls : Value) (C : Addr) (d : Option Addr) (fs : List (Str × D)) : WX := fun _ _ _ H => cls = .ref C ∧ (d = none ∨ ∃ dd ws, d = some dd ∧ H dd = some (.xd ws)) ∧ ∀ f x, fs.lookup f = some x → flat x → ∃ dd ws v, d = some dd ∧ H dd = some (.xd ws) ∧ ws.lookup f = some v ∧ ∀ S, Den S v x
theorem KnowX.c {cls : Value} {C : Addr} {d : Option Addr} {fs : List (Str × D)} {e : Value} {d' : Option Addr} {σ : L2.St} {H : Hp} (k : KnowX cls C d fs e d' σ H) : cls = .ref C := k.1
/-- the context of an except suite: what is known of the exception stands in the place of the wish -/
abbrev Xb.su (X : Xb) (a : Addr) (oe : Obj) (pn : List (Addr × Obj)) (cls : Value) (C : Addr) (d : Option Addr) (fs : List (Str × D)) : Xb := ⟨X.c.suite a ((a, oe) :: pn), KnowX cls C d fs, fun _ _ _ => True⟩
def dTryAs (K : PySem.W.Frag) (C : Addr) (i : Nat) (wb : (Addr → List (Str × D) → List Sl → Prop) → WS) (wsu : Addr → List (Str × D) → WS) (dX : Addr → List (Str × D) → List Sl → Prop) : WS := fun Dd γ =>
  wb (fun C' fs γ1 => (C' = C ∧ ∀ a, wsu a fs { nx := fun γ2 => Dd.nx (γ2.set i .any), rt := Dd.rt, bk := fun γ2 => Dd.bk (γ2.set i .any), ct := fun γ2 => Dd.ct (γ2.set i .any) } (γ1.set i (.val (.ref a)))) ∨ (PySem.W.exmOne K (.ref C') (.ref C) = some false ∧ dX C' fs γ1)) Dd γ
section
variable {X : Xb} {i : Nat} {n x : Str} {body suite : List Stmt} {b₀ : Stmt} {np pos pos' : Pos} {tb : WX → TS} {ts : Addr → Value → Option Addr → TS} {wb : (Addr → List (Str × D) → List Sl → Prop) → WS} {wsu : Addr → List (Str × D) → WS} {C : Addr}
/-- e.f in an except suite (a field without parts) -/
def dXf (a : Addr) (fs : List (Str × D)) (i : Nat) (f : Str) : WE := fun γ Q => γ[i]? = some (.val (.ref a)) ∧ ∃ z, fs.lookup f = some z ∧ flat z ∧ Q z γ
theorem de_xf {a : Addr} {oe : Obj} {pn : List (Addr × Obj)} {cls : Value} {d : Option Addr} {fs : List (Str × D)} {f y : Str} {py : Pos} (T : XfC X.K C) (hno : PySem.W.findIn X.K (.ref C) f = some none) (hz : Zc cls d oe) (hf : ∃ vs, oe.data = .fields vs)
    (hN : X.N[i]? = some y := by rfl) (hv : Vis X.env.scope y := by first | exact Or.inl rfl | exact Or.inr (Or.inl rfl) | exact Or.inr (Or.inr rfl)) (hd : (y == ("__debug__" : Str)) = false := by decide) (hcd : (y == ("__classdict__" : Str)) = false := by decide)
    (hab : attributeBase (.Name y py) f X.env (eval (.Name y py) X.env) = eval (.Name y py) X.env := by rfl) :
    DE (X.su a oe pn cls C d fs) (.Attribute (.Name y py) f pos) (tXf a cls d C f (tVar i)) (dXf a fs i f) := by
  refine ⟨pe_xf T hno hz hf (pe_var (X := X.c.suite a ((a, oe) :: pn)) hN hv hd hcd) hab, fun γ P P' k ⟨g, z, h1, h2, q⟩ => ⟨g, z, h1, h2, k _ _ q⟩, fun B S H σ γ Q R ⟨g, z, h1, h2, q⟩ => ?_⟩
  obtain ⟨v, hv1, dn⟩ := R.sl i _ g
  obtain ⟨hc, _, hk⟩ : KnowX cls C d fs (.ref C) none σ H := R.x S H σ γ C [] none (Same.refl S) R.r.core (.inl ⟨rfl, rfl⟩) trivial
  obtain ⟨dd, ws, u, e1, e2, e3, e4⟩ := hk f z h1 h2
  cases dn
  exact ⟨_, hv1, rfl, hc, dd, ws, u, e1, e2, e3, q u S H R (Same.refl S) (e4 S)⟩
end
end DL
set_option Elab.async false
set_option linter.all false
set_option autoImplicit false
set_option maxRecDepth 100000
set_option maxHeartbeats 4000000
/-! DL39: exceptions of defs that change boxes. -/
namespace DL
open PySem PySem.Spec PyProof.Rows L2
structure SpecBX where
  S : List D → Bxs → (D → Bxs → Prop) → EQ → Prop
  mono : ∀ ds L (P P' : D → Bxs → Prop) (E E' : EQ), (∀ d L', P d L' → P' d L') → (∀ C fs, E C fs → E' C fs) → S ds L P E → S ds L P' E'
/-- what comes and what changes, or an exception, by parameters -/
def SpecBX.fn {α : Type} (args : α → List D) (pre : α → Bxs → Prop) (post : α → D → Bxs → Bxs → Prop) (ex : α → Addr → List (Str × D) → Prop) : SpecBX :=
  ⟨fun ds L Q E => ∃ a, ds = args a ∧ pre a L ∧ (∀ d L', post a d L L' → Q d L') ∧ ∀ C fs, ex a C fs → E C fs, fun ds L P P' E E' k k' ⟨a, e, h, q, z⟩ => ⟨a, e, h, fun d L' r => k _ _ (q d L' r), fun C fs r => k' _ _ (z C fs r)⟩⟩
def spBX (K : PySem.W.Frag) (s : SpecBX) : Sp := fun vs H Q E => ∃ S mu L ds, Same S H ∧ (∀ a, a ∈ mu ↔ L a ≠ none) ∧ (∀ p b, L p = some b → S p = none ∧ BxOk S (H p) (some b)) ∧ DenL S vs ds ∧
  s.S ds L (fun d L' => ∀ v S' H', Rel0 K ⟨H, S, mu, [], emptyH⟩ S' H' [] [] → BxsOut S' H' L' mu H → Den S' v d → Q v H') (fun C fs => ∀ S' H' d L', Rel0 K ⟨H, S, mu, [], emptyH⟩ S' H' [] [] → BxsOut S' H' L' mu H → ExD S' d fs → E (.ref C) d H')
section
variable {X : Xb} {K : PySem.W.Frag} {C f : Addr} {fd : FuncData} {ps : List Str} {k : Nat} {x m : Str} {e o : Expr} {es : List Expr} {t : TA} {w : WA} {ta : TE} {wa : WE} {p pos apos : Pos} {s : SpecBX} {pl : Sem Bool}
theorem run_spBX {B : Bs} {S H : Hp} {σ : L2.St} {γ : List Sl} {h : Nat} {m : Bool} {L : Bxs} {vs : List V} {ds : List D} {Q : VK} (R : Rel X B S H σ γ) (g : γ[h]? = some (.hp m L)) (hd : DenL S vs ds)
    (q : s.S ds L (fun d L' => ∀ v S' H', Rel X B S' H' σ (γ.set h (.hp m L')) → Same S S' → Den S' v d → Q v H') fun C fs => ∀ L', X.dX C fs (γ.set h (.hp m L'))) : spBX X.K s vs H Q (L2.WE X.W σ) := by
  obtain ⟨mu, hmu⟩ := keysB (R.finB g)
  refine ⟨S, mu, L, ds, R.same, hmu, fun p b hb => R.boxAt g hb, hd, s.mono _ _ _ _ _ _ (fun d L' q v S' H' C' ho dn => ?_) (fun C fs q S' H' d L' C' ho ed => ?_) q⟩
  · exact q v S' H' (R.callB g (fun a ha => (hmu a).mp ha) C' ho) C'.grow dn
  · have R' := R.callB g (fun a ha => (hmu a).mp ha) C' ho
    exact R.x S' H' σ _ C fs d C'.grow R'.r.core ed (q L')
/-- a call -/
def dCallBX (h : Nat) (s : SpecBX) (dX : Addr → List (Str × D) → List Sl → Prop) (w : WA) : WE := fun γ Q => w γ fun ds γ1 => ∃ m L, γ1[h]? = some (.hp m L) ∧ s.S ds L (fun d L' => Q d (γ1.set h (.hp m L'))) fun C fs => ∀ L', dX C fs (γ1.set h (.hp m L'))
/-- a method of an instance in a box; what is wanted of an exception does not look at the slots' variables (a def's own body, no try) -/
def dMethBX (h : Nat) (C : Addr) (m : Str) (s : SpecBX) (dX : Addr → List (Str × D) → List Sl → Prop) (wa : WE) (w : WA) : WE := fun γ Q => wa γ fun x γ1 => ∃ mm L q fs, x = .ref q ∧ γ1[h]? = some (.hp mm L) ∧ L q = some (.ins C fs) ∧ fs.lookup m = none ∧ w γ1 fun ds γ2 => ∃ mm L, γ2[h]? = some (.hp mm L) ∧ s.S (.ref q :: ds) L (fun d L' => Q d (γ2.set h (.hp mm L'))) fun C fs => ∀ L', dX C fs (γ2.set h (.hp mm L'))
end
section
variable {P : Program} {w : World} {K : PySem.W.Frag} {mg : Str → Option Value} {base : Heap} {x qual : Str} {st : Stmt} {f : Addr} {fd : FuncData} {N ps : List Str} {k : Nat}
/-- THE RULE for a def that may change boxes and may raise -/
theorem fn_okBX {s : SpecBX} (F : Fun K x qual st f fd) (Sc : FnScope N ps (defScope st)) (hN : ps.length < N.length) (len : ∀ ds L Q E, s.S ds L Q E → ds.length = ps.length)
    (hbody : ∀ (cdv : Value) (A : Around) (outer : List Env) (s0 : Shared) (H : Hp) (E : XK) (dX : Addr → List (Str × D) → Prop), Room k (A.deeper (envOfC qual (defScope st) s0.heap.objs.size f cdv)) →
      ∃ t w', DSs ⟨cxOf (L2.CX P w) P w K mg base N qual (defScope st) f cdv A outer s0 H E, fun cls d _ H => E cls d H, fun C fs γ => ∃ L', γ[N.length - 1]? = some (.hp true L') ∧ dX C fs⟩ (defBody st) t w' ∧ ∀ ds L Q, s.S ds L Q dX → w' { nx := fun γ => ∃ L', γ[N.length - 1]? = some (.hp true L') ∧ Q .non L', rt := fun r γ => ∃ d L', r = .d d ∧ γ[N.length - 1]? = some (.hp true L') ∧ Q d L' } (gamB N ds L)) : FnOk P w K mg base (L2.CX P w) (k + 1) f fd ps (spBX K s) := by
  refine F.okX Sc (fun vs H Q E h => ?_) (fun cdv A outer s0 H vs Q E hr h => ?_)
  · obtain ⟨S, mu, L, ds, e, hmu, hL, hd, q⟩ := h
    rw [hd.1]
    exact len _ _ _ _ q
  · obtain ⟨S, mu, L, ds, e, hmu, hL, hd, q⟩ := h
    obtain ⟨t, w', h1, h2⟩ := hbody cdv A outer s0 H E (fun C fs => ∀ S' H' d L', Rel0 K ⟨H, S, mu, [], emptyH⟩ S' H' [] [] → BxsOut S' H' L' mu H → ExD S' d fs → E (.ref C) d H') hr
    refine ⟨t, h1.ps, ?_⟩
    have hl : ds.length < N.length := by rw [len _ _ _ _ q]; exact hN
    have R0 := start_relB (K := K) (N := N) e hmu hL hd hl
    exact h1.ss.run ⟨H, S, mu, [], emptyH⟩ S S H (L2.start N vs) (gamB N ds L) { nx := fun γ => ∃ L', γ[N.length - 1]? = some (.hp true L') ∧ _, rt := fun r γ => ∃ d L', r = .d d ∧ γ[N.length - 1]? = some (.hp true L') ∧ _ } _ ⟨R0, fun S' H' σ' γ' C fs d _ R ed ⟨L', g, q⟩ => q S' H' d L' R.nil (endB (X := Xb.of (cxOf CX0 P w K mg base N qual (defScope st) f cdv A outer s0 H E)) (Rel0.of R) g) ed⟩ (Same.refl S) ⟨fun S' H' σ' γ' _ R ⟨L', g, q⟩ => q _ _ _ R.r.nil (endB R g) .non, fun S' H' σ' γ' v r _ R rv ⟨d, L', er, g, q⟩ => by
        subst er
        exact q v _ _ R.r.nil (endB R g) rv, fun S' H' σ' γ' _ R q => q.elim, fun S' H' σ' γ' _ R q => q.elim⟩ (h2 ds L _ q)
end
end DL
set_option Elab.async false
set_option linter.all false
set_option autoImplicit false
set_option maxRecDepth 100000
set_option maxHeartbeats 4000000
/-! DL40: steps for exceptions. -/
namespace DL
open PySem PySem.Spec PyProof.Rows L2
section
variable {γ : List Sl} {h i : Nat} {Q : D → List Sl → Prop} {dX : Addr → List (Str × D) → List Sl → Prop} {w : WA} {we wa : WE} {Dd : EndsD} {C a : Addr} {f m : Str} {s : SpecX} {sb : SpecBX} {fs : List (Str × D)}
instance : Go (dCallX s dX w γ Q) (w γ fun ds γ1 => s.S ds (fun r => Q r.val γ1) fun C fs => dX C fs γ1) := ⟨fun z => z⟩
instance : Go (dCallBX h sb dX w γ Q) (w γ fun ds γ1 => ∃ m L, γ1[h]? = some (.hp m L) ∧ sb.S ds L (fun d L' => Q d (γ1.set h (.hp m L'))) fun C fs => ∀ L', dX C fs (γ1.set h (.hp m L'))) := ⟨fun z => z⟩
instance : Go (dMethBX h C m sb dX wa w γ Q) (wa γ fun x γ1 => ∃ mm L q fs, x = .ref q ∧ γ1[h]? = some (.hp mm L) ∧ L q = some (.ins C fs) ∧ fs.lookup m = none ∧ w γ1 fun ds γ2 => ∃ mm L, γ2[h]? = some (.hp mm L) ∧ sb.S (.ref q :: ds) L (fun d L' => Q d (γ2.set h (.hp mm L'))) fun C fs => ∀ L', dX C fs (γ2.set h (.hp mm L'))) := ⟨fun z => z⟩
instance : Go (dRaise0 C dX Dd γ) (dX C [] γ) := ⟨fun z => z⟩
instance : Go (dRaise1 C f we dX Dd γ) (we γ fun d γ1 => dX C [(f, d)] γ1) := ⟨fun z => z⟩
instance {K : PySem.W.Frag} {wb : (Addr → List (Str × D) → List Sl → Prop) → WS} {wsu : Addr → List (Str × D) → WS} : Go (dTryAs K C i wb wsu dX Dd γ) (wb (fun C' fs γ1 => (C' = C ∧ ∀ a, wsu a fs { nx := fun γ2 => Dd.nx (γ2.set i .any), rt := Dd.rt, bk := fun γ2 => Dd.bk (γ2.set i .any), ct := fun γ2 => Dd.ct (γ2.set i .any) } (γ1.set i (.val (.ref a)))) ∨ (PySem.W.exmOne K (.ref C') (.ref C) = some false ∧ dX C' fs γ1)) Dd γ) := ⟨fun z => z⟩
end
end DL
set_option Elab.async false
set_option linter.all false
set_option autoImplicit false
set_option maxRecDepth 100000
set_option maxHeartbeats 4000000
/-! DL41: calls with keywords of defs that may raise; list(..) and + over them are plain expressions. -/
namespace DL
open PySem PySem.Spec PyProof.Rows L2
/-- the reading: what is wished of an exception looks at the slots -/
def tCallNX (n m : Nat) (sp : Sp) (gV : List V → List V → List V) (E : L2.St → XK) (t tk : TA) : TE := fun σ H Q => t σ H fun vs H1 => tk σ H1 fun zs H2 => vs.length = n ∧ zs.length = m ∧ sp (gV vs zs) H2 Q (E σ)
section
variable {X : Cx} {CX : CXT} {k n : Nat} {f : Addr} {fd : FuncData} {ps ks : List Str} {sp : Sp} {E : L2.St → XK} {x : Str} {p pos : Pos} {e : Expr} {es : List Expr} {kws : List Keyword} {t tk : TA} {g : List Value → List Value → List Value} {gV : List V → List V → List V}
end
section
variable {X : Xb} {K : PySem.W.Frag} {f : Addr} {fd : FuncData} {ps ks : List Str} {k n : Nat} {x : Str} {e : Expr} {es : List Expr} {t tk : TA} {w wk : WA} {p pos : Pos} {kws : List Keyword} {s : SpecX}
def dCallKX (n m : Nat) (s : SpecX) (dX : Addr → List (Str × D) → List Sl → Prop) (w wk : WA) : WE := fun γ Q => w γ fun ds γ1 => wk γ1 fun es γ2 => ds.length = n ∧ es.length = m ∧ s.S (ds ++ es) (fun r => Q r.val γ2) fun C fs => dX C fs γ2
instance {γ : List Sl} {Q : D → List Sl → Prop} {m : Nat} {dX : Addr → List (Str × D) → List Sl → Prop} : Go (dCallKX n m s dX w wk γ Q) (w γ fun ds γ1 => wk γ1 fun es γ2 => ds.length = n ∧ es.length = m ∧ s.S (ds ++ es) (fun r => Q r.val γ2) fun C fs => dX C fs γ2) := ⟨fun z => z⟩
/-- what the law asks of a class whose exceptions it catches by name and whose field f it reads -/
structure Xh (K : PySem.W.Frag) (C : Addr) (f : Str) : Prop where
  ex : PySem.W.exmOne K (.ref C) (.ref C) = some true
  T : XfC K C
  no : PySem.W.findIn K (.ref C) f = some none
end
end DL
set_option Elab.async false
set_option linter.all false
set_option autoImplicit false
set_option maxRecDepth 100000
set_option maxHeartbeats 4000000
/-! DL42: calls of defs that may raise, in a try's body: what is wished of an exception is told explicitly (it is a variable there). -/
namespace DL
open PySem PySem.Spec PyProof.Rows L2
section
variable {X : Xb} {K : PySem.W.Frag} {f : Addr} {fd : FuncData} {ps ks : List Str} {k n : Nat} {x : Str} {e : Expr} {es : List Expr} {t tk : TA} {w wk : WA} {p pos : Pos} {kws : List Keyword} {s : SpecX}
end
end DL
set_option Elab.async false
set_option linter.all false
set_option autoImplicit false
set_option maxRecDepth 100000
set_option maxHeartbeats 4000000
/-! DL43: the head's facts of own exception classes. -/
namespace DL
open PySem PySem.Spec PyProof.Rows L2 He
section
variable {P : Program} {w : World} {K : PySem.W.Frag} {mg : Str → Option Value} {base : Heap} {x qual : Str} {st : Stmt} {f : Addr} {fd : FuncData} {s v fld : Str} {C : Addr}
theorem fn_init1 {p1 p2 p3 pos : Pos} (F : Fun K x qual st f fd) (Sc : FnScope [s, v] [s, v] (defScope st)) (hb : defBody st = [.Assign [.Attribute (.Name s p1) fld p2] (.Name v p3) pos]) (T : OexC K C) (hno : PySem.W.findIn K (.ref C) fld = some none)
    (d1 : (s == ("__debug__" : Str)) = false := by decide) (d2 : (s == ("__classdict__" : Str)) = false := by decide) (d3 : (v == ("__debug__" : Str)) = false := by decide) (d4 : (v == ("__classdict__" : Str)) = false := by decide) : FnOk P w K mg base CX0 1 f fd [s, v] (spInit1 C fld) := by
  have vis : ∀ y ∈ [s, v], ∀ (H : Hp) (cdv : Value) (A : Around) (outer : List Env) (s0 : Shared) (E : XK), Vis (cxOf CX0 P w K mg base [s, v] qual (defScope st) f cdv A outer s0 H E).nox.env.scope y := fun y hy H cdv A outer s0 E => by
    rcases Sc.par y hy with h | h
    · exact .inl h
    · exact .inr (.inl h)
  refine F.ok Sc (fun vs H Q E ⟨a, y, e, _⟩ => by rw [e]; rfl) fun cdv A outer s0 H vs Q E hr ⟨a, y, e, ha, q⟩ => ⟨tOst K fld (tVar 0) (tVar 1), ?_, ?_⟩
  · rw [hb]
    exact pss_one (ps_ost (X := (cxOf CX0 P w K mg base [s, v] qual (defScope st) f cdv A outer s0 H E).nox) (pe_var rfl (vis s (by simp) H cdv A outer s0 E) d1 d2) (pe_var rfl (vis v (by simp) H cdv A outer s0 E) d3 d4))
  · subst e
    exact ⟨y, rfl, .ref a, rfl, a, C, rfl, T, hno, .inl ⟨ha, fun dx h1 h2 => q dx h1 h2⟩⟩
end
section
variable {P : Program} {w : World} {K : PySem.W.Frag} {mg : Str → Option Value} {base h : Heap} {x : Str}
theorem base_ok (c : baseB x K = true) : PySem.W.subIn K (.ref (ga K x)) (.type "BaseException") = some true ∧ PySem.W.typeIn K (.ref (ga K x)) = some (.type "type") ∧ PySem.W.keepIn K (.ref (ga K x)) = true := by
  obtain ⟨c1, c⟩ := ba c
  obtain ⟨c2, c3⟩ := ba c
  exact ⟨of_decide_eq_true c1, of_decide_eq_true c2, c3⟩
theorem oexC1_ok {C : Addr} (q : oexC1 K C = true) : ∃ nm q N bs bm sn sub ab col dd k0 k1 k2 k3 k5, K.lookup C = some (excClassObj nm q C N bs bm true sn sub ab col dd k0 k1 k2 k3 k5 "ValueError.__new__") ∧ PySem.HandSPX.refsVE bm = true := by
  unfold oexC1 at q
  split at q
  · rename_i dd cd sl ho
    split at q
    · rename_i C' bm k0 k1 k2 k3 n k5 hm hs
      simp only [Bool.and_eq_true, beq_iff_eq, Bool.not_eq_true'] at q
      obtain ⟨rfl, rfl, hdel, hdic, ht⟩ := q
      obtain ⟨nm, bs, mro, ns, qn, hd, sn, sub, ab, col, del⟩ := cd
      dsimp only at hm hdel hdic
      subst hm hdel hdic
      have hsl : sl = #[k0, k1, k2, k3, some (.builtin "ValueError.__new__"), k5] := by
        obtain ⟨l⟩ := sl
        simp only at hs
        rw [hs]
      subst hsl
      exact ⟨nm, qn, ns, bs, bm, sn, sub, ab, col, dd, k0, k1, k2, k3, k5, ho, ht⟩
    · cases q
  · cases q
theorem oex_ok (c : oexB x K = true) : OexC K (ga K x) := by
  obtain ⟨c1, c⟩ := ba c
  obtain ⟨c2, c3⟩ := ba c
  obtain ⟨b1, b2, b3⟩ := base_ok c3
  exact ⟨oexC1_ok c1, eqO_ok c2, b1, b2, b3⟩
def Xc0.of (X : K.In h) (G : h.Ns mainGlobals mg) (hg : (Fa.glo x).ok K = true) (c : exc0B x K = true) : Xc0 K mg x :=
  have c' := ba c
  have b := base_ok c'.2
  ⟨ga K x, glo_ok X G hg, c'.1, b.2.2, b.1, b.2.1⟩
theorem xh_ok {f : Str} (c : xhB x f K = true) : Xh K (ga K x) f := by
  obtain ⟨c1, c⟩ := ba c
  obtain ⟨c2, c3⟩ := ba c
  exact ⟨of_decide_eq_true c1, xfB_ok c2, eqO_ok c3⟩
def Xc1.of {fld qual s v : Str} {st : Stmt} {p1 p2 p3 pos : Pos} (X : K.In h) (G : h.Ns mainGlobals mg) (hg : (Fa.glo x).ok K = true) (c : oexB x K = true) (cx : xhB x fld K = true) (Gi : Gm K (ga K x) "__init__" qual st [s, v]) (Sc : FnScope [s, v] [s, v] (defScope st)) (hb : defBody st = [.Assign [.Attribute (.Name s p1) fld p2] (.Name v p3) pos])
    (d1 : (s == ("__debug__" : Str)) = false := by decide) (d2 : (s == ("__classdict__" : Str)) = false := by decide) (d3 : (v == ("__debug__" : Str)) = false := by decide) (d4 : (v == ("__classdict__" : Str)) = false := by decide) : Xc1 P w K mg base x fld :=
  { C := ga K x
    g := glo_ok X G hg
    T := oex_ok c
    fI := Gi.f
    i := Gi.at
    ti := beq_iff_eq.mp Gi.fn
    fd := Gi.fd
    ps := [s, v]
    F := fn_init1 Gi.F Sc hb (oex_ok c) (xh_ok cx).no d1 d2 d3 d4
    b := Gi.b }
end
end DL
set_option Elab.async false
set_option linter.all false
set_option autoImplicit false
set_option maxRecDepth 100000
set_option maxHeartbeats 4000000
/-! DL44: a tuple repeated. -/
namespace DL
open PySem PySem.Spec PyProof.Rows L2
section
variable {X : Cx}
/-- a tuple repeated, once or more: repeated once it is itself -/
def rRepN (K : PySem.W.Frag) : R2 := fun x y H Q => ∃ l k xs, x = .ref l ∧ y = .int k ∧ SqT K H l xs ∧ xs ≠ [] ∧ 1 ≤ k ∧ k ≤ 1000 ∧ xs.length ≤ 1000 ∧ (k = 1 → Q (.ref l) H) ∧ (2 ≤ k → ∀ p, H p = none → Q (.ref p) (upd H p (.tup (List.replicate k.toNat xs).flatten)))
end
section
variable {X : Xb} {a b : Expr} {ta tb : TE} {wa wb : WE} {pos : Pos}
def dRepT (wa wb : WE) : WE := fun γ Q => wa γ fun x γ1 => wb γ1 fun y γ2 => ∃ ds k, x = .tup ds ∧ y = .int k ∧ ds ≠ [] ∧ 1 ≤ k ∧ k ≤ 1000 ∧ ds.length ≤ 1000 ∧ Q (.tup (List.replicate k.toNat ds).flatten) γ2
end
section
variable {γ : List Sl} {wa wb : WE} {Q : D → List Sl → Prop} {ds : List D} {k : Int}
instance : Go (dRepT wa wb γ Q) (wa γ fun x γ1 => wb γ1 fun y γ2 => ∃ ds k, x = .tup ds ∧ y = .int k ∧ ds ≠ [] ∧ 1 ≤ k ∧ k ≤ 1000 ∧ ds.length ≤ 1000 ∧ Q (.tup (List.replicate k.toNat ds).flatten) γ2) := ⟨fun z => z⟩
end
end DL
set_option Elab.async false
set_option linter.all false
set_option autoImplicit false
set_option maxRecDepth 100000
set_option maxHeartbeats 4000000
/-! DL45: a list in a box that stands in a tuple: lent, frozen; a box's list handed out as a new list. -/
namespace DL
open PySem PySem.Spec PyProof.Rows L2
/-- the box among the items, told as a list -/
theorem DenL.told {S S' : Hp} {zs : List V} {pre post : List D} {q : Addr} {es : List D} (h : DenL S zs (pre ++ .ref q :: post)) (e : Same S S') (d : Den S' (.ref q) (.lst es)) : DenL S' zs (pre ++ .lst es :: post) := by
  refine ⟨by rw [h.1, List.length_append, List.length_append]; rfl, fun i x y h1 h2 => ?_⟩
  by_cases hi : i = pre.length
  · subst hi
    rw [List.getElem?_append_right (Nat.le_refl _), Nat.sub_self] at h2
    cases h2
    have h3 := h.2 pre.length x (.ref q) h1 (by rw [List.getElem?_append_right (Nat.le_refl _), Nat.sub_self]; rfl)
    cases h3
    exact d
  · refine (h.2 i x y h1 ?_).mono e
    by_cases hl : i < pre.length
    · rw [List.getElem?_append_left hl] at h2 ⊢
      exact h2
    · rw [List.getElem?_append_right (by omega)] at h2 ⊢
      obtain ⟨j, hj⟩ : ∃ j, i - pre.length = j + 1 := ⟨i - pre.length - 1, by omega⟩
      rw [hj] at h2 ⊢
      exact h2
section
variable {X : Xb} {K : PySem.W.Frag} {B : Bs} {S H : Hp} {σ : L2.St} {γ : List Sl} {i h : Nat} {pre post es : List D} {q : Addr} {m : Bool} {L : Bxs}
theorem Den.told {S' : Hp} {v : V} (d : Den S v (.tup (pre ++ .ref q :: post))) (e : Same S S') (d2 : Den S' (.ref q) (.lst es)) : Den S' v (.tup (pre ++ .lst es :: post)) := by
  obtain ⟨a, zs, rfl, h1, h2⟩ := d.tup_inv
  exact .ofT (e _ _ h1) (h2.told e d2)
end
section
variable {X : Xb} {e : Expr} {te : TE} {we : WE} {tt : TT} {wt : WT} {sts : List Stmt} {t : TS} {w : WS} {pos : Pos}
def LendsB (γ : List Sl) (i h : Nat) (P : List Sl → Prop) : Prop := ∃ pre q post es m L, γ[i]? = some (.val (.tup (pre ++ .ref q :: post))) ∧ γ[h]? = some (.hp m L) ∧ L q = some (.lst es) ∧ P ((lentS γ).set i (.val (.tup (pre ++ .lst es :: post))))
def dLendBT (i h : Nat) (wt : WT) : WT := fun γ Q => LendsB γ i h fun γ1 => wt γ1 fun b _ => Q b γ
def dLendBE (i h : Nat) (we : WE) : WE := fun γ Q => LendsB γ i h fun γ1 => we γ1 fun d _ => flat d ∧ Q d γ
/-- from here on the box in slot i's tuple is a list, its value -/
def dFrzTB (i h : Nat) (w : WS) : WS := fun Dd γ => ∃ pre q post es L, γ[i]? = some (.val (.tup (pre ++ .ref q :: post))) ∧ γ[h]? = some (.hp false L) ∧ L q = some (.lst es) ∧ w Dd ((γ.set h (.hp false (delB L q))).set i (.val (.tup (pre ++ .lst es :: post))))
/-- return of a list in a box of one's own, as a new list -/
def dRetBx (h : Nat) (we : WE) : WS := fun Dd γ => we γ fun d γ1 => ∃ L q es, d = .ref q ∧ γ1[h]? = some (.hp false L) ∧ L q = some (.lst es) ∧ Dd.rt (.f es) γ1
end
section
variable {γ : List Sl} {i h : Nat} {pre post es : List D} {q : Addr} {m : Bool} {L : Bxs} {we : WE} {wt : WT} {w : WS} {Dd : EndsD} {Q : D → List Sl → Prop} {QT : Bool → List Sl → Prop}
instance : Go (dLendBT i h wt γ QT) (LendsB γ i h fun γ1 => wt γ1 fun b _ => QT b γ) := ⟨fun z => z⟩
instance : Go (dLendBE i h we γ Q) (LendsB γ i h fun γ1 => we γ1 fun d _ => flat d ∧ Q d γ) := ⟨fun z => z⟩
instance : Go (dRetBx h we Dd γ) (we γ fun d γ1 => ∃ L q es, d = .ref q ∧ γ1[h]? = some (.hp false L) ∧ L q = some (.lst es) ∧ Dd.rt (.f es) γ1) := ⟨fun z => z⟩
end
end DL
set_option Elab.async false
set_option linter.all false
set_option autoImplicit false
set_option maxRecDepth 100000
set_option maxHeartbeats 4000000
/-! DL46: try with several handlers that name nothing; calls with defaults. -/
namespace DL
open PySem PySem.Spec PyProof.Rows L2
/-- the context of an except suite that raises nothing -/
abbrev Xb.sn (X : Xb) (a : Addr) (oe : Obj) (pn : List (Addr × Obj)) : Xb := ⟨X.c.suite a ((a, oe) :: pn), fun _ _ _ _ => True, fun _ _ _ => True⟩
inductive DHds (X : Xb) : List ExceptHandler → List (Value × (Addr → Value → Option Addr → TS)) → List (Addr × WS) → Prop
  | nil : DHds X [] [] []
  | cons {x : Str} {C : Addr} {ts : Addr → Value → Option Addr → TS} {w : WS} {b₀ : Stmt} {suite : List Stmt} {np pos' : Pos} {hds : List ExceptHandler} {l : List (Value × (Addr → Value → Option Addr → TS))} {wl : List (Addr × WS)} (hg : X.mg x = some (.ref C))
      (hsu : ∀ (a : Addr) (oe : Obj) (cls : Value) (d : Option Addr) (pn : List (Addr × Obj)), Zc cls d oe → (∃ vs, oe.data = .fields vs) → DSs (X.sn a oe pn) (b₀ :: suite) (ts a cls d) w) (r : DHds X hds l wl) (hgl : Gl X x := by rfl) (hdb : (x == ("__debug__" : Str)) = false := by decide) :
      DHds X (.ExceptHandler (some (.Name x np)) none (b₀ :: suite) pos' :: hds) ((.ref C, ts) :: l) ((C, w) :: wl)
def manyD (K : PySem.W.Frag) (dX : Addr → List (Str × D) → List Sl → Prop) (Dd : EndsD) : List (Addr × WS) → Addr → List (Str × D) → List Sl → Prop
  | [] => dX
  | (C, w) :: r => fun C' fs γ => ∃ b, PySem.W.exmOne K (.ref C') (.ref C) = some b ∧ (b = true → w Dd γ) ∧ (b = false → manyD K dX Dd r C' fs γ)
def dTryMany (K : PySem.W.Frag) (wl : List (Addr × WS)) (wb : (Addr → List (Str × D) → List Sl → Prop) → WS) (dX : Addr → List (Str × D) → List Sl → Prop) : WS := fun Dd γ => wb (manyD K dX Dd wl) Dd γ
theorem DHds.ok {X : Xb} {hds : List ExceptHandler} {l : List (Value × (Addr → Value → Option Addr → TS))} {wl : List (Addr × WS)} (h : DHds X hds l wl) : HdsOk X.c hds l := by
  induction h with
  | nil => exact .nil
  | cons hg hsu r hgl hdb ih => exact .cons ⟨hgl, hdb, .inl hg⟩ (fun a oe cls d pn hz hd => (hsu a oe cls d pn hz hd).ps) ih
section
variable {X : Xb} {body : List Stmt} {h₀ : ExceptHandler} {hds : List ExceptHandler} {pos : Pos} {tb : WX → TS} {wb : (Addr → List (Str × D) → List Sl → Prop) → WS} {l : List (Value × (Addr → Value → Option Addr → TS))} {wl : List (Addr × WS)}
end
section
variable {K : PySem.W.Frag} {γ : List Sl} {Dd : EndsD} {wl : List (Addr × WS)} {wb : (Addr → List (Str × D) → List Sl → Prop) → WS} {dX : Addr → List (Str × D) → List Sl → Prop}
instance : Go (dTryMany K wl wb dX Dd γ) (wb (manyD K dX Dd wl) Dd γ) := ⟨fun z => z⟩
theorem exm_ok {x : Str} (c : exmB x K = true) : PySem.W.exmOne K (.ref (He.ga K x)) (.ref (He.ga K x)) = some true := of_decide_eq_true c
end
end DL
/-! ### calls with the keyword-only parameters left out -/
namespace DL
open PySem PySem.Spec PyProof.Rows L2
section
variable {X : Xb} {K : PySem.W.Frag} {f : Addr} {fd : FuncData} {ps : List Str} {k n : Nat} {x : Str} {e : Expr} {es : List Expr} {t : TA} {w : WA} {p pos : Pos} {s : SpecX} {mv : List Value} {dvs : List V} {dds : List D}
def dCallKD (n : Nat) (dds : List D) (s : SpecX) (dX : Addr → List (Str × D) → List Sl → Prop) (w : WA) : WE := fun γ Q => w γ fun ds γ1 => ds.length = n ∧ s.S (ds ++ dds) (fun r => Q r.val γ1) fun C fs => dX C fs γ1
instance {γ : List Sl} {Q : D → List Sl → Prop} {dX : Addr → List (Str × D) → List Sl → Prop} : Go (dCallKD n dds s dX w γ Q) (w γ fun ds γ1 => ds.length = n ∧ s.S (ds ++ dds) (fun r => Q r.val γ1) fun C fs => dX C fs γ1) := ⟨fun z => z⟩
/-- bound with the defaults dvs -/
structure Kd (K : PySem.W.Frag) (fd : FuncData) (ps : List Str) (n : Nat) (dvs : List V) : Type where
  mv : List Value
  kb : KBn K fd ps n [] (fun us ws => us ++ (mv ++ ws)) (fun vs zs => vs ++ (dvs ++ zs))
end
end DL
set_option Elab.async false
set_option linter.all false
set_option autoImplicit false
set_option maxRecDepth 100000
set_option maxHeartbeats 4000000
/-! DL47: append in a try's body or suite. -/
namespace DL
open PySem PySem.Spec PyProof.Rows L2
section
variable {X : Xb} {e : Expr} {te : TE} {we : WE} {pos : Pos}
end
end DL
set_option Elab.async false
set_option linter.all false
set_option autoImplicit false
set_option maxRecDepth 100000
set_option maxHeartbeats 4000000
/-! DL48: try with several handlers, of which some name the exception. -/
namespace L2
open PySem PySem.Spec PyProof.Rows
abbrev MixH := Value × Option Nat × (Addr → Value → Option Addr → TS)
/-- the ends of a suite whose name i is unbound behind it -/
abbrev endsU (D : Ends) (i : Nat) : Ends := { nx := fun σ' H' => D.nx (σ'.set i none) H', rt := D.rt, bk := fun σ' H' => D.bk (σ'.set i none) H', ct := fun σ' H' => D.ct (σ'.set i none) H' }
def wMix (K : PySem.W.Frag) (Wout : WX) (D : Ends) : List MixH → WX
  | [] => Wout
  | (c, none, ts) :: r => fun cls d σ H => ∃ b, PySem.W.exmOne K cls c = some b ∧ (b = true → ∀ a, H a = none → ts a cls d D σ H) ∧ (b = false → wMix K Wout D r cls d σ H)
  | (c, some i, ts) :: r => fun cls d σ H => ∃ b, PySem.W.exmOne K cls c = some b ∧ (b = true → ∀ a, H a = none → ts a cls d (endsU D i) (σ.set i (some (.ref a))) H) ∧ (b = false → wMix K Wout D r cls d σ H)
inductive MixOk (X : Cx) : List ExceptHandler → List MixH → Prop
  | nil : MixOk X [] []
  | cons {x : Str} {c : Value} {ts : Addr → Value → Option Addr → TS} {b₀ : Stmt} {suite : List Stmt} {np pos' : Pos} {hds : List ExceptHandler} {l : List MixH} (hc : Names X x c)
      (hsu : ∀ (a : Addr) (oe : Obj) (cls : Value) (d : Option Addr) (pn : List (Addr × Obj)), Zc cls d oe → (∃ vs, oe.data = .fields vs) → PSs (X.suite a ((a, oe) :: pn)) (b₀ :: suite) (ts a cls d)) (r : MixOk X hds l) :
      MixOk X (.ExceptHandler (some (.Name x np)) none (b₀ :: suite) pos' :: hds) ((c, none, ts) :: l)
  | named {x n : Str} {c : Value} {i : Nat} {ts : Addr → Value → Option Addr → TS} {b₀ : Stmt} {suite : List Stmt} {np pos' : Pos} {hds : List ExceptHandler} {l : List MixH} (hc : Names X x c) (hi : X.N[i]? = some n) (hln : X.env.kindOf n = some .local)
      (hsu : ∀ (a : Addr) (oe : Obj) (cls : Value) (d : Option Addr) (pn : List (Addr × Obj)), Zc cls d oe → (∃ vs, oe.data = .fields vs) → PSs (X.suite a ((a, oe) :: pn)) (b₀ :: suite) (ts a cls d)) (r : MixOk X hds l) :
      MixOk X (.ExceptHandler (some (.Name x np)) (some n) (b₀ :: suite) pos' :: hds) ((c, some i, ts) :: l)
section
variable {X : Cx} {body : List Stmt} {h₀ : ExceptHandler} {hds : List ExceptHandler} {l : List MixH} {pos : Pos} {tb : WX → TS} {Wout : WX}
theorem ps_try_mix (hs : X.stack = X.env :: X.outer) (hf : X.env.frame = some X.env.locals) (hN : X.N.Nodup) (tk : Takes X Wout)
    (hb : ∀ (W : WX) (pn : List (Addr × Obj)) (xe : Value → Shared → Prop), Takes (X.tr pn xe) W → PassesOwn (model X.prog X.w) X.A X.env xe → PSs (X.tr pn xe) body (tb W))
    (hh : MixOk X (h₀ :: hds) l) : PS X (.Try body (h₀ :: hds) [] [] pos) (fun D σ H => tb (wMix X.K Wout D l) D σ H) := by
  refine ⟨fun pins s σ H D I h => ?_⟩
  have ok := I.ok
  have hfr : X.A.frames = some (X.env :: X.outer) := by rw [ok.frames, hs]
  refine wpAny_Try_except ?_
  refine wpAny_mono ((hb (wMix X.K Wout D l) (X.pn ++ pins) (fun e s₁ => wpAny (model X.prog X.w) X.A (noteFrame e X.env) (fun _ s₂ => wpAny (model X.prog X.w) X.A (setFlight e none) (fun _ s₃ =>
    wpAny (model X.prog X.w) X.A (handleBy e X.env (h₀ :: hds)) (SP X pins D) X.xe s₃) X.xe s₂) X.xe s₁) (fun u s' xx => ?_) PassesOwn.looking).run [] s σ H D (I.toTry _) h) (fun f s1 hsp => ?_) (fun e s1 he => he)
  · obtain ⟨a, B, sI, pins', σ', H', cls, d, rfl, J', nb, up, sky, na, os, ag, w⟩ := xx
    have J : Inv X pins σ' H' sI := J'.ofTry ok
    have sky' : Sky B (X.env :: X.outer) a (Zc cls d) X.env.locals s'.heap := by rw [← hs]; exact sky
    show wpAny (model X.prog X.w) X.A (noteFrame (.ref a) X.env) _ _ _
    refine Sky.land Zc.steady hfr hf sky' fun h3 fl3 up3 => ?_
    have J3 : Inv X pins σ' H' { s' with heap := h3 } := J.landed nb fl3.1 (up.trans up3) os ag
    obtain ⟨oe3, vs3, he3, hz3, hd3⟩ := fl3.there
    have nfr : a ∉ frs (X.env :: X.outer) := fun hm => by
      obtain ⟨_, o', e', hnf⟩ := fl3.2.2.1.mem hm
      rw [he3] at e'; cases e'
      exact hnf _ hd3
    have nL : a ≠ X.env.locals := fun z => nfr (List.mem_filterMap.mpr ⟨X.env, List.mem_cons_self, by rw [hf, z]⟩)
    have nF : a ∉ X.fs := fun hm => by
      obtain ⟨e, he, q⟩ := List.mem_filterMap.mp hm
      exact nfr (List.mem_filterMap.mpr ⟨e, List.mem_cons_of_mem _ he, q⟩)
    have S3 := J3.suite he3 hd3 na nL nF
    have LT : PySem.W.Looks (model X.prog X.w) h3 (typeOf (.ref a)) cls := fun A Q E s k q => wpAny_typeOf_ref (k _ _ he3) (by rw [hz3.1]; exact q)
    have test : ∀ {x : Str} {c : Value} {np : Pos} {Q : Value → Shared → Prop} {E : Value → Shared → Prop}, Names X x c → Q c { s' with heap := h3 } → wpAny (model X.prog X.w) (X.A.mark (some (.ref a))) (eval (.Name x np) X.env) Q E { s' with heap := h3 } := fun {x c np Q E} hc q => by
      obtain ⟨hg, hdbg, hm | ⟨hm, hv, hnn⟩⟩ := hc
      · exact ld_glob (X := X.suite a ((a, oe3) :: (X.pn ++ pins))) S3 hg hm q hdbg
      · exact ld_blt (X := X.suite a ((a, oe3) :: (X.pn ++ pins))) S3 hg hm hv q hnn hdbg
    have go : ∀ {hds' : List ExceptHandler} {l' : List MixH}, MixOk X hds' l' → wMix X.K Wout D l' cls d σ' H' →
        wpAny (model X.prog X.w) X.A (handleBy (.ref a) X.env hds') (SP X pins D) X.xe { s' with heap := h3 } := by
      intro hds' l' hk
      induction hk with
      | nil =>
        intro w
        refine wpAny_handleBy_nil ?_
        obtain ⟨k1, k2, k3, oe, vs, T, oT, ts', he, hz, hd, h1, hr⟩ := id fl3
        unfold PySem.passOn
        refine wpAny_bind (wpAny_field he hd h1 ?_)
        rw [if_neg (show ¬ ((Value.ref T == Value.none) = true) from by simp)]
        have fin : wpAny (model X.prog X.w) X.A (setFlight (.ref a) X.env.frame) (fun _ s4 => wpAny (model X.prog X.w) X.A (throw (.ref a) : Sem Flow) (SP X pins D) X.xe s4) X.xe { s' with heap := h3 } := by
          rw [hf]
          refine HandSPX.setFlight_upZ fl3 fun h4 hh4 up4 => wpAny_throw (tk _ _ ?_)
          exact ⟨a, B, sI, pins, σ', H', cls, d, rfl, J, nb, (up.trans up3).trans up4, .inr (.inr (by rw [hs]; exact hh4)), na, os, ag, w⟩
        first
          | exact wpAny_bind (wpAny_pure (wpAny_bind fin))
          | exact wpAny_bind fin
      | @cons x c ts b₀ suite np pos' hds2 l2 hc hsu r ih =>
        rintro ⟨b, hb1, hyes, hno⟩
        refine wpAny_handleBy_cons (codeAny_handlers_test ?_) (by intro q; cases q)
        refine test hc ((PySem.W.exm_one (M := model X.prog X.w) J3.kIn LT hb1).here ?_)
        cases b with
        | false => exact ih (hno rfl)
        | true =>
          refine codeAny_handlers_suite ?_
          refine HandSPX.lands_againZ fl3 fun h4 fl4 up4 => ?_
          have J4 : Inv X pins σ' H' { s' with heap := h4 } := J.landed nb fl4.1 ((up.trans up3).trans up4) os ag
          obtain ⟨oe4, vs4, he4, hz4, hd4⟩ := fl4.there
          have S4 := J4.suite he4 hd4 na nL nF
          refine wpAny_mono ((hsu a oe4 cls d (X.pn ++ pins) hz4 ⟨_, hd4⟩).run [] _ _ H' _ S4 (hyes rfl a na)) (fun f s6 hsp => ?_) (fun _ _ z => False.elim z)
          cases f with
          | ret u =>
            obtain ⟨v6, σ6, H6, S6, r6, q6⟩ := hsp
            exact ⟨_, _, _, S6.unsuite ok, r6, q6⟩
          | _ =>
            obtain ⟨σ6, H6, S6, q6⟩ := hsp
            exact ⟨_, _, S6.unsuite ok, q6⟩
      | @named x n c i ts b₀ suite np pos' hds2 l2 hc hi hln hsu r ih =>
        rintro ⟨b, hb1, hyes, hno⟩
        refine wpAny_handleBy_cons (codeAny_handlers_test ?_) (by intro q; cases q)
        refine test hc ((PySem.W.exm_one (M := model X.prog X.w) J3.kIn LT hb1).here ?_)
        cases b with
        | false => exact ih (hno rfl)
        | true =>
          refine codeAny_handlers_suite_as ?_
          refine HandSPX.lands_againZ fl3 fun h4 fl4 up4 => ?_
          have J4 : Inv X pins σ' H' { s' with heap := h4 } := J.landed nb fl4.1 ((up.trans up3).trans up4) os ag
          obtain ⟨oe4, vs4, he4, hz4, hd4⟩ := fl4.there
          have S4 := J4.suite he4 hd4 na nL nF
          refine store_ok (X := X.suite a ((a, oe4) :: (X.pn ++ pins))) (v := .ref a) S4 hN hi (.inl hln) rfl (fun s5 S5 => ?_) (.inr hln)
          refine wpAny_mono ((hsu a oe4 cls d (X.pn ++ pins) hz4 ⟨_, hd4⟩).run [] s5 _ H' _ S5 (hyes rfl a na)) (fun f s6 hsp => ?_) (fun _ _ z => False.elim z)
          have end_ : ∀ {σ6 : St} {H6 : Hp} {Q : Shared → Prop}, Inv (X.suite a ((a, oe4) :: (X.pn ++ pins))) [] σ6 H6 s6 → (∀ s7, Inv X pins (σ6.set i none) H6 s7 → Q s7) →
              wpAny (model X.prog X.w) X.A (do bindName X.env n .none; unbindBehindTheSuite X.env n pos') (fun _ s7 => Q s7) X.xe s6 := fun {σ6 H6 Q} S6 hq => gone_ok (S6.unsuite ok) hN hi hln hq
          cases f with
          | ret u =>
            obtain ⟨v6, σ6, H6, S6, r6, q6⟩ := hsp
            exact end_ S6 fun s7 J7 => ⟨_, _, _, J7, r6, q6⟩
          | _ =>
            obtain ⟨σ6, H6, S6, q6⟩ := hsp
            exact end_ S6 fun s7 J7 => ⟨_, _, J7, q6⟩
    exact go hh w
  · cases f with
    | next =>
      obtain ⟨σ', H', J', q⟩ := hsp
      exact wpAny_execs_nil ⟨σ', H', J'.ofTry ok, q⟩
    | ret u =>
      obtain ⟨v, σ', H', J', r, q⟩ := hsp
      exact ⟨v, σ', H', J'.ofTry ok, r, q⟩
    | _ =>
      obtain ⟨σ', H', J', q⟩ := hsp
      exact ⟨σ', H', J'.ofTry ok, q⟩
end
end L2
namespace DL
open PySem PySem.Spec PyProof.Rows L2
abbrev EndsD.unset (Dd : EndsD) (i : Nat) : EndsD := { nx := fun γ2 => Dd.nx (γ2.set i .any), rt := Dd.rt, bk := fun γ2 => Dd.bk (γ2.set i .any), ct := fun γ2 => Dd.ct (γ2.set i .any) }
abbrev MixD := Addr × (WS ⊕ (Nat × (Addr → List (Str × D) → WS)))
inductive DHmx (X : Xb) : List ExceptHandler → List MixH → List MixD → Prop
  | nil : DHmx X [] [] []
  | cons {x : Str} {C : Addr} {ts : Addr → Value → Option Addr → TS} {w : WS} {b₀ : Stmt} {suite : List Stmt} {np pos' : Pos} {hds : List ExceptHandler} {l : List MixH} {wl : List MixD} (hg : X.mg x = some (.ref C))
      (hsu : ∀ (a : Addr) (oe : Obj) (cls : Value) (d : Option Addr) (pn : List (Addr × Obj)), Zc cls d oe → (∃ vs, oe.data = .fields vs) → DSs (X.sn a oe pn) (b₀ :: suite) (ts a cls d) w) (r : DHmx X hds l wl) (hgl : Gl X x := by rfl) (hdb : (x == ("__debug__" : Str)) = false := by decide) :
      DHmx X (.ExceptHandler (some (.Name x np)) none (b₀ :: suite) pos' :: hds) ((.ref C, none, ts) :: l) ((C, .inl w) :: wl)
  | named {x n : Str} {C : Addr} {i : Nat} {ts : Addr → Value → Option Addr → TS} {wsu : Addr → List (Str × D) → WS} {b₀ : Stmt} {suite : List Stmt} {np pos' : Pos} {hds : List ExceptHandler} {l : List MixH} {wl : List MixD} (hex : PySem.W.exmOne X.K (.ref C) (.ref C) = some true) (hg : X.mg x = some (.ref C))
      (hsu : ∀ (a : Addr) (oe : Obj) (cls : Value) (d : Option Addr) (pn : List (Addr × Obj)) (fs : List (Str × D)), Zc cls d oe → (∃ vs, oe.data = .fields vs) → DSs (X.su a oe pn cls C d fs) (b₀ :: suite) (ts a cls d) (wsu a fs)) (r : DHmx X hds l wl)
      (hi : X.N[i]? = some n := by rfl) (hln : X.env.kindOf n = some .local := by rfl) (hgl : Gl X x := by rfl) (hdb : (x == ("__debug__" : Str)) = false := by decide) :
      DHmx X (.ExceptHandler (some (.Name x np)) (some n) (b₀ :: suite) pos' :: hds) ((.ref C, some i, ts) :: l) ((C, .inr (i, wsu)) :: wl)
def mixD (K : PySem.W.Frag) (dX : Addr → List (Str × D) → List Sl → Prop) (Dd : EndsD) : List MixD → Addr → List (Str × D) → List Sl → Prop
  | [] => dX
  | (C, .inl w) :: r => fun C' fs γ => ∃ b, PySem.W.exmOne K (.ref C') (.ref C) = some b ∧ (b = true → w Dd γ) ∧ (b = false → mixD K dX Dd r C' fs γ)
  | (C, .inr (i, wsu)) :: r => fun C' fs γ => (C' = C ∧ ∀ a, wsu a fs (EndsD.unset Dd i) (γ.set i (.val (.ref a)))) ∨ (PySem.W.exmOne K (.ref C') (.ref C) = some false ∧ mixD K dX Dd r C' fs γ)
def dTryMix (K : PySem.W.Frag) (wl : List MixD) (wb : (Addr → List (Str × D) → List Sl → Prop) → WS) (dX : Addr → List (Str × D) → List Sl → Prop) : WS := fun Dd γ => wb (mixD K dX Dd wl) Dd γ
theorem DHmx.ok {X : Xb} {hds : List ExceptHandler} {l : List MixH} {wl : List MixD} (h : DHmx X hds l wl) : MixOk X.c hds l := by
  induction h with
  | nil => exact .nil
  | cons hg hsu r hgl hdb ih => exact .cons ⟨hgl, hdb, .inl hg⟩ (fun a oe cls d pn hz hd => (hsu a oe cls d pn hz hd).ps) ih
  | named hex hg hsu r hi hln hgl hdb ih => exact .named ⟨hgl, hdb, .inl hg⟩ hi hln (fun a oe cls d pn hz hd => (hsu a oe cls d pn [] hz hd).ps) ih
section
variable {X : Xb} {body : List Stmt} {h₀ : ExceptHandler} {hds : List ExceptHandler} {pos : Pos} {tb : WX → TS} {wb : (Addr → List (Str × D) → List Sl → Prop) → WS} {l : List MixH} {wl : List MixD}
theorem ds_tryMix (tk : L2.Takes X.c X.W)
    (hb : ∀ (W : WX) (dX' : Addr → List (Str × D) → List Sl → Prop) (pn : List (Addr × Obj)) (xe : Value → Shared → Prop), L2.Takes (X.c.tr pn xe) W → DSs ⟨X.c.tr pn xe, W, dX'⟩ body (tb W) (wb dX'))
    (hh : DHmx X (h₀ :: hds) l wl) (hN : X.N.Nodup) (hs : X.stack = X.env :: X.outer := by rfl) (hf : X.env.frame = some X.env.locals := by rfl) :
    DS0 X (.Try body (h₀ :: hds) [] [] pos) (fun D σ H => tb (wMix X.K X.W D l) D σ H) (dTryMix X.K wl wb X.dX) := by
  refine ⟨ps_try_mix hs hf hN tk (fun W pn xe t1 _ => (hb W (fun _ _ _ => False) pn xe t1).ps) hh.ok, ⟨fun B S0 S H σ γ Dd D hfr R e L q => ?_⟩⟩
  have hB := (hb (wMix X.K X.W D l) (mixD X.K X.dX Dd wl) X.c.pn (fun _ _ => True) (fun _ _ _ => trivial)).ss
  have hcore : B.core = B := by
    obtain ⟨H0, S0', mu, fr, SP⟩ := B
    have : fr = [] := hfr
    subst this
    rfl
  refine hB.run B S S H σ γ Dd D ⟨R.r, fun S' H' σ' γ' C' fs d e1 r0 ed q' => ?_⟩ (Same.refl S) ⟨fun S2 H2 σ2 γ2 k R2 q => L.nx S2 H2 σ2 γ2 (e.trans k) ⟨R2.r, R.x.mono k⟩ q, fun S2 H2 σ2 γ2 v r k R2 rv q => L.rt S2 H2 σ2 γ2 v r (e.trans k) ⟨R2.r, R.x.mono k⟩ rv q, fun S2 H2 σ2 γ2 k R2 q => L.bk S2 H2 σ2 γ2 (e.trans k) ⟨R2.r, R.x.mono k⟩ q, fun S2 H2 σ2 γ2 k R2 q => L.ct S2 H2 σ2 γ2 (e.trans k) ⟨R2.r, R.x.mono k⟩ q⟩ q
  have r1 := r0
  rw [hcore] at r1
  have go : ∀ {hds' : List ExceptHandler} {l' : List MixH} {wl' : List MixD}, DHmx X hds' l' wl' → mixD X.K X.dX Dd wl' C' fs γ' → wMix X.K X.W D l' (.ref C') d σ' H' := by
    intro hds' l' wl' hk
    induction hk with
    | nil => exact fun q' => R.x S' H' σ' γ' C' fs d e1 r0 ed q'
    | cons hg hsu r hgl hdb ih =>
      rintro ⟨b, hex, q1, q2⟩
      refine ⟨b, hex, fun z a ha => ?_, fun z => ih (q2 z)⟩
      have hS := (hsu a { cls := .ref C', dict := d, data := .fields #[] } (.ref C') d [] ⟨rfl, rfl⟩ ⟨_, rfl⟩).ss
      exact hS.run B S' S' H' σ' γ' Dd D ⟨r1, fun _ _ _ _ _ _ _ _ _ _ _ => trivial⟩ (Same.refl S') ⟨fun S2 H2 σ2 γ2 k R2 q => L.nx S2 H2 σ2 γ2 (e.trans (e1.trans k)) ⟨R2.r, R.x.mono (e1.trans k)⟩ q, fun S2 H2 σ2 γ2 v r k R2 rv q => L.rt S2 H2 σ2 γ2 v r (e.trans (e1.trans k)) ⟨R2.r, R.x.mono (e1.trans k)⟩ rv q, fun S2 H2 σ2 γ2 k R2 q => L.bk S2 H2 σ2 γ2 (e.trans (e1.trans k)) ⟨R2.r, R.x.mono (e1.trans k)⟩ q, fun S2 H2 σ2 γ2 k R2 q => L.ct S2 H2 σ2 γ2 (e.trans (e1.trans k)) ⟨R2.r, R.x.mono (e1.trans k)⟩ q⟩ (q1 z)
    | @named x n C i ts wsu b₀ suite np pos' hds2 l2 wl2 hex hg hsu r hi hln hgl hdb ih =>
      rintro (⟨rfl, q1⟩ | ⟨hne, q1⟩)
      · refine ⟨true, hex, fun _ a ha => ?_, fun z => Bool.noConfusion z⟩
        have hS := (hsu a { cls := .ref C', dict := d, data := .fields #[] } (.ref C') d [] fs ⟨rfl, rfl⟩ ⟨_, rfl⟩).ss
        refine hS.run B S' S' H' (σ'.set i (some (.ref a))) (γ'.set i (.val (.ref a))) (EndsD.unset Dd i) _ ⟨r1.set ⟨_, rfl, .ref a⟩ rfl, fun S2 H2 σ2 γ2 C2 fs2 d2 k2 R2 ed2 _ => ⟨rfl, ed.elim (fun h => .inl h.1) (fun ⟨dd, ws, e, hs, _⟩ => .inr ⟨dd, ws, e, let ⟨φ, r2⟩ := R2; r2.same _ _ (k2 _ _ hs)⟩), fun f z hz fl => ?_⟩⟩ (Same.refl S') ⟨fun S2 H2 σ2 γ2 k R2 q => L.nx S2 H2 (σ2.set i none) (γ2.set i .any) (e.trans (e1.trans k)) ⟨R2.r.forget, R.x.mono (e1.trans k)⟩ q, fun S2 H2 σ2 γ2 v r k R2 rv q => L.rt S2 H2 σ2 γ2 v r (e.trans (e1.trans k)) ⟨R2.r, R.x.mono (e1.trans k)⟩ rv q, fun S2 H2 σ2 γ2 k R2 q => L.bk S2 H2 (σ2.set i none) (γ2.set i .any) (e.trans (e1.trans k)) ⟨R2.r.forget, R.x.mono (e1.trans k)⟩ q, fun S2 H2 σ2 γ2 k R2 q => L.ct S2 H2 (σ2.set i none) (γ2.set i .any) (e.trans (e1.trans k)) ⟨R2.r.forget, R.x.mono (e1.trans k)⟩ q⟩ (q1 a)
        rcases ed with ⟨_, ed⟩ | ⟨dd, ws, ed, hs, hf⟩
        · rw [ed] at hz; cases hz
        · obtain ⟨v, hv, dn⟩ := hf f z hz
          obtain ⟨φ, r2⟩ := R2
          exact ⟨dd, ws, v, ed, r2.same _ _ (k2 _ _ hs), hv, fun S => dn.flat fl⟩
      · exact ⟨false, hne, fun z => Bool.noConfusion z, fun _ => ih q1⟩
  exact go hh q'
instance {K : PySem.W.Frag} {γ : List Sl} {Dd : EndsD} {wl : List MixD} {wb : (Addr → List (Str × D) → List Sl → Prop) → WS} {dX : Addr → List (Str × D) → List Sl → Prop} : Go (dTryMix K wl wb dX Dd γ) (wb (mixD K dX Dd wl) Dd γ) := ⟨fun z => z⟩
end
end DL
set_option Elab.async false
set_option linter.all false
set_option autoImplicit false
set_option maxRecDepth 100000
set_option maxHeartbeats 4000000
/-! DL49: calls with one keyword given and the other left out. -/
namespace DL
open PySem PySem.Spec PyProof.Rows L2
section
variable {X : Xb} {K : PySem.W.Frag} {f : Addr} {fd : FuncData} {ps ks : List Str} {k n m : Nat} {x : Str} {e : Expr} {es : List Expr} {kws : List Keyword} {t tk : TA} {w wk : WA} {p pos : Pos} {s : SpecX} {gu : List Value → List Value → List Value} {gv : List V → List V → List V} {gd : List D → List D → List D}
def dCallKG (n m : Nat) (gd : List D → List D → List D) (s : SpecX) (dX : Addr → List (Str × D) → List Sl → Prop) (w wk : WA) : WE := fun γ Q => w γ fun ds γ1 => wk γ1 fun es γ2 => ds.length = n ∧ es.length = m ∧ s.S (gd ds es) (fun r => Q r.val γ2) fun C fs => dX C fs γ2
instance {γ : List Sl} {Q : D → List Sl → Prop} {dX : Addr → List (Str × D) → List Sl → Prop} : Go (dCallKG n m gd s dX w wk γ Q) (w γ fun ds γ1 => wk γ1 fun es γ2 => ds.length = n ∧ es.length = m ∧ s.S (gd ds es) (fun r => Q r.val γ2) fun C fs => dX C fs γ2) := ⟨fun z => z⟩
end
/-- bound with the defaults dvs ahead of the keywords given -/
structure KgF (K : PySem.W.Frag) (fd : FuncData) (ps : List Str) (n : Nat) (ks : List Str) (dvs : List V) : Type where
  mv : List Value
  kb : KBn K fd ps n ks (fun us ws => us ++ (mv ++ ws)) (fun vs zs => vs ++ (dvs ++ zs))
/-- bound with the defaults dvs behind the keywords given -/
structure KgB (K : PySem.W.Frag) (fd : FuncData) (ps : List Str) (n : Nat) (ks : List Str) (dvs : List V) : Type where
  mv : List Value
  kb : KBn K fd ps n ks (fun us ws => us ++ (ws ++ mv)) (fun vs zs => vs ++ (zs ++ dvs))
end DL
set_option Elab.async false
set_option linter.all false
set_option autoImplicit false
set_option maxRecDepth 100000
set_option maxHeartbeats 4000000
/-! DL50: insert into a list of one's own. -/
namespace DL
open PySem PySem.Spec PyProof.Rows L2
abbrev rIns : V → List V → Hp → (V → Hp → Prop) → Prop := fun x vs H Q => ∃ (l : Addr) (xs : List V) (i : Int) (y : V), x = .ref l ∧ vs = [.int i, y] ∧ H l = some (.lst xs) ∧ xs.length < sizeLine ∧ 0 ≤ i ∧ i < 2 ^ 63 ∧
    Q .non (upd H l (.lst (xs.take i.toNat ++ [y] ++ xs.drop i.toNat)))
section
variable {X : Xb} {e o : Expr} {te to : TE} {we wo : WE} {pos : Pos}
def dIns (i : Nat) (wo we : WE) : WS := fun Dd γ => (∃ m ds, γ[i]? = some (.own m ds)) ∧ wo γ fun y γ1 => we γ1 fun d γ2 => ∃ n m ds, y = .int n ∧ γ2[i]? = some (.own m ds) ∧ ds.length < sizeLine ∧ (0 ≤ n ∧ n < 2 ^ 63) ∧ (m = true → flat d) ∧ Dd.nx (γ2.set i (.own m (ds.take n.toNat ++ [d] ++ ds.drop n.toNat)))
theorem ds_ins (K' : PySem.W.Frag) (i : Nat) {x : Str} {px p1 p2 : Pos} (hpe : PE X o to → PE X e te → PE X (.Call (.Attribute (.Name x px) "insert" p1) [o, e] [] p2) (tBM X.K "list" rIns (tVar i) (tCons to (tCons te tNil)))) (ho : DE X o to wo) (h : DE X e te we)
    (hs : swapsWith (.Call (.Attribute (.Name x px) "insert" p1) [o, e] [] p2) none pos.line X.env = pure false := by rfl) (hK : X.K = K' := by rfl) : DS X (.Expr (.Call (.Attribute (.Name x px) "insert" p1) [o, e] [] p2) pos) (tDrop (tBM K' "list" rIns (tVar i) (tCons to (tCons te tNil)))) (dIns i wo we) := by
  subst hK
  refine ⟨ps_expr (hpe ho.pe h.pe) hs, ⟨fun B S0 S H σ γ Dd D R e0 L ⟨⟨m0, ds0, g0⟩, q⟩ => ?_⟩⟩
  obtain ⟨p0, xs0, f0, f1, f2, f3⟩ := R.sl i _ g0
  refine ⟨_, f0, .inl ⟨rfl, _, SqL.of f2⟩, ?_⟩
  refine ho.se.run B S H σ γ _ R (ho.se.mono γ _ _ (fun y γ1 q v1 S1 H1 R1 e1 d1 => ?_) q)
  refine h.se.run B S1 H1 σ γ1 _ R1 (h.se.mono γ1 _ _ (fun d γ2 ⟨n, m, ds, ey, k1, k2, ⟨n0, n1⟩, kf, q2⟩ v S2 H2 R2 e2 d2 => ?_) q)
  subst ey
  cases d1
  obtain ⟨p, xs, g1, g2, g3, g4, g5⟩ := R2.sl i _ k1
  rw [f0] at g1
  cases g1
  exact ⟨p0, xs, n, v, rfl, rfl, g3, by rw [g4.1]; exact k2, n0, n1, L.nx S2 _ σ _ (e0.trans (e1.trans e2)) (R2.chg k1 f0 ((((own_old g4 g5).take _).snoc (own_den (S1 := S2) d2 kf)).append ((own_old g4 g5).drop _))) q2⟩
theorem i_ins {γ : List Sl} {Dd : EndsD} {ds : List D} {i : Nat} {mm : Bool} (g : γ[i]? = some (.own mm ds)) (q : wo γ fun y γ1 => we γ1 fun d γ2 => ∃ n m ds, y = .int n ∧ γ2[i]? = some (.own m ds) ∧ ds.length < sizeLine ∧ (0 ≤ n ∧ n < 2 ^ 63) ∧ (m = true → flat d) ∧ Dd.nx (γ2.set i (.own m (ds.take n.toNat ++ [d] ++ ds.drop n.toNat)))) : dIns i wo we Dd γ := ⟨⟨_, _, g⟩, q⟩
end
end DL
set_option Elab.async false
set_option linter.all false
set_option autoImplicit false
set_option maxRecDepth 100000
set_option maxHeartbeats 4000000
/-! DL51: calls of defs that may raise and tell a new list. -/
namespace DL
open PySem PySem.Spec PyProof.Rows L2
section
variable {X : Xb} {K : PySem.W.Frag} {f : Addr} {fd : FuncData} {ps : List Str} {k : Nat} {x : Str} {e : Expr} {es : List Expr} {t : TA} {w : WA} {p pos : Pos}
def dCallXF (s : SpecX) (dX : Addr → List (Str × D) → List Sl → Prop) (w : WA) : WF := fun γ Q => w γ fun ds γ1 => s.S ds (fun r => ∃ es, r = .f es ∧ Q es γ1) fun C fs => dX C fs γ1
end
section
variable {s : SpecX} {dX : Addr → List (Str × D) → List Sl → Prop} {w : WA} {γ : List Sl} {Q : List D → List Sl → Prop}
instance : Go (dCallXF s dX w γ Q) (w γ fun ds γ1 => s.S ds (fun r => ∃ es, r = .f es ∧ Q es γ1) (fun C fs => dX C fs γ1)) := ⟨fun z => z⟩
end
end DL
set_option Elab.async false
set_option linter.all false
set_option autoImplicit false
set_option maxRecDepth 100000
set_option maxHeartbeats 4000000
/-! DL52: pop(k) of a list of one's own; sorted of few ints. -/
namespace DL
open PySem PySem.Spec PyProof.Rows L2
section
variable {X : Xb} {e a : Expr} {te ta : TE} {we wa : WE} {pos p : Pos}
/-- xs.pop(e), xs of one's own, no index from behind -/
def dPopO (i : Nat) (we : WE) : WE := fun γ Q => (∃ m ds, γ[i]? = some (.own m ds)) ∧ we γ fun d γ1 => ∃ (n : Int) (m : Bool) (ds : List D) (y : D), d = .int n ∧ γ1[i]? = some (.own m ds) ∧ (0 ≤ n ∧ n < 2 ^ 63) ∧ ds[n.toNat]? = some y ∧ Q y (γ1.set i (.own m (ds.eraseIdx n.toNat)))
/-- sorted(e), e a list of less than 64 ints -/
def dSorted (wa : WE) : WF := fun γ Q => wa γ fun x γ1 => ∃ ns : List Int, x = .lst (ns.map D.int) ∧ ns.length < 64 ∧ ∀ ns' : List Int, ns'.Perm ns → ns'.Pairwise (· ≤ ·) → Q (ns'.map D.int) γ1
end
section
variable {γ : List Sl} {i : Nat} {Q : D → List Sl → Prop} {QF : List D → List Sl → Prop} {we : WE}
instance : GoH2 (dPopO i we γ Q) (∃ m ds, γ[i]? = some (.own m ds) ∧ we γ fun d γ1 => ∃ (n : Int) (m : Bool) (ds : List D) (y : D), d = .int n ∧ γ1[i]? = some (.own m ds) ∧ (0 ≤ n ∧ n < 2 ^ 63) ∧ ds[n.toNat]? = some y ∧ Q y (γ1.set i (.own m (ds.eraseIdx n.toNat)))) := ⟨fun ⟨_, _, g, q⟩ => ⟨⟨_, _, g⟩, q⟩⟩
instance : Go (dSorted we γ QF) (we γ fun x γ1 => ∃ ns : List Int, x = .lst (ns.map D.int) ∧ ns.length < 64 ∧ ∀ ns' : List Int, ns'.Perm ns → ns'.Pairwise (· ≤ ·) → QF (ns'.map D.int) γ1) := ⟨fun z => z⟩
end
end DL
set_option Elab.async false
set_option linter.all false
set_option autoImplicit false
set_option maxRecDepth 100000
set_option maxHeartbeats 4000000
/-! DL53: generators: a for loop in a generator's body, list(g(..)). -/
namespace DL
open PySem PySem.Spec PyProof.Rows L2 GenW
/-! a for loop in a generator's body -/
def tGFor (wi : TI) (g : TG) (tb : TGn) : TGn := fun D ys σ H => wi σ H fun J H1 => ∃ W : Nat → Nat → List V → L2.St → Hp → Prop, (∃ m, W 0 m ys σ H1) ∧ ∀ i m ys σ H, W i m ys σ H →
  (J.stop i H ∧ D.nx ys σ H) ∨ (J.go i H ∧ ∃ N : List V → L2.St → Hp → Prop, (∀ ys' σ' H', N ys' σ' H' → ∃ m', m' < m ∧ W (i + 1) m' ys' σ' H') ∧ ∀ x H', J.yld i H x H' → g x σ H' fun σ2 H2 => tb { D with nx := N, ct := N, bk := D.nx } ys σ2 H2)
section
variable {X : Cx} {tg iter : Expr} {body : List Stmt}
end
end DL

namespace DL
open PySem PySem.Spec PyProof.Rows L2 GenW
/-- a generator def's promise: what it hands out; then it ends -/
structure SpecY where
  S : List D → (List D → Prop) → Prop
  mono : ∀ ds P P', (∀ r, P r → P' r) → S ds P → S ds P'
def spY (K : PySem.W.Frag) (s : SpecY) : SpG := fun vs H Q _ => ∃ S ds, Same S H ∧ DenL S vs ds ∧ s.S ds fun out => ∀ ys S' H', Rel0 K ⟨H, S, [], [], emptyH⟩ S' H' [] [] → DenL S' ys out → Q ys H'

abbrev WY := (List D → List Sl → Prop) → List D → List Sl → Prop
structure SY (X : Xb) (t : TGn) (w : WY) : Prop where
  run : ∀ B S0 S H σ γ (nx : List D → List Sl → Prop) (D : GEnds) ys out, Rel X B S H σ γ → Same S0 S → DenL S ys out → (∀ S' H' σ' γ' ys' out', Same S0 S' → Rel X B S' H' σ' γ' → DenL S' ys' out' → nx out' γ' → D.nx ys' σ' H') → w nx out γ → t D ys σ H
structure DY (X : Xb) (st : Stmt) (t : TGn) (w : WY) : Prop where
  gs : GS X st t
  sy : SY X t w
structure DYs (X : Xb) (st : List Stmt) (t : TGn) (w : WY) : Prop where
  gs : GSs X st t
  sy : SY X t w
section
variable {X : Xb} {st : Stmt} {rest : List Stmt} {e : Expr} {te : TE} {we : WE} {pos yp : Pos}
def yPlain (w : WS) : WY := fun nx out γ => w { nx := fun γ' => nx out γ', rt := fun _ _ => False } γ
def yYield (we : WE) : WY := fun nx out γ => out.length < sizeLine ∧ we γ fun d γ' => nx (out ++ [d]) γ'
def yNil : WY := fun nx out γ => nx out γ
def ySeq (w w' : WY) : WY := fun nx out γ => w (w' nx) out γ
def yFor (wi : WA) (wg : WG) (wb : WY) : WY := fun nx out γ => wi γ fun ds γ1 => ∃ I : Nat → List D → List Sl → Prop, I 0 out γ1 ∧ (∀ i d out γ, ds[i]? = some d → I i out γ → wg d γ fun γ2 => wb (I (i + 1)) out γ2) ∧ ∀ out γ, I ds.length out γ → nx out γ
end
/-! ### the def -/
section
variable {P : Program} {w : World} {K : PySem.W.Frag} {mg : Str → Option Value} {base : Heap} {x qual : Str} {st : Stmt} {f : Addr} {fd : FuncData} {N ps : List Str} {k : Nat}
end
/-! ### list(g(..)) -/
def tCallGN (n m : Nat) (sp : SpG) (gV : List V → List V → List V) (E : XK) (t tk : TA) : TGen := fun σ H cont => t σ H fun vs H1 => tk σ H1 fun zs H2 => vs.length = n ∧ zs.length = m ∧ sp (gV vs zs) H2 cont E
section
variable {X : Cx} {k n : Nat} {f : Addr} {fd : FuncData} {ps ks : List Str} {sp : SpG} {E : XK} {x : Str} {p pos : Pos} {e : Expr} {es : List Expr} {kws : List Keyword} {t tk : TA} {g : List Value → List Value → List Value} {gV : List V → List V → List V}
end
section
variable {X : Xb} {K : PySem.W.Frag} {f : Addr} {fd : FuncData} {ps ks : List Str} {k n : Nat} {x nm : Str} {e : Expr} {es : List Expr} {t tk : TA} {w wk : WA} {p p2 pos pos2 : Pos} {kws : List Keyword} {s : SpecY}
def dListG (n m : Nat) (s : SpecY) (w wk : WA) : WF := fun γ Q => w γ fun ds γ1 => wk γ1 fun es γ2 => ds.length = n ∧ es.length = m ∧ s.S (ds ++ es) fun out => Q out γ2
end
end DL
namespace DL
open PySem PySem.Spec PyProof.Rows L2
section
variable {nx : List D → List Sl → Prop} {out : List D} {γ : List Sl} {w w' : WY} {ws : WS} {we : WE} {wi : WA} {wg : WG} {wb : WY}
instance : Go (ySeq w w' nx out γ) (w (w' nx) out γ) := ⟨fun z => z⟩
instance : Go (yPlain ws nx out γ) (ws { nx := fun γ' => nx out γ', rt := fun _ _ => False } γ) := ⟨fun z => z⟩
instance : Go (yNil nx out γ) (nx out γ) := ⟨fun z => z⟩
instance : Go (yFor wi wg wb nx out γ) (wi γ fun ds γ1 => ∃ I : Nat → List D → List Sl → Prop, I 0 out γ1 ∧ (∀ i d out γ, ds[i]? = some d → I i out γ → wg d γ fun γ2 => wb (I (i + 1)) out γ2) ∧ ∀ out γ, I ds.length out γ → nx out γ) := ⟨fun z => z⟩
end
section
variable {n m : Nat} {s : SpecY} {w wk : WA} {γ : List Sl} {Q : List D → List Sl → Prop}
instance : Go (dListG n m s w wk γ Q) (w γ fun ds γ1 => wk γ1 fun es γ2 => ds.length = n ∧ es.length = m ∧ s.S (ds ++ es) fun out => Q out γ2) := ⟨fun z => z⟩
end
end DL
set_option Elab.async false
set_option linter.all false
set_option autoImplicit false
set_option maxRecDepth 100000
set_option maxHeartbeats 4000000
/-! DL54: boxes: a list lent as a value, walks over lists in boxes, clear, instances frozen; methods and constructors with promises about boxes. -/
namespace DL
open PySem PySem.Spec PyProof.Rows L2
theorem DenL.flats {S S' : Hp} {xs : List V} {ds : List D} (h : DenL S xs ds) (f : flats ds) : DenL S' xs ds :=
  ⟨h.1, fun i x d h1 h2 => (h.2 i x d h1 h2).flat (f d (List.mem_of_getElem? h2))⟩
section
variable {X : Xb} {K : PySem.W.Frag} {B : Bs} {S H : Hp} {σ : L2.St} {γ : List Sl} {i h : Nat} {es : List D} {q : Addr} {m : Bool} {L : Bxs}
theorem Rel.lendR (R : Rel X B S H σ γ) (g : γ[i]? = some (.val (.ref q))) (g2 : γ[h]? = some (.hp m L)) (l : L q = some (.lst es)) : ∃ S', Same S S' ∧ Rel0 X.K ⟨H, S', [], [], emptyH⟩ S' H σ ((lentS γ).set i (.val (.lst es))) := by
  obtain ⟨v, e1, d1⟩ := R.sl i _ g
  cases d1
  obtain ⟨xs, h1, d2⟩ := R.boxL g2 l
  have s1 := (R.boxAt g2 l).1
  obtain ⟨φ, r⟩ := R.r
  have hS : Same S (upd S q (.lst xs)) := Same.upd (Same.refl S) s1
  exact ⟨_, hS, r.lendG hS (Same.updL r.same h1) e1 (.ofL upd_same (d2.mono hS))⟩
/-- behind something that has changed nothing that stood, the stable heap as it was -/
theorem Rel.backN {S' S1 H1 : Hp} {γ1 : List Sl} (R : Rel X B S H σ γ) (C : Rel0 K ⟨H, S', [], [], emptyH⟩ S1 H1 σ γ1) : Rel0 K ⟨H, S, [], [], emptyH⟩ S H1 [] [] := by
  have hk : ∀ a o, H a = some o → H1 a = some o := fun a o e => C.keep a o e (by intro z; cases z)
  exact ⟨fun _ => emptyH, fun a o e => hk a o (R.same a o e), fun a o e _ => hk a o e, fun a ha => (by cases ha), Same.refl S, fun a o e => .inl e, rfl, fun j s e => (by simp at e), fun i a o e => (by cases e), fun i a o e => (by cases e), fun i j a o u _ e => (by cases e), fun i a o e => (by cases e), fun p o hp => (by cases hp), List.nodup_nil, fun a o e => (by cases e)⟩
end
section
variable {X : Xb} {e : Expr} {te : TE} {we : WE} {wf : WF} {tt : TT} {wt : WT} {sts : List Stmt} {t : TS} {w : WS} {pos : Pos}
def LendsR (γ : List Sl) (i h : Nat) (P : List Sl → Prop) : Prop := ∃ q es m L, γ[i]? = some (.val (.ref q)) ∧ γ[h]? = some (.hp m L) ∧ L q = some (.lst es) ∧ P ((lentS γ).set i (.val (.lst es)))
def dLendRT (i h : Nat) (wt : WT) : WT := fun γ Q => LendsR γ i h fun γ1 => wt γ1 fun b _ => Q b γ
theorem dt_lendR (i h : Nat) (k : DT X.noX e tt wt) : DT X e tt (dLendRT i h wt) := by
  refine ⟨k.pt, fun γ P P' kk ⟨q, es, m, L, g, g2, l, z⟩ => ⟨q, es, m, L, g, g2, l, k.st.mono _ _ _ (fun b γ1 z => kk _ _ z) z⟩, fun B S H σ γ Q R ⟨q, es, m, L, g, g2, l, z⟩ => ?_⟩
  obtain ⟨S', e1, R1⟩ := R.lendR g g2 l
  exact k.st.run _ S' H σ _ Q R1.no (k.st.mono _ _ _ (fun b γ1 z S1 H1 C e2 => z S H1 (R.backG C.r) (Same.refl S)) z)
def dLendRE (i h : Nat) (we : WE) : WE := fun γ Q => LendsR γ i h fun γ1 => we γ1 fun d _ => flat d ∧ Q d γ
def dLendRF (i h : Nat) (wf : WF) : WF := fun γ Q => LendsR γ i h fun γ1 => wf γ1 fun ds _ => flats ds ∧ Q ds γ
theorem df_lendR (i h : Nat) (k : DF X.noX e te wf) : DF X e te (dLendRF i h wf) := by
  refine ⟨k.pe, fun γ P P' kk ⟨q, es, m, L, g, g2, l, z⟩ => ⟨q, es, m, L, g, g2, l, k.sf.mono _ _ _ (fun b γ1 z => ⟨z.1, kk _ _ z.2⟩) z⟩, fun B S H σ γ Q R ⟨q, es, m, L, g, g2, l, z⟩ => ?_⟩
  obtain ⟨S', e1, R1⟩ := R.lendR g g2 l
  refine k.sf.run _ S' H σ _ Q R1.no (k.sf.mono _ _ _ (fun ds γ1 ⟨f, z⟩ p xs S1 H1 C e2 dn => ?_) z)
  obtain ⟨C1, c2, c3, c4⟩ := C.unfram
  have c4 : H p = none := c4
  exact z p xs S H1 (R.callN (R.backN C1.r) c4 c2 (R.freshS c4)) (Same.refl S) (dn.flats f)
/-! ### a walk over a list in a box -/
variable {tg iter a b : Expr} {body : List Stmt} {g : TG} {wg : WG} {tb : TS} {wb : WS} {p : Pos}
def OnBox (h : Nat) (q : Addr) (es : List D) (γ : List Sl) : Prop := ∃ m L, γ[h]? = some (.hp m L) ∧ L q = some (.lst es)
def dForB (h : Nat) (wi : WE) (wg : WG) (wb : WS) : WS := fun Dd γ => wi γ fun d γ1 => ∃ q es, d = .ref q ∧ OnBox h q es γ1 ∧ ∃ I : Nat → List Sl → Prop, I 0 γ1 ∧
  (∀ i d γ, es[i]? = some d → I i γ → OnBox h q es γ ∧ wg d γ fun γ2 => wb { Dd with nx := I (i + 1), ct := I (i + 1), bk := Dd.nx } γ2) ∧ ∀ γ, I es.length γ → OnBox h q es γ ∧ Dd.nx γ
theorem ds_forB (K' : PySem.W.Frag) (h : Nat) (hp : PassesOwn (model X.prog X.w) X.A X.env X.xe) (hc : X.calm = true) (hi : DE X iter te we) (hg : DG X tg g wg) (hb : DSs X body tb wb)
    (hs : ∀ x, foldedSetIterable iter X.env x = pure x := by intro _; rfl) (hK : X.K = K' := by rfl) : DS X (.For tg iter body [] pos) (tFor (iList K' te) g tb) (dForB h we wg wb) := by
  subst hK
  refine ⟨ps_for hp hc (pi_list hi.pe) hg.pg hb.ps hs, ⟨fun B S0 S H σ γ Dd D R e L0 z => ?_⟩⟩
  refine hi.se.run B S H σ γ _ R (hi.se.mono γ _ _ (fun d γ1 ⟨q, es, ed, ⟨m, L, g1, l1⟩, I, h0, hst, hd⟩ v S1 H1 R1 e1 d1 => ?_) z)
  subst ed
  obtain rfl := d1.ref_inv
  obtain ⟨xs, h1, d2⟩ := R1.boxL g1 l1
  refine ⟨q, rfl, ⟨xs, SqL.of h1⟩, fun i mm σ H => mm = es.length - i ∧ i ≤ es.length ∧ ∃ S2 γ2, Rel X B S2 H σ γ2 ∧ Same S1 S2 ∧ I i γ2, ⟨es.length, by simp, Nat.zero_le _, S1, γ1, R1, Same.refl S1, h0⟩, ?_⟩
  rintro i mm σ2 H2 ⟨rfl, hi2, S2, γ2, R2, e2, hI⟩
  by_cases hlt : i < es.length
  · obtain ⟨⟨m2, L2, g2, l2⟩, bd⟩ := hst i es[i] γ2 (List.getElem?_eq_getElem hlt) hI
    obtain ⟨xs2, h2, d3⟩ := R2.boxL g2 l2
    have hx2 : i < xs2.length := by rw [d3.1]; exact hlt
    refine .inr ⟨⟨xs2, xs2[i], SqL.of h2, List.getElem?_eq_getElem hx2⟩, fun σ' H' => i + 1 ≤ es.length ∧ ∃ S3 γ3, Rel X B S3 H' σ' γ3 ∧ Same S1 S3 ∧ I (i + 1) γ3, fun σ' H' q => ⟨_, by omega, rfl, q⟩, fun x H' y => ?_⟩
    obtain ⟨eH, y⟩ := y
    subst eH
    have dn := d3.2 i x es[i] (y xs2 (SqL.of h2)) (List.getElem?_eq_getElem hlt)
    refine hg.sg.run B S2 H' σ2 γ2 x _ _ R2 dn (hg.sg.mono _ _ _ _ (fun γ4 bd σ4 R4 => ?_) bd)
    have e6 : Same S0 S1 := e.trans e1
    refine hb.ss.run B S2 S2 H' σ4 γ4 { Dd with nx := I (i + 1), ct := I (i + 1), bk := Dd.nx } _ R4 (Same.refl S2) ⟨fun S6 H6 σ6 γ6 k R6 q => ⟨hlt, S6, γ6, R6, e2.trans k, q⟩, fun S6 H6 σ6 γ6 v r k R6 rv q => L0.rt S6 H6 σ6 γ6 v r (e6.trans (e2.trans k)) R6 rv q, fun S6 H6 σ6 γ6 k R6 q => L0.nx S6 H6 σ6 γ6 (e6.trans (e2.trans k)) R6 q, fun S6 H6 σ6 γ6 k R6 q => ⟨hlt, S6, γ6, R6, e2.trans k, q⟩⟩ bd
  · have e' : i = es.length := by omega
    subst e'
    obtain ⟨⟨m2, L2, g2, l2⟩, bd⟩ := hd γ2 hI
    obtain ⟨xs2, h2, d3⟩ := R2.boxL g2 l2
    exact .inl ⟨⟨xs2, SqL.of h2, by rw [d3.1]; exact Nat.le_refl _⟩, L0.nx S2 H2 σ2 γ2 ((e.trans e1).trans e2) R2 bd⟩
/-- the same with enumerate -/
def dForEB (h : Nat) (w : WA) (wg : WG) (wb : WS) : WS := fun Dd γ => w γ fun ds γ1 => ∃ q es, ds = [.ref q] ∧ OnBox h q es γ1 ∧ ∃ I : Nat → List Sl → Prop, I 0 γ1 ∧
  (∀ (i : Nat) d γ, es[i]? = some d → I i γ → OnBox h q es γ ∧ wg (.tup [.int (i : Nat), d]) γ fun γ2 => wb { Dd with nx := I (i + 1), ct := I (i + 1), bk := Dd.nx } γ2) ∧ ∀ γ, I es.length γ → OnBox h q es γ ∧ Dd.nx γ
theorem ds_forEB (K' : PySem.W.Frag) (h : Nat) {elts : List Expr} {kk : Nat} {tpos : Pos} {ta : TA} {wa : WA} (hp : PassesOwn (model X.prog X.w) X.A X.env X.xe) (hc : X.calm = true) (hm : X.mg "enumerate" = none) (ha : DA X [a] ta wa) (hg : DG X (.Tuple elts kk tpos) g wg) (hb : DSs X body tb wb)
    (hgl : Gl X "enumerate" := by rfl) (hst : starEach [a] X.env = [(false, eval a X.env)] := by rfl) (hs : ∀ x, foldedSetIterable (.Call (.Name "enumerate" p) [a] [] pos) X.env x = pure x := by intro _; rfl) {pos' : Pos} (hK : X.K = K' := by rfl) : DS X (.For (.Tuple elts kk tpos) (.Call (.Name "enumerate" p) [a] [] pos) body [] pos') (tFor (iEnum K' ta) g tb) (dForEB h wa wg wb) := by
  subst hK
  refine ⟨ps_for hp hc (pi_enum hgl hm ha.pa hst) hg.pg hb.ps hs, ⟨fun B S0 S H σ γ Dd D R e L0 z => ?_⟩⟩
  refine ha.sa.run B S H σ γ _ R (ha.sa.mono γ _ _ (fun ds γ1 ⟨q, es, ed, ⟨m, L, g1, l1⟩, I, h0, hstp, hd⟩ vs S1 H1 R1 e1 d1 => ?_) z)
  subst ed
  obtain ⟨v, rfl, dv⟩ := d1.one
  obtain rfl := dv.ref_inv
  obtain ⟨xs, h1, d2⟩ := R1.boxL g1 l1
  refine ⟨q, xs, rfl, SqL.of h1, fun i mm σ H => mm = es.length - i ∧ i ≤ es.length ∧ ∃ S2 γ2, Rel X B S2 H σ γ2 ∧ Same S1 S2 ∧ I i γ2, ⟨es.length, by simp, Nat.zero_le _, S1, γ1, R1, Same.refl S1, h0⟩, ?_⟩
  rintro i mm σ2 H2 ⟨rfl, hi2, S2, γ2, R2, e2, hI⟩
  by_cases hlt : i < es.length
  · obtain ⟨⟨m2, L2, g2, l2⟩, bd⟩ := hstp i es[i] γ2 (List.getElem?_eq_getElem hlt) hI
    obtain ⟨xs2, h2, d3⟩ := R2.boxL g2 l2
    have hx2 : i < xs2.length := by rw [d3.1]; exact hlt
    refine .inr ⟨⟨xs2, xs2[i], SqL.of h2, List.getElem?_eq_getElem hx2⟩, fun σ' H' => i + 1 ≤ es.length ∧ ∃ S3 γ3, Rel X B S3 H' σ' γ3 ∧ Same S1 S3 ∧ I (i + 1) γ3, fun σ' H' q => ⟨_, by omega, rfl, q⟩, fun x H' y => ?_⟩
    obtain ⟨T, x1, f1, f2, f3, f4⟩ := y
    subst f1 f3
    have dn := d3.2 i x1 es[i] (f4 xs2 (SqL.of h2)) (List.getElem?_eq_getElem hlt)
    have e4 : Same S2 (upd S2 T (.tup [.int (i : Nat), x1])) := Same.upd (Same.refl S2) (R2.freshS f2)
    refine hg.sg.run B _ _ σ2 γ2 _ _ _ (R2.new f2) (.ofT upd_same (.cons (.int _) (.cons (dn.mono e4) .nil))) (hg.sg.mono _ _ _ _ (fun γ4 bd σ4 R4 => ?_) bd)
    have e6 : Same S0 S1 := e.trans e1
    have e7 := e2.trans e4
    refine hb.ss.run B _ _ _ σ4 γ4 { Dd with nx := I (i + 1), ct := I (i + 1), bk := Dd.nx } _ R4 (Same.refl _) ⟨fun S6 H6 σ6 γ6 k R6 q => ⟨hlt, S6, γ6, R6, e7.trans k, q⟩, fun S6 H6 σ6 γ6 v r k R6 rv q => L0.rt S6 H6 σ6 γ6 v r (e6.trans (e7.trans k)) R6 rv q, fun S6 H6 σ6 γ6 k R6 q => L0.nx S6 H6 σ6 γ6 (e6.trans (e7.trans k)) R6 q, fun S6 H6 σ6 γ6 k R6 q => ⟨hlt, S6, γ6, R6, e7.trans k, q⟩⟩ bd
  · have e' : i = es.length := by omega
    subst e'
    obtain ⟨⟨m2, L2, g2, l2⟩, bd⟩ := hd γ2 hI
    obtain ⟨xs2, h2, d3⟩ := R2.boxL g2 l2
    exact .inl ⟨⟨xs2, SqL.of h2, by rw [d3.1]; exact Nat.le_refl _⟩, L0.nx S2 H2 σ2 γ2 ((e.trans e1).trans e2) R2 bd⟩
/-! ### clear; an instance frozen -/
def dClrB (h : Nat) (wo : WE) : WS := fun Dd γ => wo γ fun x γ1 => ∃ m L q ds, x = .ref q ∧ γ1[h]? = some (.hp m L) ∧ L q = some (.lst ds) ∧ Dd.nx (γ1.set h (.hp m (updB L q (.lst []))))
theorem ds_clrB (h : Nat) {o : Expr} {to : TE} {wo : WE} {p1 p2 : Pos} (hpe : PE X o to → PE X (.Call (.Attribute o "clear" p1) [] [] p2) (tBM X.K "list" rClear to tNil)) (ho : DE X o to wo)
    (hs : swapsWith (.Call (.Attribute o "clear" p1) [] [] p2) none pos.line X.env = pure false := by rfl) : DS X (.Expr (.Call (.Attribute o "clear" p1) [] [] p2) pos) (tDrop (tBM X.K "list" rClear to tNil)) (dClrB h wo) := by
  refine ⟨ps_expr (hpe ho.pe) hs, ⟨fun B S0 S H σ γ Dd D R e L0 z => ?_⟩⟩
  refine ho.se.run B S H σ γ _ R (ho.se.mono γ _ _ (fun x γ1 ⟨m, L, q, ds, ex, g, l, z⟩ v S1 H1 R1 e1 d1 => ?_) z)
  subst ex
  obtain rfl := d1.ref_inv
  obtain ⟨xs, h1, d2⟩ := R1.boxL g l
  refine ⟨.inl ⟨rfl, _, SqL.of h1⟩, q, xs, rfl, rfl, h1, ?_⟩
  exact L0.nx S1 _ σ _ (e.trans e1) (R1.chgL (xs := []) (ds := []) g l .nil) z
/-- an instance in a box of one's own becomes a value -/
def dFrzO (h : Nat) (wa : WE) : WE := fun γ Q => wa γ fun x γ1 => ∃ L q C fs, x = .ref q ∧ γ1[h]? = some (.hp false L) ∧ L q = some (.ins C fs) ∧ Q (.obj C fs) (γ1.set h (.hp false (delB L q)))
theorem de_frzO (h : Nat) (ha : DE X e te we) : DE X e te (dFrzO h we) := by
  refine ⟨ha.pe, fun γ P P' k q => ha.se.mono γ _ _ (fun x γ1 ⟨L, q, C, fs, e, g, l, q'⟩ => ⟨L, q, C, fs, e, g, l, k _ _ q'⟩) q, fun B S H σ γ Q R q => ?_⟩
  refine ha.se.run B S H σ γ _ R (ha.se.mono γ _ _ (fun x γ1 ⟨L, q, C, fs, e, g, l, q'⟩ v S1 H1 R1 e1 d1 => ?_) q)
  subst e
  obtain rfl := d1.ref_inv
  obtain ⟨o, h1, h2, hb, R2⟩ := R1.r.frzB g l
  obtain ⟨dx, vs, rfl, h3⟩ := hb
  have eS : Same S1 (upd S1 q (.ins C dx vs)) := Same.upd (Same.refl S1) h2
  exact q' (.ref q) _ H1 (R1.with R2 eS) (e1.trans eS) (.ofO upd_same (h3.mono eS))
end
end DL

/-! ### methods of values, constructors: promises about boxes -/
namespace DL
open PySem PySem.Spec PyProof.Rows L2
section
variable {X : Xb} {K : PySem.W.Frag} {C f : Addr} {fd : FuncData} {ps : List Str} {k : Nat} {x m : Str} {e o : Expr} {es : List Expr} {t : TA} {w : WA} {ta : TE} {wa : WE} {p pos apos : Pos} {s : SpecB} {pl : Sem Bool}
/-- o.m(), o an instance that is a value -/
def dMethV (h : Nat) (C : Addr) (m : Str) (s : SpecB) (wa : WE) (w : WA) : WE := fun γ Q => wa γ fun x γ1 => ∃ fs, x = .obj C fs ∧ fs.lookup m = none ∧ w γ1 fun ds γ2 => ∃ mm L, γ2[h]? = some (.hp mm L) ∧ s.S (x :: ds) L fun d L' => Q d (γ2.set h (.hp mm L'))
theorem se_methV {h : Nat} (ha : SE X ta wa) (hh : SA X t w) : SE X (tMeth C m (spB X.K s) [] E0 ta t) (dMethV h C m s wa w) := by
  refine ⟨fun γ P P' k q => ha.mono γ _ _ (fun x γ1 ⟨fs, e, n, q'⟩ => ⟨fs, e, n, hh.mono γ1 _ _ (fun ds γ2 ⟨mm, L, g, q⟩ => ⟨mm, L, g, s.mono _ _ _ _ (fun d L' q => k _ _ q) q⟩) q'⟩) q, fun B S H σ γ Q R q => ?_⟩
  refine ha.run B S H σ γ _ R (ha.mono γ _ _ (fun x γ1 ⟨fs, e, n, q'⟩ v S1 H1 R1 e1 d1 => ?_) q)
  subst e
  obtain ⟨a, dx, vs, rfl, h1, h2⟩ := d1.obj_inv
  refine ⟨a, dx, vs, rfl, R1.same _ _ h1, h2.lookNone n, ?_⟩
  refine hh.run B S1 H1 σ γ1 _ R1 (hh.mono γ1 _ _ (fun ds γ2 ⟨mm, L, g, q'⟩ us S2 H2 R2 e2 d2 => ?_) q')
  show spB X.K s (.ref a :: (us ++ [])) H2 Q E0
  rw [List.append_nil]
  exact run_spB R2 g (.cons (d1.mono e2) d2) (s.mono _ _ _ _ (fun d L' q v S' H' R' e' dn => q v S' H' R' (e1.trans (e2.trans e')) dn) q')
theorem de_methV0 (K' : PySem.W.Frag) (h : Nat) (he : DE X o ta wa) (c : Cls X.K C) (hm : Meth X.K C m f) (F : FnOk X.prog X.w X.K X.mg X.base CX0 k f fd ps (spB K' s)) (hr : Room k X.A) (hb : Binds X.K fd ps [])
    (ht : eval (.Call (.Attribute o m apos) [] [] pos) X.env = (do
      let ov ← eval o X.env
      standAt apos.atName
      let (f, first) ← holding [ov] (getMethod ov m pl)
      callWith pos f first (backTo pos (starEach [] X.env)) (backToKw pos (keywordEach [] X.env))) := by rfl) (hK : X.K = K' := by rfl) : DE X (.Call (.Attribute o m apos) [] [] pos) (tMeth C m (spB K' s) [] E0 ta tNil) (dMethV h C m s wa dNil) := by
  subst hK
  exact ⟨pe_meth0 he.pe c hm F hr hb .nil pass0 ht, se_methV he.se da_nil.sa⟩
end
/-- C(e, ..) whose __init__ may raise, also in a try -/
def tMakeS (C : Addr) (sp : Sp) (E : L2.St → XK) (t : TA) : TE := fun σ H Q => tMake C sp [] (E σ) t σ H Q
theorem run_makeS {X : Cx} {CX : CXT} {k : Nat} {f C : Addr} {fd : FuncData} {ps : List Str} {sp : Sp} {E : XK} {pins : List (Addr × Obj)} {σ : L2.St} {H : Hp} {s : Shared} {Q : VK} {us : List Value} {vs : List V} (M : Mk X.K C f) (F : FnOk X.prog X.w X.K X.mg X.base CX k f fd ps sp) (hr : Room (k + 1) X.A) (hb : Binds X.K fd ps [])
    (hx : PassesAt CX X σ E) (I : Inv X pins σ H s) (r : Vals vs us)
    (h : ∀ x dx, H x = none → H dx = none → dx ≠ x → sp (.ref x :: (vs ++ [])) (upd (upd H dx (.own x)) x (.ins C dx [])) (fun v H2 => v = .non ∧ Q (.ref x) H2) E) :
    wpAny (model X.prog X.w) X.A (call (.ref C) us) (EP X pins σ Q) X.xe s := by
  have new : ∀ n, s.heap.objs.size ≤ n → H n = none := fun n hn => I.hok.fresh hn
  have start := h (s.heap.objs.size + 1) s.heap.objs.size (new _ (Nat.le_succ _)) (new _ (Nat.le_refl _)) (Nat.ne_of_lt (Nat.lt_succ_self _))
  have J := Inv.made (C := C) I
  have args : Vals (V.ref (s.heap.objs.size + 1) :: (vs ++ [])) (Value.ref (s.heap.objs.size + 1) :: (us ++ [])) := .cons rfl (r.append .nil)
  have many : (Value.ref (s.heap.objs.size + 1) :: us ++ []).length = ps.length := by
    have q := args.length
    rw [F.len _ _ _ _ start] at q
    exact q.symm
  have body := F.run _ X.stack _ _ ⟨Value.ref (s.heap.objs.size + 1) :: us, []⟩ (Value.ref (s.heap.objs.size + 1) :: (us ++ [])) _ _ E (hr.make C us []) (J.env0.make C us []) (by have z := hb _ (Value.ref (s.heap.objs.size + 1) :: us) J.kIn many; exact z) args start
  refine wpAny_call (make_map (f := f) I.kIn M.makes M.init (beq_iff_eq.mp M.fn) (codeAny_mono body fun res s' z => ?_))
  match res, z with
  | .error e, z => exact hx pins _ _ e s' J z
  | .ok (.ret u), z =>
    obtain ⟨v, H', J3, rv, ev, q3⟩ := J.after z
    subst ev
    exact ⟨rv, ⟨V.ref (s.heap.objs.size + 1), H', J3, rfl, q3⟩⟩
  | .ok .next, z => exact z.elim
  | .ok .brk, z => exact z.elim
  | .ok .cont, z => exact z.elim
section
variable {X : Xb} {K : PySem.W.Frag} {C f : Addr} {fd : FuncData} {ps : List Str} {k : Nat} {x : Str} {e : Expr} {es : List Expr} {t : TA} {w : WA} {p pos : Pos} {s : SpecBX}
def dMakeBX (h : Nat) (C : Addr) (s : SpecBX) (dX : Addr → List (Str × D) → List Sl → Prop) (w : WA) : WE := fun γ Q => w γ fun ds γ1 => ∃ m L, γ1[h]? = some (.hp m L) ∧ ∀ p, L p = none → s.S (.ref p :: ds) (updB L p (.ins C [])) (fun d L' => d = .non ∧ Q (.ref p) (γ1.set h (.hp m L'))) fun C fs => ∀ L', dX C fs (γ1.set h (.hp m L'))
theorem se_makeBX {h : Nat} (hh : SA X t w) : SE X (tMakeS C (spBX X.K s) (L2.WE X.W) t) (dMakeBX h C s X.dX w) := by
  refine ⟨fun γ P P' k q => hh.mono γ _ _ (fun ds γ1 ⟨m, L, g, q⟩ => ⟨m, L, g, fun p hp => s.mono _ _ _ _ _ _ (fun d L' q => ⟨q.1, k _ _ q.2⟩) (fun _ _ q => q) (q p hp)⟩) q, fun B S H σ γ Q R q => ?_⟩
  refine hh.run B S H σ γ _ R (hh.mono γ _ _ (fun ds γ1 ⟨m, L, g, q⟩ vs S1 H1 R1 e1 d1 x dx hx hdx ne => ?_) q)
  rw [List.append_nil]
  have R2 := R1.newOut (o := .own x) hdx
  have hx2 : upd H1 dx (.own x) x = none := by rw [upd_ne (fun z => ne z.symm)]; exact hx
  have R3 := R2.newF (o := .ins C dx []) hx2
  obtain ⟨R4, hp⟩ := R3.addB (b := .ins C []) g ⟨dx, [], rfl, .nil⟩
  have hlt := R1.lt g
  have g4 : (γ1.set h (.hp m (updB L x (.ins C []))))[h]? = some (.hp m (updB L x (.ins C []))) := by rw [List.getElem?_set_self hlt]
  refine run_spBX R4 g4 (.cons (.ref x) d1) (s.mono _ _ _ _ _ _ (fun d L' q v S' H' R' e' dn => ?_) (fun C' fs q L' => by rw [List.set_set]; exact q L') (q x hp))
  obtain ⟨rfl, q⟩ := q
  cases dn
  rw [List.set_set] at R'
  exact ⟨rfl, q (.ref x) S' H' R' (e1.trans e') (.ref x)⟩
theorem de_makeBX (K' : PySem.W.Frag) (h : Nat) (W' : WX) (dX' : Addr → List (Str × D) → List Sl → Prop) (tk : L2.Takes X.c W') (M : Mk X.K C f) (F : FnOk X.prog X.w X.K X.mg X.base (L2.CX X.prog X.w) k f fd ps (spBX K' s)) (hr : Room (k + 1) X.A) (hm : X.mg x = some (.ref C)) (hb : Binds X.K fd ps []) (ha : DA X (e :: es) t w) (hg : Gl X x := by rfl)
    (hdb : (x == ("__debug__" : Str)) = false := by decide) (he : starEach (e :: es) X.env = (false, eval e X.env) :: starEach es X.env := by rfl) (hpl : (backTo pos (starEach es X.env)).any (·.1) = false := by rfl) (hK : X.K = K' := by rfl) (hW : X.W = W' := by rfl) (hX : X.dX = dX' := by rfl) :
    DE X (.Call (.Name x p) (e :: es) [] pos) (tMakeS C (spBX K' s) (L2.WE W') t) (dMakeBX h C s dX' w) := by
  subst hK hW hX
  refine ⟨⟨fun pins s0 σ H Q I h0 => ?_⟩, se_makeBX ha.sa⟩
  refine wpAny_Call_Name_kw (ld_glob I hg hm ?_ hdb)
  exact PySem.W.callWith_K (h₀ := X.base) I.ok.mod.kin M.kp (thn (ha.pa.run pos pins s0 σ H _ I h0) fun us s1 ⟨vs, H1, I1, r, q⟩ => ⟨I1.kIn, run_makeS M F hr hb (passAt tk σ) I1 r q⟩) he hpl
end
section
variable {K : PySem.W.Frag} {γ : List Sl} {i h : Nat} {es : List D} {q : Addr} {m : Bool} {L : Bxs} {we wa : WE} {wf : WF} {wt : WT} {wb w : WS} {wA : WA} {wg : WG} {Dd : EndsD} {Q : D → List Sl → Prop} {QF : List D → List Sl → Prop} {QT : Bool → List Sl → Prop} {C : Addr} {mm : Str} {sB : SpecB} {sX : SpecBX} {dX : Addr → List (Str × D) → List Sl → Prop} {P : List Sl → Prop}
instance : Go (dLendRT i h wt γ QT) (LendsR γ i h fun γ1 => wt γ1 fun b _ => QT b γ) := ⟨fun z => z⟩
instance : Go (dLendRE i h we γ Q) (LendsR γ i h fun γ1 => we γ1 fun d _ => flat d ∧ Q d γ) := ⟨fun z => z⟩
instance : Go (dLendRF i h wf γ QF) (LendsR γ i h fun γ1 => wf γ1 fun ds _ => flats ds ∧ QF ds γ) := ⟨fun z => z⟩
instance : Go (dForB h we wg wb Dd γ) (we γ fun d γ1 => ∃ q es, d = .ref q ∧ OnBox h q es γ1 ∧ ∃ I : Nat → List Sl → Prop, I 0 γ1 ∧ (∀ i d γ, es[i]? = some d → I i γ → OnBox h q es γ ∧ wg d γ fun γ2 => wb { Dd with nx := I (i + 1), ct := I (i + 1), bk := Dd.nx } γ2) ∧ ∀ γ, I es.length γ → OnBox h q es γ ∧ Dd.nx γ) := ⟨fun z => z⟩
instance : Go (dForEB h wA wg wb Dd γ) (wA γ fun ds γ1 => ∃ q es, ds = [.ref q] ∧ OnBox h q es γ1 ∧ ∃ I : Nat → List Sl → Prop, I 0 γ1 ∧ (∀ (i : Nat) d γ, es[i]? = some d → I i γ → OnBox h q es γ ∧ wg (.tup [.int (i : Nat), d]) γ fun γ2 => wb { Dd with nx := I (i + 1), ct := I (i + 1), bk := Dd.nx } γ2) ∧ ∀ γ, I es.length γ → OnBox h q es γ ∧ Dd.nx γ) := ⟨fun z => z⟩
instance : Go (dClrB h we Dd γ) (we γ fun x γ1 => ∃ m L q ds, x = .ref q ∧ γ1[h]? = some (.hp m L) ∧ L q = some (.lst ds) ∧ Dd.nx (γ1.set h (.hp m (updB L q (.lst []))))) := ⟨fun z => z⟩
instance : Go (dFrzO h wa γ Q) (wa γ fun x γ1 => ∃ L q C fs, x = .ref q ∧ γ1[h]? = some (.hp false L) ∧ L q = some (.ins C fs) ∧ Q (.obj C fs) (γ1.set h (.hp false (delB L q)))) := ⟨fun z => z⟩
instance : Go (dMethV h C mm sB wa wA γ Q) (wa γ fun x γ1 => ∃ fs, x = .obj C fs ∧ fs.lookup mm = none ∧ wA γ1 fun ds γ2 => ∃ m L, γ2[h]? = some (.hp m L) ∧ sB.S (x :: ds) L fun d L' => Q d (γ2.set h (.hp m L'))) := ⟨fun z => z⟩
instance : Go (dMakeBX h C sX dX wA γ Q) (wA γ fun ds γ1 => ∃ m L, γ1[h]? = some (.hp m L) ∧ ∀ p, L p = none → sX.S (.ref p :: ds) (updB L p (.ins C [])) (fun d L' => d = .non ∧ Q (.ref p) (γ1.set h (.hp m L'))) fun C fs => ∀ L', dX C fs (γ1.set h (.hp m L'))) := ⟨fun z => z⟩
theorem i_lendsR (g : γ[i]? = some (.val (.ref q))) (g2 : γ[h]? = some (.hp m L)) (l : L q = some (.lst es)) (z : P ((lentS γ).set i (.val (.lst es)))) : LendsR γ i h P := ⟨q, es, m, L, g, g2, l, z⟩
theorem i_onBox (g : γ[h]? = some (.hp m L)) (l : L q = some (.lst es)) : OnBox h q es γ := ⟨m, L, g, l⟩
end
end DL
set_option Elab.async false
set_option linter.all false
set_option autoImplicit false
set_option maxRecDepth 100000
set_option maxHeartbeats 4000000
/-! DL55: isinstance of a caught exception. -/
namespace DL
open PySem PySem.Spec PyProof.Rows L2 He
theorem dss0_initB {X : Xb} (i : Nat) {sts : List Stmt} {t : TS} {w : WS} (h : DSs0 X sts t w) : DSs0 X sts t (dInitB i w) := ⟨h.ps, ⟨fun B S0 S H σ γ Dd D f R e L q => h.ss.run B S0 S H σ _ Dd D f ⟨R.r.initB, R.x⟩ e L q⟩⟩
section
variable {X : Xb}
/-- x = [..], a comprehension given to a name, put into a box -/
theorem ds_setLcB (h0 : Nat) {i : Nat} {y : Str} {py : Pos} {elt tg iter : Expr} {ifs : List Expr} {scope : Scope} {own : List (Str × Nat)} {pos spos : Pos} {ti : TI} {wi : WA} {g : TG} {wg : WG} {tt : TT} {wt : WT} {te : TE} {we : WE} (hc : X.calm = true) (hN : X.N.Nodup)
    (hi : DI X tg iter ti wi) (ok : BlkOk X.N X.env.scope scope own)
    (hg : ∀ (s : Shared) (H : Hp) (C : Addr) (cl : List (Str × Addr)) (fp : List Addr), DG (X.blk s H scope (compEnvC scope cl C X.env) fp) tg g wg) (hgi : GIn g (own.map (·.2))) (hgm : GMo g)
    (ht : ∀ (s : Shared) (H : Hp) (C : Addr) (cl : List (Str × Addr)) (fp : List Addr), DTs (X.blk s H scope (compEnvC scope cl C X.env) fp) ifs tt wt)
    (he : ∀ (s : Shared) (H : Hp) (C : Addr) (cl : List (Str × Addr)) (fp : List Addr), DE (X.blk s H scope (compEnvC scope cl C X.env) fp) elt te we)
    (hy : X.N[i]? = some y := by rfl) (hyl : X.env.scope.names.lookup y = some .local := by rfl)
    (hsw : swapsWith (.ListComp elt [⟨tg, iter, ifs, 0⟩] scope pos) (some (.Name y py)) spos.line X.env = pure true := by exact sw_true rfl rfl rfl (by decide +kernel)) (hs : ∀ x, foldedSetIterable iter X.env x = pure x := by intro _; rfl) :
    DS X (.Assign [.Name y py] (.ListComp elt [⟨tg, iter, ifs, 0⟩] scope pos) spos) (tAsg (tLc ti g tt te (own.map (·.2))) (gName i)) (dSet i (dNewB h0 (dLc wi wg wt we (own.map (·.2))))) :=
  have h : SF X (tLc ti g tt te (own.map (·.2))) (dLc wi wg wt we (own.map (·.2))) := sf_lc hi.si (hg X.s_0 X.H_0 0 [] []).sg.ofBlk hgi hgm (ht X.s_0 X.H_0 0 [] []).st.ofBlk (he X.s_0 X.H_0 0 [] []).se.ofBlk
  ⟨ps_setLc hc hN hy hyl hsw hi.pi ok (fun s H C cl fp => (hg s H C cl fp).pg) (fun s H C cl fp => (ht s H C cl fp).pt) (fun s H C cl fp => (he s H C cl fp).pe) hs,
   ⟨fun B S0 S H σ γ Dd D R e L q => h.run B S H σ γ _ R (h.mono γ _ _ (fun ds γ1 ⟨m, Lb, g, q'⟩ p xs S1 H1 R1 e1 d1 => by
      obtain ⟨R2, hp⟩ := R1.addB (b := .lst ds) g ⟨xs, rfl, d1⟩
      exact L.nx S1 H1 _ _ (e.trans e1) (R2.set (s := .val (.ref p)) ⟨.ref p, rfl, .ref p⟩ rfl) (q' p hp)) q)⟩⟩
end
/-- what isinstance asks of an own exception class -/
structure XisC (K : PySem.W.Frag) (C : Addr) : Prop where
  cl : (PySem.W.clsIn K C).isSome = true
  ga : PySem.W.findIn K (.ref C) "__getattribute__" = some (some (.builtin "BaseException.__getattribute__"))
  gg : PySem.W.findIn K (.ref C) "__getattr__" = some none
  sb : PySem.W.subIn K (.ref C) (.type "BaseException") = some true
  ca : PySem.W.findIn K (.ref C) "__class__" = some (some (.builtin "object.__class__"))
  gt : PySem.W.specialIn K (.builtin "object.__class__") "__get__" = some (some (.builtin "getset_descriptor.__get__"))
  tk : PySem.W.takesIn K (.builtin "object.__class__") = some true
  ob : PySem.W.mroIn K C (.type "object") = some true
theorem xis_ok {K : PySem.W.Frag} {x : Str} (c : xisB x K = true) : XisC K (ga K x) := by
  unfold xisB at c
  simp only [Bool.and_eq_true, decide_eq_true_eq] at c
  obtain ⟨⟨⟨⟨⟨⟨⟨h1, h2⟩, h3⟩, h4⟩, h5⟩, h6⟩, h7⟩, h8⟩ := c
  exact ⟨h1, h2, h3, h4, h5, h6, h7, h8⟩
def rIsX (K : PySem.W.Frag) (cls : Value) (C a : Addr) (d : Option Addr) : List V → Hp → VK → Prop := fun xs H Q => ∃ (T : Addr) (b : Bool), xs = [.ref a, .ref T] ∧ cls = .ref C ∧ (d = none ∨ ∃ dd ws, d = some dd ∧ H dd = some (.xd ws)) ∧ PySem.W.kitOne K (.ref C) (.ref T) = some b ∧ Q (.bl b) H
theorem call_isX {X : Cx} {a C : Addr} {oe : Obj} {cls : Value} {d : Option Addr} {pn : List (Addr × Obj)} (E : XisC X.K C) (hz : Zc cls d oe) (hf : ∃ vs, oe.data = .fields vs) : CallR (X.suite a ((a, oe) :: pn)) (.builtin "isinstance") (rIsX X.K cls C a d) := by
  intro pins s σ H xs us Q I r h
  obtain ⟨T, b, rfl, hc, hd, e, q⟩ := h
  obtain ⟨u1, u2, rfl, r1, r2⟩ := vals2 r
  obtain rfl : u1 = Value.ref a := r1
  obtain rfl : u2 = Value.ref T := r2
  obtain ⟨hget, _⟩ := I.pin (a, oe) (List.mem_append.mpr (.inl List.mem_cons_self))
  obtain ⟨vs, hv⟩ := hf
  have J : ∃ od, PySem.W.InstAt s.heap a oe C od := by
    obtain ⟨oc, odd, oda, osl⟩ := oe
    obtain ⟨h1, h2⟩ := hz
    dsimp only at h1 h2 hv
    subst h1 h2 hv
    subst hc
    rcases hd with rfl | ⟨dd, ws, rfl, hw⟩
    · exact ⟨none, hget, rfl, rfl, trivial⟩
    · have ho : ObjOk X.prog X.w H s.heap dd (.xd ws) := I.hok dd _ hw
      obtain ⟨mA, hns, hr⟩ := ho
      obtain ⟨od, hod, hl⟩ := lookIn_ns hns
      exact ⟨some od, hget, rfl, rfl, hod⟩
  obtain ⟨od, J⟩ := J
  exact PySem.W.kia_one (PySem.W.kitx_exc E.cl E.ga E.gg E.sb E.ca E.gt E.tk E.ob) I.kIn J e (fun z => nomatch z) fun tk => ⟨.bl b, H, I.kept (t' := tk) fun _ _ z => z, rfl, q⟩
section
variable {X : Xb} {C T : Addr} {i : Nat} {x y : Str} {p px py pos : Pos}
/-- isinstance(e, T), e the caught exception at slot i -/
def dIsX (K : PySem.W.Frag) (C T a : Addr) (i : Nat) : WE := fun γ Q => γ[i]? = some (.val (.ref a)) ∧ ∃ b, PySem.W.kitOne K (.ref C) (.ref T) = some b ∧ Q (.bl b) γ
theorem de_isX (K' : PySem.W.Frag) {a : Addr} {oe : Obj} {pn : List (Addr × Obj)} {cls : Value} {d : Option Addr} {fs : List (Str × D)} (E : XisC X.K C) (hz : Zc cls d oe) (hf : ∃ vs, oe.data = .fields vs) (hm : X.mg "isinstance" = none) (hT : X.mg y = some (.ref T))
    (hN : X.N[i]? = some x := by rfl) (hv : Vis X.env.scope x := by first | exact Or.inl rfl | exact Or.inr (Or.inl rfl) | exact Or.inr (Or.inr rfl)) (hd : (x == ("__debug__" : Str)) = false := by decide) (hcd : (x == ("__classdict__" : Str)) = false := by decide)
    (hg : Gl X "isinstance" := by rfl) (hgT : Gl X y := by rfl) (hdT : (y == ("__debug__" : Str)) = false := by decide)
    (h1 : starEach [Expr.Name x px, Expr.Name y py] X.env = (false, eval (Expr.Name x px) X.env) :: starEach [Expr.Name y py] X.env := by rfl) (h2 : starEach [Expr.Name y py] X.env = (false, eval (Expr.Name y py) X.env) :: starEach [] X.env := by rfl) (hpl : (backTo pos (starEach [Expr.Name y py] X.env)).any (·.1) = false := by rfl) (hK : X.K = K' := by rfl) :
    DE (X.su a oe pn cls C d fs) (.Call (.Name "isinstance" p) [.Name x px, .Name y py] [] pos) (tCB (rIsX K' cls C a d) (tCons (tVar i) (tCons (tC (.ref T)) tNil))) (dIsX K' C T a i) := by
  subst hK
  have pT : PE (X.c.suite a ((a, oe) :: pn)) (.Name y py) (tC (.ref T)) := pe_glob hgT hT rfl hdT
  refine ⟨pe_callB (X := X.c.suite a ((a, oe) :: pn)) (call_isX E hz hf) hg hm (by decide +kernel) (pa_cons (pe_var (X := X.c.suite a ((a, oe) :: pn)) hN hv hd hcd) (pa_cons pT pa_nil h2) h1) (by decide) (by decide) h1 hpl, fun γ P P' k ⟨g, b, e, q⟩ => ⟨g, b, e, k _ _ q⟩, fun B S H σ γ Q R ⟨g, b, e, q⟩ => ?_⟩
  obtain ⟨v, hv1, dn⟩ := R.sl i _ g
  obtain ⟨hc, hk, _⟩ : KnowX cls C d fs (.ref C) none σ H := R.x S H σ γ C [] none (Same.refl S) R.r.core (.inl ⟨rfl, rfl⟩) trivial
  cases dn
  exact ⟨_, hv1, T, b, rfl, hc, hk, e, q (.bl b) S H R (Same.refl S) (.bl b)⟩
end
section
variable {K : PySem.W.Frag} {γ : List Sl} {C T a : Addr} {i : Nat} {Q : D → List Sl → Prop}
instance : Go (dIsX K C T a i γ Q) (γ[i]? = some (.val (.ref a)) ∧ ∃ b, PySem.W.kitOne K (.ref C) (.ref T) = some b ∧ Q (.bl b) γ) := ⟨fun z => z⟩
end
end DL
set_option Elab.async false
set_option linter.all false
set_option autoImplicit false
set_option maxRecDepth 100000
set_option maxHeartbeats 4000000
namespace Kx
open PySem PySem.Spec PyProof.Rows L2 DL
structure Blt (mg : Str → Option Value) : Prop where
  range : mg "range" = none
  enumerate : mg "enumerate" = none
  zip : mg "zip" = none
  sum : mg "sum" = none
  len : mg "len" = none
  int : mg "int" = none
  list : mg "list" = none
  isinstance : mg "isinstance" = none
  bool : mg "bool" = none
  str : mg "str" = none
  tuple : mg "tuple" = none
  abs : mg "abs" = none
  all : mg "all" = none
  any : mg "any" = none
  sorted : mg "sorted" = none
set_option autoImplicit false
namespace Mx
def sumTo (f : Nat → Int) : Nat → Int
  | 0 => 0
  | n + 1 => sumTo f n + f n
def ent (m : List Int) (i : Nat) : Int := m.getD i 0
theorem ent_rng {n : Nat} {f : Nat → Int} {i : Nat} (h : i < n) : ent ((List.range n).map f) i = f i := by
  unfold ent
  rw [List.getD_eq_getElem?_getD, List.getElem?_map, List.getElem?_range h]
  rfl
theorem rng_ent (m : List Int) : (List.range m.length).map (ent m) = m := by
  apply List.ext_getElem?
  intro i
  rw [List.getElem?_map]
  by_cases h : i < m.length
  · rw [List.getElem?_range h, List.getElem?_eq_getElem h]
    show some (ent m i) = _
    unfold ent
    rw [List.getD_eq_getElem?_getD, List.getElem?_eq_getElem h]
    rfl
  · rw [List.getElem?_eq_none (by rw [List.length_range]; omega), List.getElem?_eq_none (by omega)]
    rfl
def Bd (k : Nat) (xs : List Int) : Prop := ∀ x ∈ xs, x.natAbs < 2 ^ k
theorem Bd.ent {k : Nat} {xs : List Int} (h : Bd k xs) (i : Nat) : (ent xs i).natAbs < 2 ^ k := by
  unfold Mx.ent
  rw [List.getD_eq_getElem?_getD]
  cases q : xs[i]? with
  | none => exact Nat.pow_pos (by decide)
  | some x => exact h x (List.mem_of_getElem? q)
theorem Bd.le {j k : Nat} {xs : List Int} (h : Bd j xs) (hk : j ≤ k) : Bd k xs := fun x hx => Nat.lt_of_lt_of_le (h x hx) (Nat.pow_le_pow_right (by decide) hk)
def mulA (w : Nat) (one other : List Int) (i n j : Nat) : Int := sumTo (fun k => ent other (w * i + k) * ent one (w * k + j)) n
def mulL (w : Nat) (one other : List Int) : List Int := (List.range (w * w)).map fun t => mulA w one other (t / w) w (t % w)
def imgA (w : Nat) (m v : List Int) (i n : Nat) : Int := sumTo (fun j => ent m (w * i + j) * ent v j) n
def imgL (w : Nat) (m v : List Int) : List Int := (List.range w).map fun i => imgA w m v i w
def unitL (w : Nat) : List Int := (List.range (w * w)).map fun t => if t % (w + 1) = 0 then 1 else 0
end Mx

set_option autoImplicit false
namespace Lin
open Mx
abbrev Vec := Nat → Int
def vz : Vec := fun _ => 0
/-- the rational span -/
inductive Spn (B : List Vec) : Vec → Prop
  | zero : Spn B vz
  | mem {b : Vec} (h : b ∈ B) : Spn B b
  | add {u v : Vec} (h : Spn B u) (k : Spn B v) : Spn B (fun j => u j + v j)
  | smul (c : Int) {u : Vec} (h : Spn B u) : Spn B (fun j => c * u j)
  | div {c : Int} (hc : c ≠ 0) {u : Vec} (h : Spn B (fun j => c * u j)) : Spn B u
section
variable {A B : List Vec} {u v b : Vec}
theorem Spn.sub (h : Spn B u) (k : Spn B v) : Spn B (fun j => u j - v j) := by
  have := Spn.add h (Spn.smul (-1) k)
  have e : (fun j => u j + -1 * v j) = fun j => u j - v j := funext fun j => by omega
  rwa [e] at this
theorem Spn.comb (c d : Int) (h : Spn B u) (k : Spn B v) : Spn B (fun j => c * u j - d * v j) := (Spn.smul c h).sub (Spn.smul d k)
theorem Spn.of (e : ∀ j, u j = v j) (h : Spn B u) : Spn B v := by rwa [funext e] at h
theorem Spn.trans (h : Spn A v) (k : ∀ a ∈ A, Spn B a) : Spn B v := by
  induction h with
  | zero => exact .zero
  | mem h => exact k _ h
  | add _ _ h1 h2 => exact .add h1 h2
  | smul c _ h => exact .smul c h
  | div hc _ h => exact .div hc h
theorem Spn.mono (h : Spn A v) (k : ∀ a ∈ A, a ∈ B) : Spn B v := h.trans fun a ha => .mem (k a ha)
theorem Spn.nil (h : Spn [] v) : ∀ j, v j = 0 := by
  induction h with
  | zero => intro j; rfl
  | mem h => cases h
  | add _ _ h1 h2 => intro j; show _ + _ = _; rw [h1 j, h2 j]; rfl
  | smul c _ h => intro j; show c * _ = _; rw [h j, Int.mul_zero]
  | div hc _ h => intro j; exact (Int.mul_eq_zero.mp (h j)).resolve_left hc
/-- what is zero at a place in all generators is so in the span -/
theorem Spn.zeroAt {p : Nat} (h : Spn B v) (k : ∀ b ∈ B, b p = 0) : v p = 0 := by
  induction h with
  | zero => rfl
  | mem h => exact k _ h
  | add _ _ h1 h2 => show _ + _ = _; rw [h1, h2]; rfl
  | smul c _ h => show c * _ = _; rw [h, Int.mul_zero]
  | div hc _ h => exact (Int.mul_eq_zero.mp h).resolve_left hc
/-- a generator that alone lives at p is taken out -/
theorem Spn.proj {p : Nat} (h : Spn (b :: B) v) (k : ∀ u ∈ B, u p = 0) : Spn B (fun j => b p * v j - v p * b j) := by
  induction h with
  | zero => exact Spn.zero.of fun j => by show (0 : Int) = b p * 0 - 0 * b j; simp
  | mem h =>
    rcases List.mem_cons.mp h with e | h
    · subst e
      exact Spn.zero.of fun j => by show (0 : Int) = _ - _; omega
    · refine (Spn.smul (b p) (.mem h)).of fun j => ?_
      rw [k _ h]; omega
  | @add u v _ _ h1 h2 =>
    refine (h1.add h2).of fun j => ?_
    show _ = b p * (u j + v j) - (u p + v p) * b j
    rw [Int.mul_add, Int.add_mul]; omega
  | @smul c u _ h =>
    refine (h.smul c).of fun j => ?_
    show c * (b p * u j - u p * b j) = b p * (c * u j) - c * u p * b j
    rw [Int.mul_sub, Int.mul_left_comm, Int.mul_assoc]
  | @div c hc u _ h =>
    refine Spn.div hc (h.of fun j => ?_)
    show b p * (c * u j) - c * u p * b j = c * (b p * u j - u p * b j)
    rw [Int.mul_sub, Int.mul_left_comm, Int.mul_assoc]
theorem Spn.drop {p : Nat} (h : Spn (b :: B) v) (hb : b p ≠ 0) (k : ∀ u ∈ B, u p = 0) (hv : v p = 0) : Spn B v := by
  refine Spn.div hb ((h.proj k).of fun j => ?_)
  rw [hv]; omega
end
/-! ### the first place that is not zero -/
def pv : List Int → Nat
  | [] => 0
  | x :: r => if x = 0 then pv r + 1 else 0
theorem pv_le : ∀ r : List Int, pv r ≤ r.length
  | [] => Nat.le_refl _
  | x :: r => by
    unfold pv
    split
    · have := pv_le r
      rw [List.length_cons]; omega
    · omega
theorem ent_zero (x : Int) (r : List Int) : ent (x :: r) 0 = x := rfl
theorem ent_succ (x : Int) (r : List Int) (j : Nat) : ent (x :: r) (j + 1) = ent r j := rfl
theorem ent_out {r : List Int} {j : Nat} (h : r.length ≤ j) : ent r j = 0 := by
  unfold ent
  rw [List.getD_eq_getElem?_getD, List.getElem?_eq_none h]
  rfl
theorem ent_get {r : List Int} {j : Nat} (h : j < r.length) : r[j]? = some (ent r j) := by
  unfold ent
  rw [List.getD_eq_getElem?_getD, List.getElem?_eq_getElem h]
  rfl
theorem pv_before : ∀ {r : List Int} {j : Nat}, j < pv r → ent r j = 0
  | [], j, h => by cases h
  | x :: r, j, h => by
    unfold pv at h
    split at h
    · rename_i e
      cases j with
      | zero => rw [ent_zero]; exact e
      | succ j => rw [ent_succ]; exact pv_before (by omega)
    · cases h
theorem pv_at : ∀ {r : List Int}, pv r < r.length → ent r (pv r) ≠ 0
  | [], h => by cases h
  | x :: r, h => by
    unfold pv at h ⊢
    split
    · rename_i e
      rw [if_pos e] at h
      rw [ent_succ]
      exact pv_at (by rw [List.length_cons] at h; omega)
    · rename_i e
      rw [ent_zero]; exact e
theorem pv_of {r : List Int} {p : Nat} (hp : ent r p ≠ 0) (h : ∀ j, j < p → ent r j = 0) : pv r = p := by
  have h1 : pv r ≤ p := Nat.not_lt.mp fun z => hp (pv_before z)
  have hl : p < r.length := Nat.not_le.mp fun z => hp (ent_out z)
  rcases Nat.lt_or_ge (pv r) p with z | z
  · exact absurd (h _ z) (pv_at (by omega))
  · omega
theorem pv_full {r : List Int} (h : pv r = r.length) (j : Nat) : ent r j = 0 := by
  rcases Nat.lt_or_ge j r.length with z | z
  · exact pv_before (by omega)
  · exact ent_out z
theorem pv_zero {r : List Int} (h : ∀ j, ent r j = 0) : pv r = r.length := by
  rcases Nat.lt_or_ge (pv r) r.length with z | z
  · exact absurd (h _) (pv_at z)
  · have := pv_le r; omega
theorem ext_ent {a b : List Int} (hl : a.length = b.length) (h : ∀ j, ent a j = ent b j) : a = b := by
  apply List.ext_getElem?
  intro j
  rcases Nat.lt_or_ge j a.length with z | z
  · rw [ent_get z, ent_get (by omega), h j]
  · rw [List.getElem?_eq_none z, List.getElem?_eq_none (by omega)]
/-! ### common divisors -/
def gcdL : List Int → Nat
  | [] => 0
  | x :: r => Nat.gcd x.natAbs (gcdL r)
theorem gcdL_dvd : ∀ {r : List Int} {x : Int}, x ∈ r → gcdL r ∣ x.natAbs
  | y :: r, x, h => by
    unfold gcdL
    rcases List.mem_cons.mp h with e | h
    · rw [e]; exact Nat.gcd_dvd_left _ _
    · exact Nat.dvd_trans (Nat.gcd_dvd_right _ _) (gcdL_dvd h)
theorem gcdL_mul (c : Int) : ∀ r : List Int, gcdL (r.map fun x => c * x) = c.natAbs * gcdL r
  | [] => rfl
  | x :: r => by
    show Nat.gcd (c * x).natAbs (gcdL (r.map fun x => c * x)) = c.natAbs * Nat.gcd x.natAbs (gcdL r)
    rw [gcdL_mul c r, Int.natAbs_mul, Nat.gcd_mul_left]
theorem gcdL_zero : ∀ {r : List Int}, gcdL r = 0 → ∀ j, ent r j = 0
  | [], _, j => rfl
  | x :: r, h, j => by
    have h1 := Nat.eq_zero_of_gcd_eq_zero_left h
    have h2 := Nat.eq_zero_of_gcd_eq_zero_right h
    cases j with
    | zero => rw [ent_zero]; exact Int.natAbs_eq_zero.mp h1
    | succ j => rw [ent_succ]; exact gcdL_zero h2 j
theorem gcdL_pos {r : List Int} {j : Nat} (h : ent r j ≠ 0) : 0 < gcdL r := Nat.pos_of_ne_zero fun z => h (gcdL_zero z j)
/-- the row divided by g -/
def divL (g : Int) (r : List Int) : List Int := r.map fun x => x.fdiv g
theorem divL_len {g : Int} {r : List Int} : (divL g r).length = r.length := by simp [divL]
theorem divL_ent {g : Int} {r : List Int} (hg : g.natAbs = gcdL r) (h0 : g ≠ 0) (j : Nat) : g * ent (divL g r) j = ent r j := by
  rcases Nat.lt_or_ge j r.length with z | z
  · have hm : ent r j ∈ r := List.mem_of_getElem? (ent_get z)
    have e : ent (divL g r) j = (ent r j).fdiv g := by
      have h1 : (divL g r)[j]? = some ((ent r j).fdiv g) := by
        unfold divL
        rw [List.getElem?_map, ent_get z]
        rfl
      rw [ent_get (by rw [divL_len]; exact z)] at h1
      exact Option.some.inj h1
    rw [e]
    refine Int.mul_fdiv_cancel' ?_
    have := gcdL_dvd hm
    rw [← hg] at this
    exact Int.natAbs_dvd_natAbs.mp this
  · rw [ent_out z, ent_out (by rw [divL_len]; exact z), Int.mul_zero]
theorem map_mul_ext {g : Int} {a b : List Int} (hl : a.length = b.length) (h : ∀ j, g * ent a j = ent b j) : a.map (fun x => g * x) = b := by
  refine ext_ent (by rw [List.length_map]; exact hl) fun j => ?_
  rw [← h j]
  rcases Nat.lt_or_ge j a.length with z | z
  · have h1 : (a.map fun x => g * x)[j]? = some (g * ent a j) := by rw [List.getElem?_map, ent_get z]; rfl
    rw [ent_get (by rw [List.length_map]; exact z)] at h1
    exact Option.some.inj h1
  · rw [ent_out z, ent_out (by rw [List.length_map]; exact z), Int.mul_zero]
theorem divL_gcd {g : Int} {r : List Int} (hg : g.natAbs = gcdL r) (h0 : g ≠ 0) : gcdL (divL g r) = 1 := by
  have h1 : (divL g r).map (fun x => g * x) = r := map_mul_ext divL_len (divL_ent hg h0)
  have h2 := gcdL_mul g (divL g r)
  rw [h1, ← hg] at h2
  have h3 : 0 < g.natAbs := Int.natAbs_pos.mpr h0
  have h4 : g.natAbs * 1 = g.natAbs * gcdL (divL g r) := by rw [Nat.mul_one]; exact h2
  exact (Nat.eq_of_mul_eq_mul_left h3 h4).symm
/-- two rows without common divisors of which positive multiples are equal -/
theorem par_eq {a b : List Int} {x y : Int} (hl : a.length = b.length) (hx : 0 < x) (hy : 0 < y) (ga : gcdL a = 1) (gb : gcdL b = 1) (h : ∀ j, x * ent a j = y * ent b j) : a = b := by
  have e : a.map (fun z => x * z) = b.map fun z => y * z := by
    refine map_mul_ext (by rw [List.length_map]; exact hl) fun j => ?_
    rw [h j]
    rcases Nat.lt_or_ge j b.length with z | z
    · have h1 : (b.map fun x => y * x)[j]? = some (y * ent b j) := by rw [List.getElem?_map, ent_get z]; rfl
      rw [ent_get (by rw [List.length_map]; exact z)] at h1
      exact (Option.some.inj h1).symm
    · rw [ent_out z, ent_out (by rw [List.length_map]; exact z), Int.mul_zero]
  have g1 := gcdL_mul x a
  have g2 := gcdL_mul y b
  rw [e, g2, ga, gb] at g1
  have exy : x = y := by omega
  subst exy
  refine ext_ent hl fun j => ?_
  exact Int.eq_of_mul_eq_mul_left (by omega) (h j)
/-! ### canonical bases -/
structure Ech (w : Nat) (B : List (List Int)) : Prop where
  len : ∀ b ∈ B, b.length = w
  piv : ∀ b ∈ B, pv b < w
  pos : ∀ b ∈ B, 0 < ent b (pv b)
  prm : ∀ b ∈ B, gcdL b = 1
  red : ∀ a ∈ B, ∀ b ∈ B, pv a ≠ pv b → ent a (pv b) = 0
  srt : B.Pairwise fun a b => pv a < pv b
abbrev vecs (B : List (List Int)) : List Vec := B.map ent
section
variable {w : Nat} {A B : List (List Int)} {v : Vec}
theorem Ech.tail {b : List Int} (h : Ech w (b :: B)) : Ech w B :=
  ⟨fun a ha => h.len a (List.mem_cons_of_mem _ ha), fun a ha => h.piv a (List.mem_cons_of_mem _ ha), fun a ha => h.pos a (List.mem_cons_of_mem _ ha), fun a ha => h.prm a (List.mem_cons_of_mem _ ha),
   fun a ha c hc => h.red a (List.mem_cons_of_mem _ ha) c (List.mem_cons_of_mem _ hc), (List.pairwise_cons.mp h.srt).2⟩
theorem Ech.nil : Ech w [] := ⟨(fun _ h => by cases h), (fun _ h => by cases h), (fun _ h => by cases h), (fun _ h => by cases h), (fun _ h => by cases h), List.Pairwise.nil⟩
theorem Ech.later {b : List Int} (h : Ech w (b :: B)) {a : List Int} (ha : a ∈ B) : pv b < pv a := (List.pairwise_cons.mp h.srt).1 a ha
/-- what lies in the span and is zero at all pivots is zero -/
theorem Ech.zero : ∀ {B : List (List Int)} {v : Vec}, Ech w B → Spn (vecs B) v → (∀ b ∈ B, v (pv b) = 0) → ∀ j, v j = 0
  | [], v, _, h, _ => Spn.nil h
  | b :: B, v, e, h, k => by
    have hb : ent b (pv b) ≠ 0 := by have := e.pos b (List.mem_cons_self ..); omega
    have h2 : Spn (vecs B) v := Spn.drop (b := ent b) (p := pv b) h hb (fun u hu => by
      obtain ⟨a, ha, rfl⟩ := List.mem_map.mp hu
      exact e.red a (List.mem_cons_of_mem _ ha) b (List.mem_cons_self ..) (by have := e.later ha; omega)) (k b (List.mem_cons_self ..))
    exact e.tail.zero h2 fun a ha => k a (List.mem_cons_of_mem _ ha)
/-- the first place of what lies in the span is a pivot -/
theorem Ech.lead : ∀ {B : List (List Int)} {v : Vec}, Ech w B → Spn (vecs B) v → ∀ {p : Nat}, v p ≠ 0 → (∀ j, j < p → v j = 0) → ∃ b ∈ B, pv b = p
  | [], v, _, h, p, hp, _ => absurd (Spn.nil h p) hp
  | b :: B, v, e, h, p, hp, hz => by
    by_cases hv : v (pv b) = 0
    · have hb : ent b (pv b) ≠ 0 := by have := e.pos b (List.mem_cons_self ..); omega
      have h2 : Spn (vecs B) v := Spn.drop (b := ent b) (p := pv b) h hb (fun u hu => by
        obtain ⟨a, ha, rfl⟩ := List.mem_map.mp hu
        exact e.red a (List.mem_cons_of_mem _ ha) b (List.mem_cons_self ..) (by have := e.later ha; omega)) hv
      obtain ⟨a, ha, hpa⟩ := e.tail.lead h2 hp hz
      exact ⟨a, List.mem_cons_of_mem _ ha, hpa⟩
    · refine ⟨b, List.mem_cons_self .., ?_⟩
      have h1 : p ≤ pv b := Nat.not_lt.mp fun z => hv (hz _ z)
      rcases Nat.lt_or_ge p (pv b) with z | z
      · refine absurd (Spn.zeroAt h fun u hu => ?_) hp
        obtain ⟨a, ha, rfl⟩ := List.mem_map.mp hu
        rcases List.mem_cons.mp ha with q | q
        · rw [q]; exact pv_before z
        · exact pv_before (Nat.lt_trans z (e.later q))
      · omega
theorem Ech.same (hA : Ech w A) {a b : List Int} (ha : a ∈ A) (hb : b ∈ A) (h : pv a = pv b) : a = b := by
  have key : ∀ {A : List (List Int)}, A.Pairwise (fun a b => pv a < pv b) → ∀ {a b : List Int}, a ∈ A → b ∈ A → pv a = pv b → a = b := by
    intro A
    induction A with
    | nil => intro _ a b ha; cases ha
    | cons c A ih =>
      intro hs a b ha hb h
      obtain ⟨h1, h2⟩ := List.pairwise_cons.mp hs
      rcases List.mem_cons.mp ha with e | ha
      · rcases List.mem_cons.mp hb with e' | hb
        · rw [e, e']
        · have := h1 b hb; rw [e] at h; omega
      · rcases List.mem_cons.mp hb with e' | hb
        · have := h1 a ha; rw [e'] at h; omega
        · exact ih h2 ha hb h
  exact key hA.srt ha hb h
theorem Ech.sub (hA : Ech w A) (hB : Ech w B) (h : ∀ v, Spn (vecs A) v → Spn (vecs B) v) (k : ∀ v, Spn (vecs B) v → Spn (vecs A) v) {a : List Int} (ha : a ∈ A) : a ∈ B := by
  have sa : Spn (vecs A) (ent a) := .mem (List.mem_map.mpr ⟨a, ha, rfl⟩)
  have pa := hA.pos a ha
  obtain ⟨b, hb, e⟩ := hB.lead (h _ sa) (p := pv a) (by omega) fun j hj => pv_before hj
  have sb : Spn (vecs A) (ent b) := k _ (.mem (List.mem_map.mpr ⟨b, hb, rfl⟩))
  have pb := hB.pos b hb
  have z := hA.zero (sa.comb (ent b (pv a)) (ent a (pv a)) sb) fun c hc => by
    show ent b (pv a) * ent a (pv c) - ent a (pv a) * ent b (pv c) = 0
    by_cases q : pv c = pv a
    · rw [q, Int.mul_comm]; omega
    · obtain ⟨d, hd, e2⟩ := hB.lead (h _ (.mem (List.mem_map.mpr ⟨c, hc, rfl⟩))) (p := pv c) (by have := hA.pos c hc; omega) fun j hj => pv_before hj
      rw [hA.red a ha c hc (fun z => q z.symm), ← e2, hB.red b hb d hd (by rw [e, e2]; exact fun z => q z.symm)]
      simp
  rw [← e] at z pa
  have : a = b := par_eq (x := ent b (pv b)) (y := ent a (pv b)) ((hA.len a ha).trans (hB.len b hb).symm) pb pa (hA.prm a ha) (hB.prm b hb) fun j => by
    have := z j
    omega
  rw [this]; exact hb
theorem sorted_eq : ∀ {A B : List (List Int)}, A.Pairwise (fun a b => pv a < pv b) → B.Pairwise (fun a b => pv a < pv b) → (∀ a, a ∈ A ↔ a ∈ B) → A = B
  | [], [], _, _, _ => rfl
  | [], b :: B, _, _, h => by cases (h b).mpr (List.mem_cons_self ..)
  | a :: A, [], _, _, h => by cases (h a).mp (List.mem_cons_self ..)
  | a :: A, b :: B, ha, hb, h => by
    obtain ⟨a1, a2⟩ := List.pairwise_cons.mp ha
    obtain ⟨b1, b2⟩ := List.pairwise_cons.mp hb
    have e : a = b := by
      rcases List.mem_cons.mp ((h a).mp (List.mem_cons_self ..)) with e | e
      · exact e
      · rcases List.mem_cons.mp ((h b).mpr (List.mem_cons_self ..)) with e' | e'
        · exact e'.symm
        · have := a1 b e'; have := b1 a e; omega
    subst e
    rw [sorted_eq a2 b2 fun c => ⟨fun hc => by
      rcases List.mem_cons.mp ((h c).mp (List.mem_cons_of_mem _ hc)) with e | e
      · subst e; have := a1 c hc; omega
      · exact e, fun hc => by
      rcases List.mem_cons.mp ((h c).mpr (List.mem_cons_of_mem _ hc)) with e | e
      · subst e; have := b1 c hc; omega
      · exact e⟩]
/-- A BASIS OF THIS FORM IS ONE ALONE -/
theorem Ech.uniq (hA : Ech w A) (hB : Ech w B) (h : ∀ v, Spn (vecs A) v ↔ Spn (vecs B) v) : A = B :=
  sorted_eq hA.srt hB.srt fun a => ⟨fun ha => hA.sub hB (fun v => (h v).mp) (fun v => (h v).mpr) ha, fun ha => hB.sub hA (fun v => (h v).mpr) (fun v => (h v).mp) ha⟩
end
end Lin

set_option autoImplicit false
namespace Lin
open Mx
/-! ### rows without common divisors -/
def sgnG (r : List Int) : Int := if ent r (pv r) < 0 then -(gcdL r : Int) else (gcdL r : Int)
def prim (r : List Int) : List Int := if gcdL r = 0 then r else divL (sgnG r) r
theorem sgnG_abs (r : List Int) : (sgnG r).natAbs = gcdL r := by
  unfold sgnG
  split <;> omega
theorem prim_len {r : List Int} : (prim r).length = r.length := by
  unfold prim
  split
  · rfl
  · exact divL_len
theorem prim_zero {r : List Int} (h : ∀ j, ent r j = 0) : prim r = r := by
  unfold prim
  rw [if_pos]
  rcases Nat.eq_zero_or_pos (gcdL r) with z | z
  · exact z
  · exfalso
    have key : ∀ r : List Int, (∀ j, ent r j = 0) → gcdL r = 0 := by
      intro r
      induction r with
      | nil => intro _; rfl
      | cons x r ih =>
        intro h
        have h0 := h 0
        rw [ent_zero] at h0
        subst h0
        show Nat.gcd 0 (gcdL r) = 0
        rw [ih fun j => by have := h (j + 1); rwa [ent_succ] at this]
        rfl
    rw [key r h] at z
    omega
theorem sgnG_ne {r : List Int} {j : Nat} (h : ent r j ≠ 0) : sgnG r ≠ 0 := fun z => by
  have h1 := sgnG_abs r
  rw [z] at h1
  have := gcdL_pos h
  have h2 : (0 : Int).natAbs = 0 := rfl
  omega
theorem prim_ent {r : List Int} {j : Nat} (h : ent r j ≠ 0) (i : Nat) : sgnG r * ent (prim r) i = ent r i := by
  have hp := gcdL_pos h
  unfold prim
  rw [if_neg (by omega)]
  exact divL_ent (sgnG_abs r) (sgnG_ne h) i
theorem prim_gcd {r : List Int} {j : Nat} (h : ent r j ≠ 0) : gcdL (prim r) = 1 := by
  have hp := gcdL_pos h
  unfold prim
  rw [if_neg (by omega)]
  exact divL_gcd (sgnG_abs r) (sgnG_ne h)
theorem prim_iff {r : List Int} (i : Nat) : ent (prim r) i = 0 ↔ ent r i = 0 := by
  by_cases h : ∃ j, ent r j ≠ 0
  · obtain ⟨j, h⟩ := h
    have e := prim_ent h i
    constructor
    · intro z; rw [← e, z, Int.mul_zero]
    · intro z; rw [z] at e; exact (Int.mul_eq_zero.mp e).resolve_left (sgnG_ne h)
  · have hz : ∀ j, ent r j = 0 := fun j => Classical.byContradiction fun z => h ⟨j, z⟩
    rw [prim_zero hz]
theorem pv_congr {a b : List Int} (hl : a.length = b.length) (h : ∀ i, ent a i = 0 ↔ ent b i = 0) : pv a = pv b := by
  rcases Nat.lt_or_ge (pv b) b.length with z | z
  · exact pv_of (fun q => pv_at z ((h _).mp q)) fun j hj => (h j).mpr (pv_before hj)
  · have hb : pv b = b.length := Nat.le_antisymm (pv_le b) z
    rw [hb, ← hl]
    exact pv_zero fun j => (h j).mpr (pv_full hb j)
theorem prim_pv {r : List Int} : pv (prim r) = pv r := pv_congr prim_len prim_iff
theorem prim_pos {r : List Int} (h : pv r < r.length) : 0 < ent (prim r) (pv r) := by
  have h0 := pv_at h
  have e := prim_ent h0 (pv r)
  have hp : 0 < gcdL r := gcdL_pos h0
  have hs : ent r (pv r) < 0 → sgnG r = -(gcdL r : Int) := fun z => by unfold sgnG; rw [if_pos z]
  have hs2 : ¬ ent r (pv r) < 0 → sgnG r = (gcdL r : Int) := fun z => by unfold sgnG; rw [if_neg z]
  by_cases hn : ent r (pv r) < 0
  · rw [hs hn] at e
    rcases Int.lt_or_le 0 (ent (prim r) (pv r)) with q | q
    · exact q
    · exfalso
      have : 0 ≤ -(gcdL r : Int) * ent (prim r) (pv r) := Int.mul_nonneg_of_nonpos_of_nonpos (by omega) q
      omega
  · rw [hs2 hn] at e
    rcases Int.lt_or_le 0 (ent (prim r) (pv r)) with q | q
    · exact q
    · exfalso
      have : (gcdL r : Int) * ent (prim r) (pv r) ≤ 0 := Int.mul_nonpos_of_nonneg_of_nonpos (by omega) q
      omega
theorem fdiv_abs {x g : Int} (hg : g ≠ 0) (hd : g ∣ x) : (x.fdiv g).natAbs ≤ x.natAbs := by
  obtain ⟨k, rfl⟩ := hd
  rw [Int.mul_fdiv_cancel_left _ hg, Int.natAbs_mul]
  have : 0 < g.natAbs := Int.natAbs_pos.mpr hg
  exact Nat.le_mul_of_pos_left _ this
theorem prim_bd {k : Nat} {r : List Int} (h : Bd k r) : Bd k (prim r) := by
  intro x hx
  unfold prim at hx
  split at hx
  · exact h x hx
  · rename_i hz
    obtain ⟨y, hy, rfl⟩ := List.mem_map.mp hx
    have h0 : sgnG r ≠ 0 := fun z => by
      have h1 := sgnG_abs r
      rw [z] at h1
      exact hz h1.symm
    refine Nat.lt_of_le_of_lt (fdiv_abs h0 ?_) (h y hy)
    have := gcdL_dvd hy
    rw [← sgnG_abs r] at this
    exact Int.natAbs_dvd_natAbs.mp this
/-! ### a row out of two -/
/-- s at p times b less b at p times s -/
def mixL (b s : List Int) (p : Nat) : List Int := (List.range b.length).map fun j => ent s p * ent b j - ent b p * ent s j
theorem mixL_len {b s : List Int} {p : Nat} : (mixL b s p).length = b.length := by simp [mixL]
theorem mixL_ent {b s : List Int} {p : Nat} (h : b.length = s.length) (j : Nat) : ent (mixL b s p) j = ent s p * ent b j - ent b p * ent s j := by
  rcases Nat.lt_or_ge j b.length with z | z
  · exact ent_rng z
  · rw [ent_out (by rw [mixL_len]; exact z), ent_out (r := b) (j := j) z, ent_out (r := s) (j := j) (by omega)]; simp
/-- c is a row of b's pivot, cleared at p by s -/
structure Clr (w : Nat) (b s c : List Int) (p : Nat) : Prop where
  len : c.length = w
  par : ∃ x, 0 < x ∧ ∀ j, x * ent c j = ent s p * ent b j - ent b p * ent s j
  prm : gcdL c = 1
  piv : pv c = pv b
  pos : 0 < ent c (pv c)
section
variable {w : Nat} {B : List (List Int)}
theorem clr_of {b s : List Int} {p : Nat} (hB : Ech w B) (hb : b ∈ B) (hs : s.length = w) (hp : pv s = p) (hpos : 0 < ent s p) (hz : ∀ b ∈ B, ent s (pv b) = 0) (hlt : pv b < p) : Clr w b s (prim (mixL b s p)) p := by
  have hl : b.length = s.length := (hB.len b hb).trans hs.symm
  have e : ∀ j, ent (mixL b s p) j = ent s p * ent b j - ent b p * ent s j := mixL_ent hl
  have hbp := hB.pos b hb
  have hpv : pv (mixL b s p) = pv b := by
    refine pv_of ?_ fun j hj => ?_
    · rw [e, hz b hb, Int.mul_zero, Int.sub_zero]
      exact Int.mul_ne_zero (by omega) (by omega)
    · rw [e, pv_before hj, pv_before (r := s) (j := j) (by omega)]; simp
  have h0 : ent (mixL b s p) (pv b) ≠ 0 := by
    rw [e, hz b hb, Int.mul_zero, Int.sub_zero]
    exact Int.mul_ne_zero (by omega) (by omega)
  have hlen : (mixL b s p).length = w := mixL_len.trans (hB.len b hb)
  have hpw : pv (mixL b s p) < (mixL b s p).length := by rw [hpv, hlen]; exact hB.piv b hb
  refine ⟨prim_len.trans hlen, ⟨sgnG (mixL b s p), ?_, fun j => by rw [prim_ent h0, e]⟩, prim_gcd h0, prim_pv.trans hpv, by rw [prim_pv]; exact prim_pos hpw⟩
  have hn : ¬ ent (mixL b s p) (pv (mixL b s p)) < 0 := by
    rw [hpv, e, hz b hb, Int.mul_zero, Int.sub_zero]
    have := Int.mul_pos hpos hbp
    omega
  unfold sgnG
  rw [if_neg hn]
  have := gcdL_pos h0
  omega
theorem clr_self {b s : List Int} {p : Nat} (hB : Ech w B) (hb : b ∈ B) (hpos : 0 < ent s p) (h0 : ent b p = 0) : Clr w b s b p :=
  ⟨hB.len b hb, ⟨ent s p, hpos, fun j => by rw [h0, Int.zero_mul, Int.sub_zero]⟩, hB.prm b hb, rfl, hB.pos b hb⟩
/-- rows one by one cleared -/
def ClrL (w : Nat) (s : List Int) (p : Nat) : List (List Int) → List (List Int) → Prop
  | [], [] => True
  | b :: B, c :: C => Clr w b s c p ∧ ClrL w s p B C
  | _, _ => False
theorem ClrL.snoc {s : List Int} {p : Nat} {b c : List Int} (k : Clr w b s c p) : ∀ {B C : List (List Int)}, ClrL w s p B C → ClrL w s p (B ++ [b]) (C ++ [c])
  | [], [], _ => ⟨k, trivial⟩
  | _ :: _, _ :: _, h => ⟨h.1, h.2.snoc k⟩
  | [], _ :: _, h => h.elim
  | _ :: _, [], h => h.elim
theorem ClrL.left {s : List Int} {p : Nat} : ∀ {B C : List (List Int)}, ClrL w s p B C → ∀ c ∈ C, ∃ b ∈ B, Clr w b s c p
  | _, [], _, c, hc => by cases hc
  | [], _ :: _, h, _, _ => h.elim
  | _ :: _, d :: C, h, c, hc => by
    rcases List.mem_cons.mp hc with e | hc
    · subst e; exact ⟨_, List.mem_cons_self .., h.1⟩
    · obtain ⟨b, hb, k⟩ := h.2.left c hc
      exact ⟨b, List.mem_cons_of_mem _ hb, k⟩
theorem ClrL.right {s : List Int} {p : Nat} : ∀ {B C : List (List Int)}, ClrL w s p B C → ∀ b ∈ B, ∃ c ∈ C, Clr w b s c p
  | [], _, _, b, hb => by cases hb
  | _ :: _, [], h, _, _ => h.elim
  | d :: B, _ :: _, h, b, hb => by
    rcases List.mem_cons.mp hb with e | hb
    · subst e; exact ⟨_, List.mem_cons_self .., h.1⟩
    · obtain ⟨c, hc, k⟩ := h.2.right b hb
      exact ⟨c, List.mem_cons_of_mem _ hc, k⟩
theorem ClrL.len {s : List Int} {p : Nat} : ∀ {B C : List (List Int)}, ClrL w s p B C → C.length = B.length
  | [], [], _ => rfl
  | _ :: _, _ :: _, h => by rw [List.length_cons, List.length_cons, h.2.len]
  | [], _ :: _, h => h.elim
  | _ :: _, [], h => h.elim
theorem ClrL.srt {s : List Int} {p : Nat} : ∀ {B C : List (List Int)}, ClrL w s p B C → B.Pairwise (fun a b => pv a < pv b) → C.Pairwise fun a b => pv a < pv b
  | [], [], _, _ => .nil
  | b :: B, c :: C, h, hs => by
    obtain ⟨h1, h2⟩ := List.pairwise_cons.mp hs
    refine List.pairwise_cons.mpr ⟨fun d hd => ?_, h.2.srt h2⟩
    obtain ⟨a, ha, k⟩ := h.2.left d hd
    rw [h.1.piv, k.piv]
    exact h1 a ha
  | [], _ :: _, h, _ => h.elim
  | _ :: _, [], h, _ => h.elim
/-- s is what a basis leaves of a row -/
structure Rest (w : Nat) (B : List (List Int)) (r s : List Int) : Prop where
  len : s.length = w
  zero : ∀ b ∈ B, ent s (pv b) = 0
  par : ∃ m n : Int, m ≠ 0 ∧ n ≠ 0 ∧ Spn (vecs B) (fun j => m * ent r j - n * ent s j)
theorem Rest.prim {r s : List Int} (h : Rest w B r s) : Rest w B r (Lin.prim s) := by
  refine ⟨prim_len.trans h.len, fun b hb => (prim_iff _).mpr (h.zero b hb), ?_⟩
  obtain ⟨m, n, hm, hn, k⟩ := h.par
  by_cases hz : ∃ j, ent s j ≠ 0
  · obtain ⟨j, hj⟩ := hz
    refine ⟨m, n * sgnG s, hm, Int.mul_ne_zero hn (sgnG_ne hj), k.of fun i => ?_⟩
    rw [Int.mul_assoc, prim_ent hj]
  · have hz' : ∀ j, ent s j = 0 := fun j => Classical.byContradiction fun z => hz ⟨j, z⟩
    rw [prim_zero hz']
    exact ⟨m, n, hm, hn, k⟩
theorem Rest.inside {r s : List Int} (h : Rest w B r s) (hz : ∀ j, ent s j = 0) : Spn (vecs B) (ent r) := by
  obtain ⟨m, n, hm, hn, k⟩ := h.par
  exact Spn.div hm (k.of fun j => by rw [hz j]; omega)
theorem Rest.outside {r s : List Int} (hB : Ech w B) (h : Rest w B r s) (k : Spn (vecs B) (ent r)) : ∀ j, ent s j = 0 := by
  obtain ⟨m, n, hm, hn, q⟩ := h.par
  have h1 : Spn (vecs B) (ent s) := Spn.div hn (((Spn.smul m k).sub q).of fun j => by omega)
  exact hB.zero h1 h.zero
/-- the basis with one row more -/
def extL (C : List (List Int)) (s : List Int) (D : List (List Int)) : List (List Int) := C ++ s :: D
theorem ext_ech {r s : List Int} {C : List (List Int)} (hB : Ech w B) (h : Rest w B r s) (hp : pv s < w) (hpos : 0 < ent s (pv s)) (hg : gcdL s = 1) (hC : ClrL w s (pv s) (B.filter fun b => pv b < pv s) C) :
    Ech w (extL C s (B.filter fun b => pv s < pv b)) ∧ ∀ v, Spn (vecs (extL C s (B.filter fun b => pv s < pv b))) v ↔ Spn (ent r :: vecs B) v := by
  have memC : ∀ c ∈ C, ∃ b ∈ B, pv b < pv s ∧ Clr w b s c (pv s) := fun c hc => by
    obtain ⟨b, hb, k⟩ := hC.left c hc
    obtain ⟨h1, h2⟩ := List.mem_filter.mp hb
    exact ⟨b, h1, of_decide_eq_true h2, k⟩
  have memD : ∀ {b}, b ∈ B.filter (fun b => pv s < pv b) → b ∈ B ∧ pv s < pv b := fun {b} hb => by
    obtain ⟨h1, h2⟩ := List.mem_filter.mp hb
    exact ⟨h1, of_decide_eq_true h2⟩
  have cases' : ∀ {a}, a ∈ extL C s (B.filter fun b => pv s < pv b) → a ∈ C ∨ a = s ∨ a ∈ B.filter fun b => pv s < pv b := fun {a} ha => by
    rcases List.mem_append.mp ha with z | z
    · exact .inl z
    · rcases List.mem_cons.mp z with z | z
      · exact .inr (.inl z)
      · exact .inr (.inr z)
  have at0 : ∀ {c b : List Int} {q : Nat}, Clr w b s c (pv s) → ent s (pv s) * ent b q - ent b (pv s) * ent s q = 0 → ent c q = 0 := fun {c b q} k e => by
    obtain ⟨x, hx, k2⟩ := k.par
    have := k2 q
    rw [e] at this
    exact (Int.mul_eq_zero.mp this).resolve_left (by omega)
  constructor
  · refine ⟨fun a ha => ?_, fun a ha => ?_, fun a ha => ?_, fun a ha => ?_, fun a ha b hb hne => ?_, ?_⟩
    · rcases cases' ha with z | z | z
      · obtain ⟨b, _, _, k⟩ := memC a z; exact k.len
      · rw [z]; exact h.len
      · exact hB.len a (memD z).1
    · rcases cases' ha with z | z | z
      · obtain ⟨b, hb, _, k⟩ := memC a z; rw [k.piv]; exact hB.piv b hb
      · rw [z]; exact hp
      · exact hB.piv a (memD z).1
    · rcases cases' ha with z | z | z
      · obtain ⟨b, _, _, k⟩ := memC a z; exact k.pos
      · rw [z]; exact hpos
      · exact hB.pos a (memD z).1
    · rcases cases' ha with z | z | z
      · obtain ⟨b, _, _, k⟩ := memC a z; exact k.prm
      · rw [z]; exact hg
      · exact hB.prm a (memD z).1
    · rcases cases' ha with z | z | z
      · obtain ⟨a0, ha0, hlt, k⟩ := memC a z
        refine at0 k ?_
        rcases cases' hb with y | y | y
        · obtain ⟨b0, hb0, _, k'⟩ := memC b y
          rw [k'.piv, h.zero b0 hb0, hB.red a0 ha0 b0 hb0 (by rw [← k.piv, ← k'.piv]; exact hne)]; simp
        · rw [y, Int.mul_comm]; omega
        · obtain ⟨y1, y2⟩ := memD y
          rw [h.zero b y1, hB.red a0 ha0 b y1 (by rw [← k.piv]; exact hne)]; simp
      · subst z
        rcases cases' hb with y | y | y
        · obtain ⟨b0, hb0, _, k'⟩ := memC b y
          rw [k'.piv]; exact h.zero b0 hb0
        · subst y; exact absurd rfl hne
        · exact h.zero b (memD y).1
      · obtain ⟨z1, z2⟩ := memD z
        rcases cases' hb with y | y | y
        · obtain ⟨b0, hb0, _, k'⟩ := memC b y
          rw [k'.piv]; exact hB.red a z1 b0 hb0 (by rw [← k'.piv]; exact hne)
        · subst y; exact pv_before z2
        · exact hB.red a z1 b (memD y).1 hne
    · refine List.pairwise_append.mpr ⟨hC.srt (List.Pairwise.filter _ hB.srt), List.pairwise_cons.mpr ⟨fun d hd => (memD hd).2, List.Pairwise.filter _ hB.srt⟩, fun c hc d hd => ?_⟩
      obtain ⟨b0, hb0, hlt, k⟩ := memC c hc
      rw [k.piv]
      rcases List.mem_cons.mp hd with y | y
      · rw [y]; exact hlt
      · exact Nat.lt_trans hlt (memD y).2
  · have inB : ∀ {b}, b ∈ B → Spn (ent r :: vecs B) (ent b) := fun hb => .mem (List.mem_cons_of_mem _ (List.mem_map.mpr ⟨_, hb, rfl⟩))
    obtain ⟨m, n, hm, hn, q⟩ := h.par
    have q' : Spn (ent r :: vecs B) (fun j => m * ent r j - n * ent s j) := q.mono fun a ha => List.mem_cons_of_mem _ ha
    have hr : Spn (ent r :: vecs B) (ent r) := .mem (List.mem_cons_self ..)
    have hs : Spn (ent r :: vecs B) (ent s) := Spn.div hn (((Spn.smul m hr).sub q').of fun j => by omega)
    have inE : ∀ {a}, a ∈ extL C s (B.filter fun b => pv s < pv b) → Spn (vecs (extL C s (B.filter fun b => pv s < pv b))) (ent a) := fun ha => .mem (List.mem_map.mpr ⟨_, ha, rfl⟩)
    have hs' : Spn (vecs (extL C s (B.filter fun b => pv s < pv b))) (ent s) := inE (List.mem_append_right _ (List.mem_cons_self ..))
    have hb' : ∀ {b}, b ∈ B → Spn (vecs (extL C s (B.filter fun b => pv s < pv b))) (ent b) := fun {b} hb => by
      rcases Nat.lt_trichotomy (pv b) (pv s) with z | z | z
      · obtain ⟨c, hc, k⟩ := hC.right b (List.mem_filter.mpr ⟨hb, decide_eq_true z⟩)
        obtain ⟨x, hx, k2⟩ := k.par
        have hc' := inE (List.mem_append_left _ hc)
        refine Spn.div (c := ent s (pv s)) (by omega) (((Spn.smul x hc').add (Spn.smul (ent b (pv s)) hs')).of fun j => ?_)
        rw [k2 j]; omega
      · have := h.zero b hb
        rw [z] at this; omega
      · exact inE (List.mem_append_right _ (List.mem_cons_of_mem _ (List.mem_filter.mpr ⟨hb, decide_eq_true z⟩)))
    intro v
    constructor
    · intro k
      refine k.trans fun a0 ha0 => ?_
      obtain ⟨a, ha, rfl⟩ := List.mem_map.mp ha0
      rcases cases' ha with z | z | z
      · obtain ⟨b, hb, _, k⟩ := memC a z
        obtain ⟨x, hx, k2⟩ := k.par
        exact Spn.div (c := x) (by omega) (((inB hb).comb (ent s (pv s)) (ent b (pv s)) hs).of fun j => (k2 j).symm)
      · rw [z]; exact hs
      · exact inB (memD z).1
    · intro k
      refine k.trans fun a ha => ?_
      rcases List.mem_cons.mp ha with z | z
      · rw [z]
        refine Spn.div hm (((Spn.trans q fun a ha => by
          obtain ⟨b, hb, rfl⟩ := List.mem_map.mp ha
          exact hb' hb).add (Spn.smul n hs')).of fun j => by omega)
      · obtain ⟨b, hb, rfl⟩ := List.mem_map.mp z
        exact hb' hb
end
end Lin

namespace Lin
open Mx
/-! ### pivots counted -/
theorem asc_le : ∀ {P Q : List Nat}, P.Pairwise (· < ·) → Q.Pairwise (· < ·) → (∀ x ∈ P, x ∈ Q) → P.length ≤ Q.length
  | [], _, _, _, _ => Nat.zero_le _
  | p :: P, [], _, _, h => by cases h p (List.mem_cons_self ..)
  | p :: P, q :: Q, hp, hq, h => by
    obtain ⟨p1, p2⟩ := List.pairwise_cons.mp hp
    obtain ⟨q1, q2⟩ := List.pairwise_cons.mp hq
    by_cases e : p = q
    · subst e
      have := asc_le p2 q2 fun x hx => by
        rcases List.mem_cons.mp (h x (List.mem_cons_of_mem _ hx)) with z | z
        · have := p1 x hx; omega
        · exact z
      rw [List.length_cons, List.length_cons]; omega
    · have hpq : p ∈ Q := by
        rcases List.mem_cons.mp (h p (List.mem_cons_self ..)) with z | z
        · exact absurd z e
        · exact z
      have lt := q1 p hpq
      have := asc_le hp q2 fun x hx => by
        rcases List.mem_cons.mp (h x hx) with z | z
        · rcases List.mem_cons.mp hx with y | y
          · omega
          · have := p1 x y; omega
        · exact z
      have h3 : (q :: Q).length = Q.length + 1 := rfl
      omega
section
variable {w : Nat} {A B : List (List Int)} {v : Vec}
theorem Ech.pvs (h : Ech w A) : (A.map pv).Pairwise (· < ·) := List.pairwise_map.mpr h.srt
theorem Ech.ne (h : Ech w A) {a : List Int} (ha : a ∈ A) : ent a (pv a) ≠ 0 := by have := h.pos a ha; omega
theorem mem_vecs {a : List Int} (ha : a ∈ A) : Spn (vecs A) (ent a) := .mem (List.mem_map.mpr ⟨a, ha, rfl⟩)
theorem Ech.pv_in (hA : Ech w A) (hB : Ech w B) (h : ∀ v, Spn (vecs A) v → Spn (vecs B) v) : ∀ x ∈ A.map pv, x ∈ B.map pv := fun x hx => by
  obtain ⟨a, ha, rfl⟩ := List.mem_map.mp hx
  obtain ⟨b, hb, e⟩ := hB.lead (h _ (mem_vecs ha)) (hA.ne ha) fun j hj => pv_before hj
  exact List.mem_map.mpr ⟨b, hb, e⟩
/-- DIMENSIONS GROW -/
theorem Ech.le_of (hA : Ech w A) (hB : Ech w B) (h : ∀ v, Spn (vecs A) v → Spn (vecs B) v) : A.length ≤ B.length := by
  have := asc_le hA.pvs hB.pvs (hA.pv_in hB h)
  rwa [List.length_map, List.length_map] at this
/-- a vector brought to zero at all pivots -/
theorem Ech.rest_ex : ∀ {A : List (List Int)}, Ech w A → ∀ v : Vec, ∃ (m : Int) (s : Vec), m ≠ 0 ∧ (∀ a ∈ A, s (pv a) = 0) ∧ Spn (vecs A) fun j => m * v j - s j
  | [], _, v => ⟨1, v, by decide, (fun a ha => by cases ha), Spn.zero.of fun j => by show (0 : Int) = 1 * v j - v j; omega⟩
  | a :: A, h, v => by
    obtain ⟨m, s, hm, hz, k⟩ := h.tail.rest_ex v
    have ha := h.ne (List.mem_cons_self ..)
    refine ⟨ent a (pv a) * m, fun j => ent a (pv a) * s j - s (pv a) * ent a j, Int.mul_ne_zero ha hm, fun b hb => ?_, ?_⟩
    · show ent a (pv a) * s (pv b) - s (pv a) * ent a (pv b) = 0
      rcases List.mem_cons.mp hb with e | hb
      · rw [e, Int.mul_comm]; omega
      · rw [hz b hb, h.red a (List.mem_cons_self ..) b (List.mem_cons_of_mem _ hb) (by have := h.later hb; omega)]; simp
    · refine ((Spn.smul (ent a (pv a)) (k.mono fun x hx => List.mem_cons_of_mem _ hx)).add (Spn.smul (s (pv a)) (mem_vecs (List.mem_cons_self ..)))).of fun j => ?_
      show ent a (pv a) * (m * v j - s j) + s (pv a) * ent a j = ent a (pv a) * m * v j - (ent a (pv a) * s j - s (pv a) * ent a j)
      rw [Int.mul_sub, ← Int.mul_assoc]; omega
/-- one row more -/
theorem Ech.more (hB : Ech w B) {r : List Int} (hr : r.length = w) : ∃ B', Ech w B' ∧ (∀ u, Spn (vecs B') u ↔ Spn (ent r :: vecs B) u) ∧ (Spn (vecs B) (ent r) ∧ B' = B ∨ ¬ Spn (vecs B) (ent r) ∧ B'.length = B.length + 1) := by
  by_cases hin : Spn (vecs B) (ent r)
  · refine ⟨B, hB, fun u => ⟨fun k => k.mono fun a ha => List.mem_cons_of_mem _ ha, fun k => k.trans fun a ha => ?_⟩, .inl ⟨hin, rfl⟩⟩
    rcases List.mem_cons.mp ha with z | z
    · rw [z]; exact hin
    · exact .mem z
  obtain ⟨m, s, hm, hz, q⟩ := hB.rest_ex (ent r)
  -- the rest as a row
  have so : ∀ j, w ≤ j → s j = 0 := fun j hj => by
    have h1 : (fun j => m * ent r j - s j) j = 0 := Spn.zeroAt q fun b hb => by
      obtain ⟨c, hc, rfl⟩ := List.mem_map.mp hb
      exact ent_out (by rw [hB.len c hc]; exact hj)
    have h2 : ent r j = 0 := ent_out (by omega)
    have h1 : m * ent r j - s j = 0 := h1
    rw [h2, Int.mul_zero] at h1; omega
  have es : ∀ j, ent ((List.range w).map s) j = s j := fun j => by
    rcases Nat.lt_or_ge j w with z | z
    · exact ent_rng z
    · rw [ent_out (by simpa using z), so j z]
  have rst : Rest w B r ((List.range w).map s) := ⟨by simp, fun b hb => by rw [es]; exact hz b hb, m, 1, hm, by decide, q.of fun j => by rw [es]; omega⟩
  have rs := rst.prim
  have hne : ∃ j, ent ((List.range w).map s) j ≠ 0 := Classical.byContradiction fun z => hin (rst.inside fun j => Classical.byContradiction fun y => z ⟨j, y⟩)
  obtain ⟨j0, hj0⟩ := hne
  have hpv : pv ((List.range w).map s) < ((List.range w).map s).length := by
    rcases Nat.lt_or_ge (pv ((List.range w).map s)) ((List.range w).map s).length with z | z
    · exact z
    · exact absurd (pv_full (Nat.le_antisymm (pv_le _) z) j0) hj0
  have hpos : 0 < ent (prim ((List.range w).map s)) (pv (prim ((List.range w).map s))) := by rw [prim_pv]; exact prim_pos hpv
  have hg := prim_gcd hj0
  have hpw : pv (prim ((List.range w).map s)) < w := by rw [prim_pv]; simpa using hpv
  have hpl : (prim ((List.range w).map s)).length = w := rs.len
  generalize prim ((List.range w).map s) = t at rs hpos hg hpw hpl
  have clrL_map : ∀ {A : List (List Int)} {f : List Int → List Int}, (∀ a ∈ A, Clr w a t (f a) (pv t)) → ClrL w t (pv t) A (A.map f) := by
    intro A f
    induction A with
    | nil => intro _; trivial
    | cons a A ih => intro h; exact ⟨h a (List.mem_cons_self ..), ih fun b hb => h b (List.mem_cons_of_mem _ hb)⟩
  have hC : ClrL w t (pv t) (B.filter fun b => decide (pv b < pv t)) ((B.filter fun b => decide (pv b < pv t)).map fun b => prim (mixL b t (pv t))) := clrL_map fun a ha => by
    obtain ⟨h1, h2⟩ := List.mem_filter.mp ha
    exact clr_of hB h1 hpl rfl hpos rs.zero (of_decide_eq_true h2)
  obtain ⟨e1, e2⟩ := ext_ech hB rs hpw hpos hg hC
  refine ⟨_, e1, e2, .inr ⟨hin, ?_⟩⟩
  unfold extL
  rw [List.length_append, List.length_map, List.length_cons]
  have part : ∀ A : List (List Int), (∀ a ∈ A, pv a ≠ pv t) → (A.filter fun b => decide (pv b < pv t)).length + (A.filter fun b => decide (pv t < pv b)).length = A.length := by
    intro A
    induction A with
    | nil => intro _; rfl
    | cons a A ih =>
      intro hA
      have h1 := ih fun b hb => hA b (List.mem_cons_of_mem _ hb)
      have h2 := hA a (List.mem_cons_self ..)
      rcases Nat.lt_or_gt_of_ne h2 with z | z
      · rw [List.filter_cons, if_pos (decide_eq_true z), List.filter_cons, if_neg (by simp; omega), List.length_cons, List.length_cons]; omega
      · rw [List.filter_cons, if_neg (by simp; omega), List.filter_cons, if_pos (decide_eq_true z), List.length_cons, List.length_cons]; omega
  have := part B fun a ha z => by
    have h0 := rs.zero a ha
    rw [z] at h0
    omega
  omega
/-- canonical bases of rows, and as many rows that span the same -/
theorem ech_ex : ∀ (R : List (List Int)), (∀ r ∈ R, r.length = w) → ∃ B R', Ech w B ∧ (∀ u, Spn (vecs B) u ↔ Spn (vecs R) u) ∧ (∀ x ∈ R', x ∈ R) ∧ (∀ u, Spn (vecs R') u ↔ Spn (vecs R) u) ∧ R'.length = B.length ∧ B.length ≤ R.length
  | [], _ => ⟨[], [], Ech.nil, fun u => Iff.rfl, (fun x hx => by cases hx), fun u => Iff.rfl, rfl, Nat.le_refl _⟩
  | r :: R, h => by
    obtain ⟨B, R', hB, hs, hi, hs', hl, hle⟩ := ech_ex R fun x hx => h x (List.mem_cons_of_mem _ hx)
    obtain ⟨B', hB', hs2, hor⟩ := hB.more (h r (List.mem_cons_self ..))
    have spB : ∀ u, Spn (ent r :: vecs B) u ↔ Spn (vecs (r :: R)) u := fun u => by
      constructor
      · intro k
        refine k.trans fun a ha => ?_
        rcases List.mem_cons.mp ha with z | z
        · rw [z]; exact mem_vecs (List.mem_cons_self ..)
        · exact ((hs a).mp (.mem z)).mono fun x hx => List.mem_cons_of_mem _ hx
      · intro k
        refine k.trans fun a ha => ?_
        rcases List.mem_cons.mp ha with z | z
        · rw [z]; exact .mem (List.mem_cons_self ..)
        · exact ((hs a).mpr (.mem z)).mono fun x hx => List.mem_cons_of_mem _ hx
    rcases hor with ⟨hin, e⟩ | ⟨hout, e⟩
    · subst e
      refine ⟨B', R', hB', fun u => (hs2 u).trans (spB u), fun x hx => List.mem_cons_of_mem _ (hi x hx), fun u => ?_, hl, by rw [List.length_cons]; omega⟩
      rw [hs' u, ← hs u, hs2 u, spB u]
    · refine ⟨B', r :: R', hB', fun u => (hs2 u).trans (spB u), fun x hx => ?_, fun u => ?_, by rw [List.length_cons, hl, e], by rw [e, List.length_cons]; omega⟩
      · rcases List.mem_cons.mp hx with z | z
        · rw [z]; exact List.mem_cons_self ..
        · exact List.mem_cons_of_mem _ (hi x z)
      · constructor
        · intro k
          refine k.trans fun a ha => ?_
          rcases List.mem_cons.mp ha with z | z
          · rw [z]; exact mem_vecs (List.mem_cons_self ..)
          · exact ((hs' a).mp (.mem z)).mono fun x hx => List.mem_cons_of_mem _ hx
        · intro k
          refine k.trans fun a ha => ?_
          rcases List.mem_cons.mp ha with z | z
          · rw [z]; exact mem_vecs (List.mem_cons_self ..)
          · exact ((hs' a).mpr (.mem z)).mono fun x hx => List.mem_cons_of_mem _ hx
/-- the length of a canonical basis of rows is at most their number -/
theorem Ech.le_rows (hB : Ech w B) {R : List (List Int)} (hR : ∀ r ∈ R, r.length = w) (h : ∀ v, Spn (vecs B) v → Spn (vecs R) v) : B.length ≤ R.length := by
  obtain ⟨B', _, hB', hs, _, _, _, hle⟩ := ech_ex R hR
  exact Nat.le_trans (hB.le_of hB' fun v k => (hs v).mpr (h v k)) hle
end
end Lin

namespace Lin
open Mx
/-! ### two numbers of one value -/
theorem php : ∀ (n : Nat) (f : Nat → Nat), (∀ i, i ≤ n → f i < n) → ∃ i j, i < j ∧ j ≤ n ∧ f i = f j
  | 0, f, h => absurd (h 0 (Nat.le_refl _)) (Nat.not_lt_zero _)
  | n + 1, f, h => by
    by_cases hex : ∃ i, i ≤ n ∧ f i = f (n + 1)
    · obtain ⟨i, hi, e⟩ := hex
      exact ⟨i, n + 1, by omega, Nat.le_refl _, e⟩
    · have hno : ∀ i, i ≤ n → f i ≠ f (n + 1) := fun i hi e => hex ⟨i, hi, e⟩
      have hlast := h (n + 1) (Nat.le_refl _)
      obtain ⟨i, j, hij, hj, e⟩ := php n (fun i => if f i = n then f (n + 1) else f i) fun i hi => by
        show (if f i = n then f (n + 1) else f i) < n
        have h1 := h i (by omega)
        have h2 := hno i hi
        split
        · rename_i q; omega
        · omega
      refine ⟨i, j, hij, by omega, ?_⟩
      have e : (if f i = n then f (n + 1) else f i) = if f j = n then f (n + 1) else f j := e
      have h1 := hno i (by omega)
      have h2 := hno j hj
      split at e
      · split at e
        · omega
        · exact absurd e.symm h2
      · split at e
        · exact absurd e h1
        · exact e
/-! ### digits -/
def dg (T i k : Nat) : Nat := i / T ^ k % T
theorem dg_lt {T i k : Nat} (h : 0 < T) : dg T i k < T := Nat.mod_lt _ h
theorem dg_zero (T i : Nat) : dg T i 0 = i % T := by unfold dg; rw [Nat.pow_zero, Nat.div_one]
theorem dg_succ (T i k : Nat) : dg T i (k + 1) = dg T (i / T) k := by
  unfold dg
  rw [Nat.pow_succ, Nat.mul_comm, Nat.div_div_eq_div_mul]
theorem dg_inj {T : Nat} (hT : 0 < T) : ∀ (r : Nat) {i j : Nat}, i < T ^ r → j < T ^ r → (∀ k, k < r → dg T i k = dg T j k) → i = j
  | 0, i, j, hi, hj, _ => by rw [Nat.pow_zero] at hi hj; omega
  | r + 1, i, j, hi, hj, h => by
    have h0 := h 0 (by omega)
    rw [dg_zero, dg_zero] at h0
    have e := dg_inj hT r (i := i / T) (j := j / T) (Nat.div_lt_of_lt_mul (by rw [Nat.mul_comm, ← Nat.pow_succ]; exact hi)) (Nat.div_lt_of_lt_mul (by rw [Nat.mul_comm, ← Nat.pow_succ]; exact hj)) fun k hk => by
      have := h (k + 1) (by omega)
      rwa [dg_succ, dg_succ] at this
    have h1 := Nat.div_add_mod i T
    have h2 := Nat.div_add_mod j T
    rw [e, h0] at h1
    omega
/-! ### combinations of rows -/
def lc (x : Nat → Int) : List (List Int) → Nat → Int
  | [], _ => 0
  | a :: R, c => x 0 * ent a c + lc (fun k => x (k + 1)) R c
theorem lc_sub (x y : Nat → Int) : ∀ (R : List (List Int)) (c : Nat), lc (fun k => x k - y k) R c = lc x R c - lc y R c
  | [], _ => rfl
  | a :: R, c => by
    show (x 0 - y 0) * ent a c + lc (fun k => x (k + 1) - y (k + 1)) R c = x 0 * ent a c + lc (fun k => x (k + 1)) R c - (y 0 * ent a c + lc (fun k => y (k + 1)) R c)
    rw [lc_sub (fun k => x (k + 1)) (fun k => y (k + 1)) R c, Int.sub_mul]
    omega
theorem lc_sp : ∀ (R : List (List Int)) (x : Nat → Int), Spn (vecs R) (lc x R)
  | [], x => .zero
  | a :: R, x => ((Spn.smul (x 0) (mem_vecs (List.mem_cons_self ..))).add ((lc_sp R fun k => x (k + 1)).mono fun v hv => List.mem_cons_of_mem _ hv)).of fun j => rfl
theorem lc_abs {N M : Nat} : ∀ {R : List (List Int)} {x : Nat → Int} {c : Nat}, (∀ k, k < R.length → (x k).natAbs ≤ N) → (∀ a ∈ R, (ent a c).natAbs ≤ M) → (lc x R c).natAbs ≤ R.length * (N * M)
  | [], _, _, _, _ => by show (0 : Int).natAbs ≤ _; exact Nat.zero_le _
  | a :: R, x, c, hx, ha => by
    show (x 0 * ent a c + lc (fun k => x (k + 1)) R c).natAbs ≤ (R.length + 1) * (N * M)
    have h1 : (x 0 * ent a c).natAbs ≤ N * M := by
      rw [Int.natAbs_mul]
      exact Nat.mul_le_mul (hx 0 (by rw [List.length_cons]; omega)) (ha a (List.mem_cons_self ..))
    have h2 := lc_abs (R := R) (x := fun k => x (k + 1)) (c := c) (fun k hk => hx (k + 1) (by rw [List.length_cons]; omega)) fun b hb => ha b (List.mem_cons_of_mem _ hb)
    have h3 := Int.natAbs_add_le (x 0 * ent a c) (lc (fun k => x (k + 1)) R c)
    rw [Nat.add_mul, Nat.one_mul]
    omega
/-- a row whose factor is not zero in a combination that is zero lies in the span of the others -/
theorem lc_dep : ∀ {R : List (List Int)} {x : Nat → Int} {k : Nat}, k < R.length → x k ≠ 0 → ∀ (A : List Vec), Spn A (lc x R) → ∃ R2 : List (List Int), R2.length + 1 = R.length ∧ (∀ a ∈ R2, a ∈ R) ∧ ∀ a ∈ R, Spn (A ++ vecs R2) (ent a)
  | [], _, _, hk, _, _, _ => absurd hk (Nat.not_lt_zero _)
  | a :: R, x, 0, _, hx, A, h => by
    have mem : ∀ b ∈ R, Spn (A ++ vecs R) (ent b) := fun b hb => .mem (List.mem_append_right _ (List.mem_map.mpr ⟨b, hb, rfl⟩))
    refine ⟨R, rfl, fun b hb => List.mem_cons_of_mem _ hb, fun b hb => ?_⟩
    rcases List.mem_cons.mp hb with e | hb
    · rw [e]
      have h1 : Spn (A ++ vecs R) (lc (fun k => x (k + 1)) R) := (lc_sp R _).mono fun v hv => List.mem_append_right _ hv
      have h2 : Spn (A ++ vecs R) (lc x (a :: R)) := h.mono fun v hv => List.mem_append_left _ hv
      refine Spn.div hx ((h2.sub h1).of fun j => ?_)
      show x 0 * ent a j + lc (fun k => x (k + 1)) R j - lc (fun k => x (k + 1)) R j = x 0 * ent a j
      omega
    · exact mem b hb
  | a :: R, x, k + 1, hk, hx, A, h => by
    have h1 : Spn (ent a :: A) (lc (fun k => x (k + 1)) R) := by
      refine ((h.mono (B := ent a :: A) fun v hv => List.mem_cons_of_mem _ hv).sub (Spn.smul (x 0) (.mem (List.mem_cons_self ..)))).of fun j => ?_
      show x 0 * ent a j + lc (fun k => x (k + 1)) R j - x 0 * ent a j = lc (fun k => x (k + 1)) R j
      omega
    obtain ⟨R2, e, hi, hs⟩ := lc_dep (R := R) (x := fun k => x (k + 1)) (k := k) (by rw [List.length_cons] at hk; omega) hx (ent a :: A) h1
    refine ⟨a :: R2, by rw [List.length_cons, List.length_cons, e], fun b hb => ?_, fun b hb => ?_⟩
    · rcases List.mem_cons.mp hb with z | z
      · rw [z]; exact List.mem_cons_self ..
      · exact List.mem_cons_of_mem _ (hi b z)
    · rcases List.mem_cons.mp hb with z | z
      · rw [z]; exact .mem (List.mem_append_right _ (List.mem_cons_self ..))
      · refine (hs b z).mono fun v hv => ?_
        rcases List.mem_append.mp hv with y | y
        · rcases List.mem_cons.mp y with u | u
          · rw [u]; exact List.mem_append_right _ (List.mem_cons_self ..)
          · exact List.mem_append_left _ u
        · exact List.mem_append_right _ (List.mem_cons_of_mem _ y)
/-! ### numbers out of small ones -/
def code (S : Nat) (y : Nat → Nat) : List Nat → Nat
  | [] => 0
  | c :: cs => y c + S * code S y cs
theorem code_lt {S : Nat} {y : Nat → Nat} : ∀ {cs : List Nat}, (∀ c ∈ cs, y c < S) → code S y cs < S ^ cs.length
  | [], _ => by show 0 < S ^ 0; rw [Nat.pow_zero]; decide
  | c :: cs, h => by
    have h1 := h c (List.mem_cons_self ..)
    have h2 := code_lt (cs := cs) fun d hd => h d (List.mem_cons_of_mem _ hd)
    show y c + S * code S y cs < S ^ (cs.length + 1)
    have h3 : S * (code S y cs + 1) ≤ S * S ^ cs.length := Nat.mul_le_mul_left _ h2
    rw [Nat.mul_add, Nat.mul_one] at h3
    rw [Nat.pow_succ, Nat.mul_comm (S ^ cs.length)]
    omega
theorem code_inj {S : Nat} {y z : Nat → Nat} : ∀ {cs : List Nat}, (∀ c ∈ cs, y c < S) → (∀ c ∈ cs, z c < S) → code S y cs = code S z cs → ∀ c ∈ cs, y c = z c
  | [], _, _, _, c, hc => by cases hc
  | d :: cs, hy, hz, e, c, hc => by
    have y1 := hy d (List.mem_cons_self ..)
    have z1 := hz d (List.mem_cons_self ..)
    have e : y d + S * code S y cs = z d + S * code S z cs := e
    have e1 : y d = z d := by
      have h1 : (y d + S * code S y cs) % S = y d := by rw [Nat.add_mul_mod_self_left, Nat.mod_eq_of_lt y1]
      have h2 : (z d + S * code S z cs) % S = z d := by rw [Nat.add_mul_mod_self_left, Nat.mod_eq_of_lt z1]
      rw [← h1, e, h2]
    have e2 : code S y cs = code S z cs := Nat.eq_of_mul_eq_mul_left (by omega) (show S * code S y cs = S * code S z cs by omega)
    rcases List.mem_cons.mp hc with q | q
    · rw [q]; exact e1
    · exact code_inj (fun x hx => hy x (List.mem_cons_of_mem _ hx)) (fun x hx => hz x (List.mem_cons_of_mem _ hx)) e2 c q
/-- SMALL SOLUTIONS: fewer places than rows -/
theorem siegel {R : List (List Int)} {cs : List Nat} {M N : Nat} (hb : ∀ a ∈ R, ∀ c, (ent a c).natAbs ≤ M) (hl : (2 * (R.length * (N * M)) + 1) ^ cs.length < (N + 1) ^ R.length) :
    ∃ x : Nat → Int, (∀ k, (x k).natAbs ≤ N) ∧ (∃ k, k < R.length ∧ x k ≠ 0) ∧ ∀ c ∈ cs, lc x R c = 0 := by
  let L := R.length * (N * M)
  let X : Nat → Nat → Int := fun i k => (dg (N + 1) i k : Int)
  have hX : ∀ i k, (X i k).natAbs ≤ N := fun i k => by
    show ((dg (N + 1) i k : Nat) : Int).natAbs ≤ N
    have := dg_lt (T := N + 1) (i := i) (k := k) (by omega)
    omega
  have hlc : ∀ i c, (lc (X i) R c).natAbs ≤ L := fun i c => lc_abs (fun k _ => hX i k) fun a ha => hb a ha c
  let Y : Nat → Nat → Nat := fun i c => (lc (X i) R c + L).toNat
  have hY : ∀ i c, Y i c < 2 * L + 1 := fun i c => by
    show (lc (X i) R c + L).toNat < 2 * L + 1
    have := hlc i c
    omega
  have hsm : ∀ i, i ≤ (2 * L + 1) ^ cs.length → code (2 * L + 1) (Y i) cs < (2 * L + 1) ^ cs.length := fun i _ => code_lt fun c _ => hY i c
  obtain ⟨i, j, hij, hj, e⟩ := php _ (fun i => code (2 * L + 1) (Y i) cs) hsm
  have e2 := code_inj (fun c _ => hY i c) (fun c _ => hY j c) e
  refine ⟨fun k => X j k - X i k, fun k => ?_, ?_, fun c hc => ?_⟩
  · show ((dg (N + 1) j k : Nat) - (dg (N + 1) i k : Nat) : Int).natAbs ≤ N
    have h1 := dg_lt (T := N + 1) (i := i) (k := k) (by omega)
    have h2 := dg_lt (T := N + 1) (i := j) (k := k) (by omega)
    omega
  · refine Classical.byContradiction fun z => ?_
    have hd : ∀ k, k < R.length → dg (N + 1) i k = dg (N + 1) j k := fun k hk => by
      have h0 : X j k - X i k = 0 := Classical.byContradiction fun y => z ⟨k, hk, y⟩
      have h0 : ((dg (N + 1) j k : Nat) : Int) - (dg (N + 1) i k : Nat) = 0 := h0
      omega
    have := dg_inj (by omega) R.length (Nat.lt_of_lt_of_le (Nat.lt_of_lt_of_le hij hj) (Nat.le_of_lt hl)) (Nat.lt_of_le_of_lt hj hl) hd
    omega
  · rw [lc_sub]
    have h1 : (lc (X i) R c + L).toNat = (lc (X j) R c + L).toNat := e2 c hc
    have h2 := hlc i c
    have h3 := hlc j c
    omega
/-! ### the numbers of canonical bases -/
section
variable {w : Nat} {A B : List (List Int)} {v : Vec}
/-- a vector of the span that is zero at all pivots but b's, and not zero: b's numbers are no greater -/
theorem Ech.below (hB : Ech w B) {b : List Int} (hb : b ∈ B) (hv : Spn (vecs B) v) (hz : ∀ a ∈ B, pv a ≠ pv b → v (pv a) = 0) (hn : ∃ j, v j ≠ 0) (j : Nat) : (ent b j).natAbs ≤ (v j).natAbs := by
  have bp := hB.pos b hb
  have hbl := hB.len b hb
  have e : ∀ j, ent b (pv b) * v j = v (pv b) * ent b j := fun j => by
    have := hB.zero (Spn.comb (ent b (pv b)) (v (pv b)) hv (mem_vecs hb)) (fun a ha => by
      show ent b (pv b) * v (pv a) - v (pv b) * ent b (pv a) = 0
      by_cases q : pv a = pv b
      · rw [q, Int.mul_comm]; omega
      · rw [hz a ha q, hB.red b hb a ha (fun z => q z.symm)]; simp) j
    have this : ent b (pv b) * v j - v (pv b) * ent b j = 0 := this
    omega
  have hvp : v (pv b) ≠ 0 := fun z => by
    obtain ⟨i, hi⟩ := hn
    have := e i
    rw [z, Int.zero_mul] at this
    exact (Int.mul_ne_zero (by omega) hi) this
  have vo : ∀ j, w ≤ j → v j = 0 := fun j hj => Spn.zeroAt hv fun u hu => by
    obtain ⟨a, ha, rfl⟩ := List.mem_map.mp hu
    exact ent_out (by rw [hB.len a ha]; exact hj)
  -- the divisor
  have hvl : ∀ j, ent ((List.range w).map v) j = v j := fun j => by
    rcases Nat.lt_or_ge j w with z | z
    · exact ent_rng z
    · rw [ent_out (by simpa using z), vo j z]
  have e2 : ((List.range w).map v).map (fun z => ent b (pv b) * z) = b.map fun z => v (pv b) * z := by
    refine map_mul_ext (by rw [List.length_map, List.length_map, hbl, List.length_range]) fun j => ?_
    rw [hvl, e j]
    rcases Nat.lt_or_ge j b.length with z | z
    · have h1 : (b.map fun x => v (pv b) * x)[j]? = some (v (pv b) * ent b j) := by rw [List.getElem?_map, ent_get z]; rfl
      rw [ent_get (by rw [List.length_map]; exact z)] at h1
      exact (Option.some.inj h1).symm
    · rw [ent_out z, ent_out (by rw [List.length_map]; exact z), Int.mul_zero]
  have g1 := gcdL_mul (v (pv b)) b
  have g2 := gcdL_mul (ent b (pv b)) ((List.range w).map v)
  rw [e2, g1, hB.prm b hb, Nat.mul_one] at g2
  have gp : 0 < gcdL ((List.range w).map v) := gcdL_pos (j := pv b) (by rw [hvl]; exact hvp)
  have hle : (ent b (pv b)).natAbs ≤ (v (pv b)).natAbs := by rw [g2]; exact Nat.le_mul_of_pos_right _ gp
  have e3 : (ent b (pv b)).natAbs * (v j).natAbs = (v (pv b)).natAbs * (ent b j).natAbs := by rw [← Int.natAbs_mul, ← Int.natAbs_mul, e j]
  have hp : 0 < (ent b (pv b)).natAbs := by omega
  refine Nat.le_of_mul_le_mul_left ?_ hp
  rw [e3]
  exact Nat.mul_le_mul_right _ hle
/-- THE BOUND -/
theorem Ech.bound (hB : Ech w B) (hw : w ≤ 63) {R : List (List Int)} (hR : ∀ r ∈ R, r.length = w) (hs : ∀ u, Spn (vecs B) u ↔ Spn (vecs R) u) {q : Nat} (hq : ∀ r ∈ R, Bd q r) : ∀ b ∈ B, Bd (B.length * (q + 7)) b := by
  intro b hb
  obtain ⟨B', R', hB', hs', hi, hsR, hl, _⟩ := ech_ex R hR
  have eB : B' = B := hB'.uniq hB fun u => (hs' u).trans (hs u).symm
  subst eB
  have hle : B'.length ≤ w := by
    have := asc_le (P := B'.map pv) (Q := List.range w) hB'.pvs (by exact List.pairwise_lt_range) fun x hx => by
      obtain ⟨a, ha, rfl⟩ := List.mem_map.mp hx
      exact List.mem_range.mpr (hB'.piv a ha)
    rw [List.length_map, List.length_range] at this
    exact this
  have hpos : 0 < B'.length := List.length_pos_of_mem hb
  -- the other pivots
  have pvne : ∀ c ∈ (B'.map pv).erase (pv b), c ∈ B'.map pv := fun c hc => List.mem_of_mem_erase hc
  have hmem : pv b ∈ B'.map pv := List.mem_map.mpr ⟨b, hb, rfl⟩
  have hcl : ((B'.map pv).erase (pv b)).length = B'.length - 1 := by rw [List.length_erase_of_mem hmem, List.length_map]
  let T := 2 ^ ((q + 7) * (B'.length - 1))
  have hT : 0 < T := Nat.pow_pos (by decide)
  have hent : ∀ a ∈ R', ∀ c, (ent a c).natAbs ≤ 2 ^ q := fun a ha c => Nat.le_of_lt ((hq a (hi a ha)).ent c)
  have e64 : 2 ^ (q + 7) = 128 * 2 ^ q := by rw [Nat.pow_add, Nat.mul_comm]
  have hq0 : 0 < 2 ^ q := Nat.pow_pos (by decide)
  have hTq : 0 < T * 2 ^ q := Nat.mul_pos hT hq0
  have eS : 2 ^ (q + 7) * T = 128 * (T * 2 ^ q) := by rw [e64, Nat.mul_assoc, Nat.mul_comm (2 ^ q) T]
  have hrT : R'.length * (T * 2 ^ q) ≤ 63 * (T * 2 ^ q) := Nat.mul_le_mul_right _ (by omega)
  have hS : 2 * (R'.length * (T * 2 ^ q)) + 1 ≤ 2 ^ (q + 7) * T := by
    rw [eS]
    generalize T * 2 ^ q = z at hTq hrT ⊢
    omega
  have eT : 2 ^ (q + 7) * T = 2 ^ ((q + 7) * B'.length) := by
    show 2 ^ (q + 7) * 2 ^ ((q + 7) * (B'.length - 1)) = _
    rw [← Nat.pow_add]
    congr 1
    conv => rhs; rw [show B'.length = 1 + (B'.length - 1) by omega, Nat.mul_add, Nat.mul_one]
  have hlt : (2 * (R'.length * (T * 2 ^ q)) + 1) ^ ((B'.map pv).erase (pv b)).length < (T + 1) ^ R'.length := by
    rw [hcl]
    have h1 := Nat.pow_le_pow_left hS (B'.length - 1)
    have h2 : (2 ^ (q + 7) * T) ^ (B'.length - 1) = T ^ R'.length := by
      rw [eT, hl]
      show _ = (2 ^ ((q + 7) * (B'.length - 1))) ^ B'.length
      rw [← Nat.pow_mul, ← Nat.pow_mul, Nat.mul_assoc, Nat.mul_assoc, Nat.mul_comm B'.length]
    rw [h2] at h1
    exact Nat.lt_of_le_of_lt h1 (Nat.pow_lt_pow_left (by omega) (by omega))
  obtain ⟨x, hx, ⟨k, hk, hxk⟩, hc⟩ := siegel (R := R') (cs := (B'.map pv).erase (pv b)) (M := 2 ^ q) (N := T) hent hlt
  have hvs : Spn (vecs B') (lc x R') := (hs _).mpr ((hsR _).mp (lc_sp R' x))
  have hne : ∃ j, lc x R' j ≠ 0 := Classical.byContradiction fun z => by
    have hz0 : ∀ j, lc x R' j = 0 := fun j => Classical.byContradiction fun y => z ⟨j, y⟩
    obtain ⟨R2, e2, hi2, hs2⟩ := lc_dep hk hxk [] (Spn.zero.of fun j => (hz0 j).symm)
    have := hB.le_rows (R := R2) (fun r hr => hR r (hi r (hi2 r hr))) fun u ku => by
      refine ((hsR u).mpr ((hs u).mp ku)).trans fun a ha => ?_
      obtain ⟨c, hcc, rfl⟩ := List.mem_map.mp ha
      have := hs2 c hcc
      rwa [List.nil_append] at this
    omega
  have hzc : ∀ a ∈ B', pv a ≠ pv b → lc x R' (pv a) = 0 := fun a ha q2 => hc _ ((List.mem_erase_of_ne q2).mpr (List.mem_map.mpr ⟨a, ha, rfl⟩))
  intro y hy
  obtain ⟨j, hj, e⟩ := List.mem_iff_getElem.mp hy
  have e1 : ent b j = y := Option.some.inj ((ent_get hj).symm.trans ((List.getElem?_eq_getElem hj).trans (congrArg some e)))
  rw [← e1]
  refine Nat.lt_of_le_of_lt (hB.below hb hvs hzc hne j) ?_
  refine Nat.lt_of_le_of_lt (lc_abs (N := T) (M := 2 ^ q) (fun k _ => hx k) fun a ha => hent a ha j) ?_
  rw [Nat.mul_comm B'.length, ← eT, eS]
  generalize T * 2 ^ q = z at hTq hrT ⊢
  omega
end
end Lin

def topS (i : Nat) : Stmt := PySem.Challenge.pw_sharedboard_k22_spaces_made.main.body.getD i (.Pass ⟨0, 0, 0, 0⟩)
def methS (i j : Nat) : Stmt := match topS i with
  | .ClassDef (body := b) .. => b.getD j (.Pass ⟨0, 0, 0, 0⟩)
  | s => s
local macro_rules | `(tactic| walk_at "strside") => `(tactic| first | assumption | ((try simp only [str_len_append, len_lit, len_empty, String.reduceToList, List.length_cons, List.length_nil, Nat.zero_add, Nat.reduceAdd]); omega))
local macro_rules | `(tactic| walk_at "flats") => `(tactic| (repeat (first | exact flats_nil | refine flats_cons trivial ?_)))
local macro_rules | `(tactic| walk_at "mulside") => `(tactic| first | assumption | exact mulL (by omega) | exact mulR (by omega))
local macro_rules | `(tactic| walk_at "divside") => `(tactic| first | assumption | exact divS (by omega))
local macro_rules | `(tactic| walk_at "wp1") => `(tactic| first
  | with_reducible refine Go.go ?_
  | refine GoH1.go ⟨_, rfl, ?_⟩
  | refine GoH2.go ⟨_, _, rfl, ?_⟩
  | ((with_reducible refine ex_id ?_); first | ((with_reducible refine' i_inKd2 (b := true) ?hh ?_); (case hh => decide +kernel)) | ((with_reducible refine' i_inKd2 (b := false) ?hh ?_); (case hh => decide +kernel)) | ((with_reducible refine' i_atKd2 ?hh ?_); (case hh => first | exact kdAt_set | exact kdAt_carry | exact kdAt_keep | exact kdAt_either | exact kdAt_again | exact kdAt_call | exact kdAt_end)) | ((with_reducible refine' i_jstr ?hh ?_); (case hh => walk_at "strside")) | ((with_reducible refine' i_callPP2 ?hh ?hk ?hf ?_); (case hh => exact rfl); (case hk => exact rfl); (case hf => walk_at "flats")) | ((with_reducible refine' i_catT2 ?hh ?_); (case hh => ((try simp only [List.length_cons, List.length_nil, List.length_append, List.length_map, List.length_range]); omega))) | ((with_reducible refine' i_fld2 ?hc ?hl ?_); (case hc => assumption); (case hl => exact rfl)) | ((with_reducible refine' i_putI2 ?hh ?hc ?hl ?_); (case hh => exact rfl); (case hc => assumption); (case hl => exact Nat.le_of_ble_eq_true rfl)) | ((with_reducible refine' i_meth2 ?hl ?_); (case hl => exact rfl)) | ((with_reducible refine' i_scr2 ?hh ?_); (case hh => exact rfl)) | ((with_reducible refine' i_ir1' ?hh ?_); (case hh => ((try simp only [List.length_cons, List.length_nil, List.length_append, List.length_map, List.length_range]); omega))) | ((with_reducible refine' i_ir2' ?hh ?_); (case hh => ((try simp only [List.length_cons, List.length_nil, List.length_append, List.length_map, List.length_range]); omega))) | ((with_reducible refine' i_ixO2 ?hh ?hk ?_); (case hh => exact rfl); (case hk => exact rfl)) | ((with_reducible refine' i_sti2 ?hh ?hk ?_); (case hh => exact rfl); (case hk => exact rfl)) | ((with_reducible refine' i_cat2 ?hh ?_); (case hh => ((try simp only [List.length_cons, List.length_nil, List.length_append, List.length_map, List.length_range]); omega))) | ((with_reducible refine' i_app2 ?hh ?hk ?_); (case hh => exact rfl); (case hk => ((try simp only [List.length_cons, List.length_nil, List.length_append, List.length_map, List.length_range]); omega))) | ((with_reducible refine' i_ext2 ?hh ?hk ?_); (case hh => exact rfl); (case hk => ((try simp only [List.length_cons, List.length_nil, List.length_append, List.length_map, List.length_range]); omega))))
  | ((with_reducible refine and_id ?_); first | ((with_reducible refine' i_own ?hh ?_); (case hh => exact rfl)) | ((with_reducible refine' i_sz ?hh ?_); (case hh => ((try simp only [List.length_cons, List.length_nil, List.length_append, List.length_map, List.length_range]); omega))) | ((with_reducible refine' i_szL ?hh ?_); (case hh => ((try simp only [List.length_cons, List.length_nil, List.length_append, List.length_map, List.length_range]); omega))) | ((with_reducible refine' i_szE ?hh ?_); (case hh => ((try simp only [List.length_cons, List.length_nil, List.length_append, List.length_map, List.length_range]); omega))))
  | ((with_reducible refine or_id ?_); first | ((with_reducible refine' i_fmtI ?hh ?_); (case hh => omega)) | ((with_reducible refine' i_fmtS ?hh ?_); (case hh => walk_at "strside")))
  | ((with_reducible refine' i_mYes ?hh ?_); (case hh => decide +kernel))
  | ((with_reducible refine' i_mNo ?hh ?_); (case hh => decide +kernel))
  | ((with_reducible refine' i_strI ?hh ?_); (case hh => omega))
  | ((with_reducible refine' i_addS ?hh ?_); (case hh => walk_at "strside"))
  | ((with_reducible refine' i_callPP ?hn ?hh ?hk ?_); (case hn => decide); (case hh => exact rfl); (case hk => exact rfl))
  | ((with_reducible refine' i_retI ?hh ?_); (case hh => exact rfl))
  | ((with_reducible refine' i_varI ?hh ?_); (case hh => exact rfl))
  | ((with_reducible refine' i_fldI ?hh ?hc ?hl ?_); (case hh => exact rfl); (case hc => assumption); (case hl => exact rfl))
  | ((with_reducible refine' i_modN ?hh ?_); (case hh => first | assumption | omega))
  | ((with_reducible refine' i_fdvA ?hh ?_); (case hh => first | assumption | omega))
  | ((with_reducible refine' i_varO ?hh ?_); (case hh => exact rfl))
  | ((with_reducible refine' i_gtup ?hh ?_); (case hh => exact rfl))
  | ((with_reducible refine' i_callPL ?hn ?hh ?hk ?_); (case hn => decide); (case hh => exact rfl); (case hk => exact rfl))
  | ((with_reducible refine' i_slS ?hh ?_); (case hh => exact rfl))
  | ((with_reducible refine' i_mul ?hh ?_); (case hh => walk_at "mulside"))
  | ((with_reducible refine' i_mod ?hh ?_); (case hh => omega))
  | ((with_reducible refine' i_fdv ?hh ?_); (case hh => walk_at "divside"))
  | ((with_reducible refine' i_pow ?hh ?_); (case hh => exact ⟨by decide, by decide, by decide⟩))
  | dsimp +instances only [truD_n, truD_b, truD_i, truD_s, truD_l, truD_t, isB_o, isB_e, isI_o, isI_e, isS_o, isS_e, isL_o, isL_e, isU_o, isU_e, isB_n, isB_b, isB_i, isB_s, isB_l, isB_t, isI_n, isI_b, isI_i, isI_s, isI_l, isI_t, isS_n, isS_b, isS_i, isS_s, isS_l, isS_t, isL_n, isL_b, isL_i, isL_s, isL_l, isL_t, isU_n, isU_b, isU_i, isU_s, isU_l, isU_t, beqB_t, beqB_f, val_d, val_f, nite_f, nite_t, not_t, not_f, or_t, or_f])
local macro_rules | `(tactic| walk_at "wp") => `(tactic| repeat walk_at "wp1")


/-! ### rows: pivots, common divisors -/
abbrev s_is_integer : Stmt := topS 6
theorem sc_is_integer : FnScope ["value"] ["value"] (defScope s_is_integer) := ⟨rfl, rfl, rfl, by decide +kernel, rfl, by decide +kernel, by decide +kernel⟩

abbrev s_is_vector : Stmt := topS 7
theorem sc_is_vector : FnScope ["value", "width", "number"] ["value", "width"] (defScope s_is_vector) := ⟨rfl, rfl, rfl, by decide +kernel, rfl, by decide +kernel, by decide +kernel⟩

abbrev s_pivot : Stmt := topS 10
theorem sc_pivot : FnScope ["row", "at", "number"] ["row"] (defScope s_pivot) := ⟨rfl, rfl, rfl, by decide +kernel, rfl, by decide +kernel, by decide +kernel⟩

abbrev s_common_divisor : Stmt := topS 11
theorem sc_common_divisor : FnScope ["row", "divisor", "number"] ["row"] (defScope s_common_divisor) := ⟨rfl, rfl, rfl, by decide +kernel, rfl, by decide +kernel, by decide +kernel⟩

abbrev s_primitive : Stmt := topS 12
theorem sc_primitive : FnScope ["row", "at", "divisor", "number"] ["row"] (defScope s_primitive) := ⟨rfl, rfl, rfl, by decide +kernel, rfl, by decide +kernel, by decide +kernel⟩

abbrev s_cleared : Stmt := topS 13
theorem sc_cleared : FnScope ["row", "base", "at", "factor", "scale", "a", "b"] ["row", "base"] (defScope s_cleared) := ⟨rfl, rfl, rfl, by decide +kernel, rfl, by decide +kernel, by decide +kernel⟩

open Mx Lin
theorem intL_rng {n : Nat} {f : Nat → Int} : intL ((List.range n).map f) = dLs n fun i => .int (f i) := by
  unfold intL dLs
  rw [List.map_map]
  rfl
theorem intL_ent {ns : List Int} {n : Nat} (h : ns.length = n) : intL ns = dLs n fun i => .int (ent ns i) := by
  subst h
  rw [← intL_rng, rng_ent]
theorem intL_get {ns : List Int} {i : Nat} {d : D} (h : (intL ns)[i]? = some d) : d = .int (ent ns i) ∧ i < ns.length := by
  rw [intL_ent rfl] at h
  exact dLs_inv h
theorem intL_at {ns : List Int} {i : Nat} (h : i < ns.length) : atI (intL ns) (i : Int) = some (.int (ent ns i)) := by
  rw [intL_ent rfl]
  exact dLs_at h
def isInt (d : D) : Bool := isI d && !isB d
def isVec (w : Int) : D → Bool
  | .lst ds => decide ((ds.length : Int) = w) && ds.all isInt
  | _ => false
/-- a thing that may be asked whether it is a vector -/
def okV (K : PySem.W.Frag) : D → Prop
  | .lst ds => ds.length ≤ 100000 ∧ ∀ d ∈ ds, okC K d
  | d => okC K d
theorem okV.c {K : PySem.W.Frag} {d : D} (h : okV K d) : okC K d := by
  cases d <;> first | exact h | trivial
theorem isVec_ints {ns : List Int} {w : Nat} (h : ns.length = w) : isVec w (.lst (intL ns)) = true := by
  show (decide (((intL ns).length : Int) = w) && (intL ns).all isInt) = true
  rw [List.length_map, h, decide_eq_true rfl, Bool.true_and]
  refine List.all_eq_true.mpr fun d hd => ?_
  obtain ⟨i, _, rfl⟩ := List.mem_map.mp hd
  rfl
def spec_isint (K : PySem.W.Frag) : SpecD := SpecD.of (fun d : D => [d]) (okC K) (fun d r => r = .d (.bl (isInt d)))
def spec_isvec (K : PySem.W.Frag) : SpecD := SpecD.of (fun a : D × Int => [a.1, .int a.2]) (fun a => okV K a.1) (fun a r => r = .d (.bl (isVec a.2 a.1)))
def spec_pivot : SpecD := SpecD.of (fun r : List Int => [.lst (intL r)]) (fun r => r.length ≤ 100000) (fun r v => v = .d (.int (pv r)))
def spec_gcd : SpecD := SpecD.of (fun r : List Int => [.lst (intL r)]) (fun r => r.length ≤ 100000) (fun r v => v = .d (.int (gcdL r)))
def spec_prim : SpecD := SpecD.of (fun r : List Int => [.lst (intL r)]) (fun r => r.length ≤ 100000) (fun r v => v = .f (intL (prim r)))
def clrF (b s : List Int) : List Int := if ent b (pv s) = 0 then b else prim (mixL b s (pv s))
def spec_clr : SpecD := SpecD.of (fun a : List Int × List Int × Nat × Nat => [.lst (intL a.1), .lst (intL a.2.1)]) (fun a => a.1.length = a.2.1.length ∧ pv a.2.1 < a.2.1.length ∧ a.2.1.length ≤ 100000 ∧ Bd a.2.2.1 a.1 ∧ Bd a.2.2.2 a.2.1 ∧ a.2.2.1 + a.2.2.2 ≤ 134217728) (fun a v => v.val = .lst (intL (clrF a.1 a.2.1)))
theorem gcd_step {d n : Int} (hn : n ≠ 0) : Nat.gcd n.natAbs (d.fmod n).natAbs = Nat.gcd d.natAbs n.natAbs := by
  have e : d.fmod n = d - n * d.fdiv n := Int.fmod_def d n
  apply Nat.dvd_antisymm
  · refine Nat.dvd_gcd ?_ (Nat.gcd_dvd_left _ _)
    have h1 : ((Nat.gcd n.natAbs (d.fmod n).natAbs : Nat) : Int) ∣ n := Int.ofNat_dvd_left.mpr (Nat.gcd_dvd_left _ _)
    have h2 : ((Nat.gcd n.natAbs (d.fmod n).natAbs : Nat) : Int) ∣ d.fmod n := Int.ofNat_dvd_left.mpr (Nat.gcd_dvd_right _ _)
    have h3 : d = d.fmod n + n * d.fdiv n := by omega
    have : ((Nat.gcd n.natAbs (d.fmod n).natAbs : Nat) : Int) ∣ d := by
      have h4 := Int.dvd_add h2 (Int.dvd_mul_of_dvd_left (c := d.fdiv n) h1)
      rwa [← h3] at h4
    exact Int.ofNat_dvd_left.mp this
  · refine Nat.dvd_gcd (Nat.gcd_dvd_right _ _) ?_
    have h1 : ((Nat.gcd d.natAbs n.natAbs : Nat) : Int) ∣ n := Int.ofNat_dvd_left.mpr (Nat.gcd_dvd_right _ _)
    have h2 : ((Nat.gcd d.natAbs n.natAbs : Nat) : Int) ∣ d := Int.ofNat_dvd_left.mpr (Nat.gcd_dvd_left _ _)
    have : ((Nat.gcd d.natAbs n.natAbs : Nat) : Int) ∣ d.fmod n := by
      rw [e]
      exact Int.dvd_sub h2 (Int.dvd_mul_of_dvd_left h1)
    exact Int.ofNat_dvd_left.mp this
theorem fmod_lt {d n : Int} (hn : n ≠ 0) : (d.fmod n).natAbs < n.natAbs := by
  rcases Int.lt_or_lt_of_ne hn with h | h
  · have h1 : (-d).fmod (-n) = -(d.fmod n) := Int.neg_fmod_neg d n
    have h2 : 0 ≤ (-d).fmod (-n) := Int.fmod_nonneg_of_pos _ (by omega)
    have h3 : (-d).fmod (-n) < -n := Int.fmod_lt_of_pos _ (by omega)
    omega
  · have h2 : 0 ≤ d.fmod n := Int.fmod_nonneg_of_pos _ h
    have h3 : d.fmod n < n := Int.fmod_lt_of_pos _ h
    omega
theorem gcdL_snoc (x : Int) : ∀ r : List Int, gcdL (r ++ [x]) = Nat.gcd (gcdL r) x.natAbs
  | [] => by show Nat.gcd x.natAbs 0 = Nat.gcd 0 x.natAbs; rw [Nat.gcd_zero_right, Nat.gcd_zero_left]
  | y :: r => by
    show Nat.gcd y.natAbs (gcdL (r ++ [x])) = Nat.gcd (Nat.gcd y.natAbs (gcdL r)) x.natAbs
    rw [gcdL_snoc x r, Nat.gcd_assoc]
theorem take_snoc {r : List Int} {i : Nat} (h : i < r.length) : r.take (i + 1) = r.take i ++ [ent r i] := by
  rw [List.take_add_one, ent_get h]
  rfl
section
variable {P : Program} {w : World} {K : PySem.W.Frag} {mg : Str → Option Value} {base : Heap}
theorem ok_is_integer (M : Blt mg) (G_is_integer : Gf K mg "is_integer" s_is_integer ["value"]) : FnOk P w K mg base CX0 1 G_is_integer.f G_is_integer.fd ["value"] (spV K (spec_isint K)) := by
  refine fn_ok G_is_integer.F sc_is_integer (fun ds Q ⟨a, e, _⟩ => by rw [e]; rfl) fun cdv A outer s0 H E hr => ⟨_, _, (dss_one (ds_ret (de_and (de_isi K kit_I M.isinstance M.int (by decide +kernel) (de_var 0)) (de_one (de_not (de_isi K kit_B M.isinstance M.bool (by decide +kernel) (de_var 0))))))), ?_⟩
  rintro ds Q ⟨d, rfl, hd, q⟩
  have q1 := q _ rfl
  clear q
  walk_at "wp"
  refine ⟨hd, ?_⟩
  walk_at "wp"
  refine i_iteB (fun h => ?_) (fun h => ?_)
  · walk_at "wp"
    refine ⟨hd, ?_⟩
    walk_at "wp"
    rw [isInt, h, Bool.true_and] at q1
    exact q1
  · walk_at "wp"
    rw [isInt, h, Bool.false_and] at q1
    exact q1
theorem ok_is_vector (M : Blt mg) (G_is_integer : Gf K mg "is_integer" s_is_integer ["value"]) (G_is_vector : Gf K mg "is_vector" s_is_vector ["value", "width"]) : FnOk P w K mg base CX0 2 G_is_vector.f G_is_vector.fd ["value", "width"] (spV K (spec_isvec K)) := by
  have H_is_integer := ok_is_integer (P := P) (w := w) (base := base) M G_is_integer
  refine fn_ok G_is_vector.F sc_is_vector (fun ds Q ⟨a, e, _⟩ => by rw [e]; rfl) fun cdv A outer s0 H E hr => ⟨_, _, (dss_one (ds_ret (de_and (de_isi K kit_L M.isinstance M.list (by decide +kernel) (de_var 0)) (de_and (de_eq (de_callB cs_len call_len_seq M.len PySem.boot_len (da_cons (de_var 0) da_nil)) (de_var 1)) (de_one (de_callB cs_all (cr_all rfl) M.all (by decide +kernel) (da_cons (DF.v (df_lc (own := [("number", 2)]) rfl sc_is_vector.nd (di_list K (de_var 0)) (blkOk_by (by rfl)) (fun _ _ _ _ _ => (dg_name (i := 2) sc_is_vector.nd)) (gin_name (by decide)) gmo_name (fun _ _ _ _ _ => dts_nil) (fun _ _ _ _ _ => (de_call K H_is_integer (hr.mono (by decide)) G_is_integer.g G_is_integer.F.kp G_is_integer.b (da_cons (de_var 2) da_nil))))) da_nil))))))), ?_⟩
  rintro ds Q ⟨⟨d, wd⟩, rfl, hd, q⟩
  have q1 := q _ rfl
  clear q
  replace hd : okV K d := hd
  replace q1 : Q (.d (.bl (isVec wd d))) := q1
  cases d with
  | lst ds =>
    obtain ⟨hz, hds⟩ := hd
    walk_at "wp"
    refine i_ite (fun h => ?_) (fun h => ?_)
    · walk_at "wp"
      refine i_mapN (n := ds.length) (fun i => ds.getD i .non) (fun i => .bl (isInt (ds.getD i .non))) ?_ hz rfl (fun i hi R hR => ?_) ?_
      · apply List.ext_getElem?
        intro i
        by_cases hi : i < ds.length
        · rw [dLs_get hi, List.getElem?_eq_getElem hi, List.getD_eq_getElem?_getD, List.getElem?_eq_getElem hi]; rfl
        · rw [List.getElem?_eq_none (by omega), List.getElem?_eq_none (by rw [dLs_len]; omega)]
      · walk_at "wp"
        refine ⟨_, rfl, hds _ ?_, fun r hr => ?_⟩
        · rw [List.getD_eq_getElem?_getD, List.getElem?_eq_getElem hi]
          exact List.getElem_mem _
        · subst hr
          exact hR _ rfl
      · walk_at "wp"
        refine i_allN ?_
        have e : (((List.range ds.length).map fun i => isInt (ds.getD i .non)).all id) = ds.all isInt := by
          have e1 : ds = (List.range ds.length).map fun i => ds.getD i .non := by
            apply List.ext_getElem?
            intro i
            rw [List.getElem?_map]
            by_cases hi : i < ds.length
            · rw [List.getElem?_range hi, List.getElem?_eq_getElem hi]
              show _ = some (ds.getD i .non)
              rw [List.getD_eq_getElem?_getD, List.getElem?_eq_getElem hi]; rfl
            · rw [List.getElem?_eq_none (by omega), List.getElem?_eq_none (by rw [List.length_range]; omega)]; rfl
          conv => rhs; rw [e1]
          rw [List.all_map, List.all_map]
          rfl
        rw [e]
        have e3 : isVec wd (.lst ds) = ds.all isInt := by
          show (decide ((ds.length : Int) = wd) && ds.all isInt) = _
          rw [decide_eq_true h, Bool.true_and]
        rw [e3] at q1
        exact q1
    · walk_at "wp"
      have e3 : isVec wd (.lst ds) = false := by
        show (decide ((ds.length : Int) = wd) && ds.all isInt) = _
        rw [decide_eq_false h, Bool.false_and]
      rw [e3] at q1
      exact q1
  | obj C fs =>
    walk_at "wp"
    refine ⟨hd, ?_⟩
    walk_at "wp"
    exact q1
  | ref p => exact (show False from hd).elim
  | _ => walk_at "wp"; exact q1
theorem ok_pivot (M : Blt mg) (G_pivot : Gf K mg "pivot" s_pivot ["row"]) : FnOk P w K mg base CX0 1 G_pivot.f G_pivot.fd ["row"] (spV K spec_pivot) := by
  refine fn_ok G_pivot.F sc_pivot (fun ds Q ⟨a, e, _⟩ => by rw [e]; rfl) fun cdv A outer s0 H E hr => ⟨_, _, (dss_cons (ds_for PassesOwn.never rfl (di_enum K M.enumerate (da_cons (de_var 0) da_nil)) (dg_tup K (n := 2) rfl (dgs_cons (dg_name (i := 1) sc_pivot.nd) (dgs_cons (dg_name (i := 2) sc_pivot.nd) dgs_nil))) (dss_one (ds_if (dt_ne (de_var 2) de_int) (dss_one (ds_ret (de_var 1))) dss_nil)))
      (dss_one (ds_ret (de_callB cs_len call_len_seq M.len PySem.boot_len (da_cons (de_var 0) da_nil))))), ?_⟩
  rintro ds Q ⟨r, rfl, hz, q⟩
  have q1 := q _ rfl
  clear q
  replace hz : r.length ≤ 100000 := hz
  walk_at "wp"
  rw [intL_ent rfl, dLs_enum]
  refine ⟨fun i γ => i ≤ r.length ∧ (∀ j, j < i → ent r j = 0) ∧ ∃ s1 s2, γ = [.val (.lst (dLs r.length fun i => .int (ent r i))), s1, s2], ⟨Nat.zero_le _, fun j hj => absurd hj (Nat.not_lt_zero _), _, _, rfl⟩, ?_, ?_⟩
  · rintro i d γ hd ⟨hi, hj, s1, s2, rfl⟩
    obtain ⟨rfl, hi⟩ := dLs_inv hd
    walk_at "wp"
    refine i_iteN (fun h => ?_) (fun h => ?_)
    · walk_at "wp"
      rw [← pv_of h hj]
      exact q1
    · walk_at "wp"
      refine ⟨hi, fun j hj2 => ?_, _, _, rfl⟩
      rcases Nat.lt_or_ge j i with z | z
      · exact hj j z
      · have : j = i := by omega
        rw [this]; exact h
  · rintro γ ⟨hi, hj, s1, s2, rfl⟩
    rw [dLs_len] at hj
    walk_at "wp"
    rw [dLs_len]
    have e : pv r = r.length := pv_zero fun j => by
      rcases Nat.lt_or_ge j r.length with z | z
      · exact hj j z
      · exact ent_out z
    rw [e] at q1
    exact q1
theorem ok_common_divisor (M : Blt mg) (G_common_divisor : Gf K mg "common_divisor" s_common_divisor ["row"]) : FnOk P w K mg base CX0 1 G_common_divisor.f G_common_divisor.fd ["row"] (spV K spec_gcd) := by
  refine fn_ok G_common_divisor.F sc_common_divisor (fun ds Q ⟨a, e, _⟩ => by rw [e]; rfl) fun cdv A outer s0 H E hr => ⟨_, _, (dss_cons (ds_set (i := 1) sc_common_divisor.nd de_int)
      (dss_cons (ds_for PassesOwn.never rfl (di_list K (de_var 0)) (dg_name (i := 2) sc_common_divisor.nd) (dss_one (ds_while PassesOwn.never (dt_ne (de_var 2) de_int) (dss_one (ds_par (i := 1) (j := 2) rfl sc_common_divisor.nd (de_var 2) (de_modN (de_var 1) (de_var 2)))))))
      (dss_one (ds_ret (de_callB cs_abs call_abs M.abs (by decide +kernel) (da_cons (de_var 1) da_nil)))))), ?_⟩
  rintro ds Q ⟨r, rfl, hz, q⟩
  have q1 := q _ rfl
  clear q
  replace hz : r.length ≤ 100000 := hz
  walk_at "wp"
  refine ⟨fun i γ => i ≤ r.length ∧ ∃ (d : Int) (s2 : Sl), d.natAbs = gcdL (r.take i) ∧ γ = [.val (.lst (intL r)), .val (.int d), s2], ⟨Nat.zero_le _, 0, _, rfl, rfl⟩, ?_, ?_⟩
  · rintro i d γ hd ⟨hi, g, s2, hg, rfl⟩
    obtain ⟨rfl, hi⟩ := intL_get hd
    walk_at "wp"
    refine ⟨fun m γ => ∃ (a b : Int), γ = [.val (.lst (intL r)), .val (.int a), .val (.int b)] ∧ Nat.gcd a.natAbs b.natAbs = gcdL (r.take (i + 1)) ∧ b.natAbs = m, ⟨_, g, ent r i, rfl, ?_, rfl⟩, ?_⟩
    · rw [take_snoc hi, gcdL_snoc, hg]
    · rintro m γ ⟨a, b, rfl, hab, rfl⟩
      walk_at "wp"
      refine i_iteN (fun h => ?_) (fun h => ?_)
      · walk_at "wp"
        exact ⟨_, fmod_lt h, b, a.fmod b, rfl, by rw [gcd_step h]; exact hab, rfl⟩
      · subst h
        walk_at "wp"
        refine ⟨hi, a, _, ?_, rfl⟩
        rw [← hab]
        exact (Nat.gcd_zero_right _).symm
  · rintro γ ⟨hi, g, s2, hg, rfl⟩
    rw [List.length_map, List.take_length] at hg
    walk_at "wp"
    have e : (if g < 0 then -g else g) = (gcdL r : Int) := by rw [← hg]; split <;> omega
    rw [e]
    exact q1
theorem ok_primitive (M : Blt mg) (hSeer : seerB K = true) (hTree : P.given.tree = none) (G_pivot : Gf K mg "pivot" s_pivot ["row"]) (G_common_divisor : Gf K mg "common_divisor" s_common_divisor ["row"]) (G_primitive : Gf K mg "primitive" s_primitive ["row"]) : FnOk P w K mg base CX0 33 G_primitive.f G_primitive.fd ["row"] (spV K spec_prim) := by
  have H_pivot := ok_pivot (P := P) (w := w) (base := base) M G_pivot
  have H_common_divisor := ok_common_divisor (P := P) (w := w) (base := base) M G_common_divisor
  refine fn_ok G_primitive.F sc_primitive (fun ds Q ⟨a, e, _⟩ => by rw [e]; rfl) fun cdv A outer s0 H E hr => ⟨_, _, (dss_cons (ds_set (i := 1) sc_primitive.nd (de_call K H_pivot (hr.mono (by decide)) G_pivot.g G_pivot.F.kp G_pivot.b (da_cons (de_var 0) da_nil)))
      (dss_cons (ds_if (dt_eq (de_var 1) (de_callB cs_len call_len_seq M.len PySem.boot_len (da_cons (de_var 0) da_nil))) (dss_one (ds_retF (df_list K M.list (de_var 0)))) dss_nil)
      (dss_cons (ds_set (i := 2) sc_primitive.nd (de_call K H_common_divisor (hr.mono (by decide)) G_common_divisor.g G_common_divisor.F.kp G_common_divisor.b (da_cons (de_var 0) da_nil)))
      (dss_cut (ds_if (dt_lt (de_ix K (de_var 0) (de_var 1)) de_int) (dss_one (ds_set (i := 2) sc_primitive.nd (de_neg (de_var 2)))) dss_nil)
      (dss_one (ds_retF (df_lc (own := [("number", 3)]) rfl sc_primitive.nd (di_list K (de_var 0)) (blkOk_by (by rfl)) (fun _ _ _ _ _ => (dg_name (i := 3) sc_primitive.nd)) (gin_name (by decide)) gmo_name (fun _ _ _ _ _ => dts_nil) (fun _ _ _ _ _ => (de_fdvA K hSeer hTree hr (de_var 3) (de_var 2)))))))))), ?_⟩
  rintro ds Q ⟨r, rfl, hz, q⟩
  have q1 := q _ rfl
  clear q
  replace hz : r.length ≤ 100000 := hz
  walk_at "wp"
  refine ⟨r, rfl, hz, fun v hv => ?_⟩
  subst hv
  walk_at "wp"
  refine i_ite (fun h => ?_) (fun h => ?_)
  · walk_at "wp"
    rw [List.length_map] at h
    have e : prim r = r := prim_zero (pv_full (by omega))
    rw [e] at q1
    exact q1
  · rw [List.length_map] at h
    have hp : pv r < r.length := by have := pv_le r; omega
    walk_at "wp"
    refine ⟨r, rfl, hz, fun v hv => ?_⟩
    subst hv
    walk_at "wp"
    refine ⟨fun γ => ∃ g : Int, g = sgnG r ∧ γ = [.val (.lst (intL r)), .val (.int (pv r)), .val (.int g), .any], ?_, ?_⟩
    · walk_at "wp"
      refine i_ixL (intL_at hp) ?_
      walk_at "wp"
      refine i_ite (fun h => ?_) (fun h => ?_)
      · walk_at "wp"
        exact ⟨_, by unfold sgnG; rw [if_pos h], rfl⟩
      · walk_at "wp"
        exact ⟨_, by unfold sgnG; rw [if_neg h], rfl⟩
    · rintro γ ⟨g, rfl, rfl⟩
      have h0 : sgnG r ≠ 0 := sgnG_ne (pv_at hp)
      walk_at "wp"
      refine i_mapN (n := r.length) (fun i => .int (ent r i)) (fun i => .int ((ent r i).fdiv (sgnG r))) (intL_ent rfl) hz rfl (fun i hi R hR => ?_) ?_
      · walk_at "wp"
        exact hR _ rfl
      · walk_at "wp"
        have e : (dLs r.length fun i => D.int ((ent r i).fdiv (sgnG r))) = intL (prim r) := by
          have e1 : prim r = (List.range r.length).map fun i => (ent r i).fdiv (sgnG r) := by
            unfold prim
            rw [if_neg (by have := gcdL_pos (pv_at hp); omega)]
            unfold divL
            generalize sgnG r = g
            conv => lhs; rw [← rng_ent r]
            rw [List.map_map]
            rfl
          rw [e1, intL_rng]
        rw [e]
        exact q1
theorem ok_cleared (M : Blt mg) (hSeer : seerB K = true) (hTree : P.given.tree = none) (G_pivot : Gf K mg "pivot" s_pivot ["row"]) (G_common_divisor : Gf K mg "common_divisor" s_common_divisor ["row"]) (G_primitive : Gf K mg "primitive" s_primitive ["row"]) (G_cleared : Gf K mg "cleared" s_cleared ["row", "base"]) : FnOk P w K mg base CX0 34 G_cleared.f G_cleared.fd ["row", "base"] (spV K spec_clr) := by
  have H_pivot := ok_pivot (P := P) (w := w) (base := base) M G_pivot
  have H_primitive := ok_primitive (P := P) (w := w) (base := base) M hSeer hTree G_pivot G_common_divisor G_primitive
  refine fn_ok G_cleared.F sc_cleared (fun ds Q ⟨a, e, _⟩ => by rw [e]; rfl) fun cdv A outer s0 H E hr => ⟨_, _, (dss_cons (ds_set (i := 2) sc_cleared.nd (de_call K H_pivot (hr.mono (by decide)) G_pivot.g G_pivot.F.kp G_pivot.b (da_cons (de_var 1) da_nil)))
      (dss_cons (ds_set (i := 3) sc_cleared.nd (de_ix K (de_var 0) (de_var 2)))
      (dss_cons (ds_if (dt_eq (de_var 3) de_int) (dss_one (ds_ret (de_var 0))) dss_nil)
      (dss_cons (ds_set (i := 4) sc_cleared.nd (de_ix K (de_var 1) (de_var 2)))
      (dss_one (ds_ret (DF.v (df_call K H_primitive (hr.mono (by decide)) G_primitive.g G_primitive.F.kp G_primitive.b (da_cons (DF.v (df_lc (own := [("a", 5), ("b", 6)]) rfl sc_cleared.nd (di_zip K M.zip (da_cons (de_var 0) (da_cons (de_var 1) da_nil))) (blkOk_by (by rfl)) (fun _ _ _ _ _ => (dg_tup K (n := 2) rfl (dgs_cons (dg_name (i := 5) sc_cleared.nd) (dgs_cons (dg_name (i := 6) sc_cleared.nd) dgs_nil)))) (gin_tup (gsin_two (by decide) (by decide))) (gmo_tup (gsmo_cons gmo_name (gsmo_cons gmo_name gsmo_nil))) (fun _ _ _ _ _ => dts_nil) (fun _ _ _ _ _ => (de_sub (de_mulK (de_var 4) (de_var 5)) (de_mulK (de_var 3) (de_var 6)))))) da_nil))))))))), ?_⟩
  rintro ds Q ⟨⟨b, s, k, l⟩, rfl, ⟨hl, hp, hz, bb, bs, hkl⟩, q⟩
  replace hl : b.length = s.length := hl
  replace hp : pv s < s.length := hp
  replace hz : s.length ≤ 100000 := hz
  replace bb : Bd k b := bb
  replace bs : Bd l s := bs
  replace hkl : k + l ≤ 134217728 := hkl
  replace q : ∀ r : Rv, r.val = .lst (intL (clrF b s)) → Q r := q
  walk_at "wp"
  refine ⟨s, rfl, hz, fun v hv => ?_⟩
  subst hv
  walk_at "wp"
  refine i_ixL (intL_at (by omega)) ?_
  walk_at "wp"
  refine i_ite (fun h => ?_) (fun h => ?_)
  · walk_at "wp"
    refine q _ ?_
    show D.lst (intL b) = _
    rw [clrF, if_pos h]
  · walk_at "wp"
    refine i_ixL (intL_at (by omega)) ?_
    walk_at "wp"
    refine i_mapN (n := b.length) (fun i => .tup [.int (ent b i), .int (ent s i)]) (fun j => .int (ent s (pv s) * ent b j - ent b (pv s) * ent s j)) ?_ (by omega) rfl (fun i hi R hR => ?_) ?_
    · rw [intL_ent (ns := b) rfl, intL_ent hl.symm, dLs_zip]
    · walk_at "wp"
      refine i_mul (fitsB (bs.ent _) (bb.ent _) (by omega)) ?_
      walk_at "wp"
      refine i_mul (fitsB (bb.ent _) (bs.ent _) (by omega)) ?_
      walk_at "wp"
      exact hR _ rfl
    · walk_at "wp"
      refine ⟨mixL b s (pv s), ?_, by show (mixL b s (pv s)).length ≤ 100000; rw [mixL_len]; omega, fun v hv => ?_⟩
      · exact congrArg (fun l => [D.lst l]) intL_rng.symm
      · subst hv
        walk_at "wp"
        refine q _ ?_
        show D.lst (intL (prim (mixL b s (pv s)))) = _
        rw [clrF, if_neg h]
end

/-! ### bases -/
abbrev s_remainder : Stmt := topS 14
theorem sc_remainder : FnScope ["basis", "row", "multiple", "base", "at", "rest", "factor", "number", "a", "b"] ["basis", "row"] (defScope s_remainder) := ⟨rfl, rfl, rfl, by decide +kernel, rfl, by decide +kernel, by decide +kernel⟩

abbrev s_extended : Stmt := topS 15
theorem sc_extended : FnScope ["basis", "row", "rest", "at", "ahead", "base"] ["basis", "row"] (defScope s_extended) := ⟨rfl, rfl, rfl, by decide +kernel, rfl, by decide +kernel, by decide +kernel⟩

abbrev s_reduced : Stmt := topS 16
theorem sc_reduced : FnScope ["rows", "basis", "row"] ["rows"] (defScope s_reduced) := ⟨rfl, rfl, rfl, by decide +kernel, rfl, by decide +kernel, by decide +kernel⟩

abbrev s_contains : Stmt := topS 17
def BdL (k : Nat) (B : List (List Int)) : Prop := ∀ b ∈ B, Bd k b
theorem BdL.le {j k : Nat} {B : List (List Int)} (h : BdL j B) (hk : j ≤ k) : BdL k B := fun b hb => (h b hb).le hk
/-- the span of rows -/
abbrev Sp (B : List (List Int)) (v : Vec) : Prop := Spn (vecs B) v
/-- what is asked of a basis and a row of k, l bits -/
structure PreB (w : Nat) (B : List (List Int)) (r : List Int) (k l : Nat) : Prop where
  ech : Ech w B
  len : r.length = w
  wid : w ≤ 49
  bb : BdL k B
  br : Bd l r
  fit : (B.length + 2) * k + l + 120 ≤ 60000000
theorem ech_len : ∀ {B : List (List Int)} {w p : Nat}, B.Pairwise (fun a b => pv a < pv b) → (∀ b ∈ B, p ≤ pv b ∧ pv b < w) → B.length + p ≤ w ∨ B = []
  | [], _, _, _, _ => .inr rfl
  | b :: B, w, p, hs, h => by
    obtain ⟨h1, h2⟩ := List.pairwise_cons.mp hs
    obtain ⟨hb1, hb2⟩ := h b (List.mem_cons_self ..)
    refine .inl ?_
    rcases ech_len (p := p + 1) h2 (fun c hc => ⟨by have := h1 c hc; omega, (h c (List.mem_cons_of_mem _ hc)).2⟩) with z | z
    · rw [List.length_cons]; omega
    · subst z; rw [List.length_cons, List.length_nil]; omega
theorem Lin.Ech.le {w : Nat} {B : List (List Int)} (h : Ech w B) : B.length ≤ w := by
  rcases ech_len (p := 0) h.srt (fun b hb => ⟨Nat.zero_le _, h.piv b hb⟩) with z | z
  · omega
  · subst z; exact Nat.zero_le _
def spec_rem : SpecD := SpecD.of (fun a : Nat × List (List Int) × List Int × Nat × Nat => [.lst (rowsD a.2.1), .lst (intL a.2.2.1)]) (fun a => PreB a.1 a.2.1 a.2.2.1 a.2.2.2.1 a.2.2.2.2)
  (fun a v => ∃ s, v = .d (.lst (intL s)) ∧ Rest a.1 a.2.1 a.2.2.1 s ∧ Bd ((a.2.1.length + 1) * a.2.2.2.1 + a.2.2.2.2 + 7) s)
section
variable {P : Program} {w : World} {K : PySem.W.Frag} {mg : Str → Option Value} {base : Heap}
theorem ok_remainder (M : Blt mg) (hSeer : seerB K = true) (hTree : P.given.tree = none) (G_pivot : Gf K mg "pivot" s_pivot ["row"]) (G_common_divisor : Gf K mg "common_divisor" s_common_divisor ["row"]) (G_remainder : Gf K mg "remainder" s_remainder ["basis", "row"]) : FnOk P w K mg base CX0 34 G_remainder.f G_remainder.fd ["basis", "row"] (spV K spec_rem) := by
  have H_pivot := ok_pivot (P := P) (w := w) (base := base) M G_pivot
  have H_common_divisor := ok_common_divisor (P := P) (w := w) (base := base) M G_common_divisor
  refine fn_ok G_remainder.F sc_remainder (fun ds Q ⟨a, e, _⟩ => by rw [e]; rfl) fun cdv A outer s0 H E hr => ⟨_, _, (dss_cons (ds_set (i := 2) sc_remainder.nd de_int)
      (dss_cons (ds_for PassesOwn.never rfl (di_list K (de_var 0)) (dg_name (i := 3) sc_remainder.nd) (dss_cons (ds_set (i := 4) sc_remainder.nd (de_call K H_pivot (hr.mono (by decide)) G_pivot.g G_pivot.F.kp G_pivot.b (da_cons (de_var 3) da_nil)))
      (dss_one (ds_if (dt_ne (de_ix K (de_var 1) (de_var 4)) de_int) (dss_one (ds_set (i := 2) sc_remainder.nd (de_fdvA K hSeer hTree hr (de_mulK (de_var 2) (de_ix K (de_var 3) (de_var 4))) (de_call K H_common_divisor (hr.mono (by decide)) G_common_divisor.g G_common_divisor.F.kp G_common_divisor.b (da_cons (DF.v (df_lst (da_cons (de_var 2) (da_cons (de_ix K (de_var 3) (de_var 4)) da_nil)))) da_nil))))) dss_nil))))
      (dss_cons (ds_setLc (i := 5) (own := [("number", 7)]) rfl sc_remainder.nd (di_list K (de_var 1)) (blkOk_by (by rfl)) (fun _ _ _ _ _ => (dg_name (i := 7) sc_remainder.nd)) (gin_name (by decide)) gmo_name (fun _ _ _ _ _ => dts_nil) (fun _ _ _ _ _ => (de_mulK (de_var 2) (de_var 7))))
      (dss_frz 5 (dss_cons (ds_for PassesOwn.never rfl (di_list K (de_var 0)) (dg_name (i := 3) sc_remainder.nd) (dss_cons (ds_set (i := 4) sc_remainder.nd (de_call K H_pivot (hr.mono (by decide)) G_pivot.g G_pivot.F.kp G_pivot.b (da_cons (de_var 3) da_nil)))
      (dss_cons (ds_set (i := 6) sc_remainder.nd (de_mulK (de_fdvA K hSeer hTree hr (de_var 2) (de_ix K (de_var 3) (de_var 4))) (de_ix K (de_var 1) (de_var 4))))
      (dss_one (ds_if (dt_ne (de_var 6) de_int) (dss_cons (ds_setLc (i := 5) (own := [("a", 8), ("b", 9)]) rfl sc_remainder.nd (di_zip K M.zip (da_cons (de_var 5) (da_cons (de_var 3) da_nil))) (blkOk_by (by rfl)) (fun _ _ _ _ _ => (dg_tup K (n := 2) rfl (dgs_cons (dg_name (i := 8) sc_remainder.nd) (dgs_cons (dg_name (i := 9) sc_remainder.nd) dgs_nil)))) (gin_tup (gsin_two (by decide) (by decide))) (gmo_tup (gsmo_cons gmo_name (gsmo_cons gmo_name gsmo_nil))) (fun _ _ _ _ _ => dts_nil) (fun _ _ _ _ _ => (de_sub (de_var 8) (de_mulK (de_var 6) (de_var 9)))))
      (dss_frz 5 dss_nil)) dss_nil)))))
      (dss_one (ds_ret (de_var 5)))))))), ?_⟩
  rintro ds Q ⟨⟨w, B, r, k, l⟩, rfl, pre, q⟩
  replace q : ∀ v, (∃ s, v = .d (.lst (intL s)) ∧ Rest w B r s ∧ Bd ((B.length + 1) * k + l + 7) s) → Q v := q
  obtain ⟨hB, hr, hw, bb, br, hfit⟩ := pre
  replace hB : Ech w B := hB
  replace hr : r.length = w := hr
  replace hw : w ≤ 49 := hw
  replace bb : BdL k B := bb
  replace br : Bd l r := br
  have hBl : B.length ≤ w := hB.le
  replace hfit : (B.length + 2) * k + l + 120 ≤ 60000000 := hfit
  have hBk : (B.length + 2) * k = B.length * k + 2 * k := by rw [Nat.add_mul]
  have hBk1 : (B.length + 1) * k = B.length * k + k := by rw [Nat.add_mul, Nat.one_mul]
  walk_at "wp"
  refine ⟨fun i γ => i ≤ B.length ∧ ∃ (m : Int) (s3 s4 : Sl), 0 < m ∧ m.natAbs < 2 ^ (i * k + 1) ∧ (∀ j, j < i → ent r (pv (rowAt B j)) ≠ 0 → ent (rowAt B j) (pv (rowAt B j)) ∣ m) ∧ γ = [.val (.lst (rowsD B)), .val (.lst (intL r)), .val (.int m), s3, s4, .any, .any, .any, .any, .any], ⟨Nat.zero_le _, 1, _, _, by decide, by rw [Nat.zero_mul]; decide, fun j hj => absurd hj (Nat.not_lt_zero _), rfl⟩, ?_, ?_⟩
  · rintro i d γ hd ⟨hi, m, s3, s4, hm, bm, hdv, rfl⟩
    obtain ⟨b, hb, rfl, hi⟩ := rowsD_inv hd
    have hbm : b ∈ B := List.mem_of_getElem? hb
    have hbi : rowAt B i = b := Option.some.inj ((rowAt_get hi).symm.trans hb)
    have hbl := hB.len b hbm
    have hbp := hB.piv b hbm
    have hb0 := hB.pos b hbm
    have bbm := bb b hbm
    walk_at "wp"
    refine ⟨b, rfl, by show b.length ≤ 100000; omega, fun v hv => ?_⟩
    subst hv
    walk_at "wp"
    refine i_ixL (intL_at (by omega)) ?_
    walk_at "wp"
    have hik : i * k + k ≤ B.length * k := by
      have := Nat.mul_le_mul_right k (show i + 1 ≤ B.length from hi)
      rw [Nat.add_mul, Nat.one_mul] at this
      exact this
    refine i_iteN (fun h => ?_) (fun h => ?_)
    · walk_at "wp"
      refine i_ixL (intL_at (by omega)) ?_
      refine i_mul (fitsB bm (bbm.ent _) (by omega)) ?_
      walk_at "wp"
      refine i_ixL (intL_at (by omega)) ?_
      walk_at "wp"
      refine ⟨[m, ent b (pv b)], rfl, by show 2 ≤ 100000; decide, fun v hv => ?_⟩
      subst hv
      have hg : gcdL [m, ent b (pv b)] = Nat.gcd m.natAbs (ent b (pv b)).natAbs := by
        show Nat.gcd m.natAbs (Nat.gcd _ 0) = _
        rw [Nat.gcd_zero_right]
      have hg0 : 0 < Nat.gcd m.natAbs (ent b (pv b)).natAbs := Nat.gcd_pos_of_pos_left _ (by omega)
      have hgne : ((gcdL [m, ent b (pv b)] : Nat) : Int) ≠ 0 := by rw [hg]; omega
      walk_at "wp"
      -- the new multiple
      have d1 : ((gcdL [m, ent b (pv b)] : Nat) : Int) ∣ ent b (pv b) := by rw [hg]; exact Int.ofNat_dvd_left.mpr (Nat.gcd_dvd_right _ _)
      have d2 : ((gcdL [m, ent b (pv b)] : Nat) : Int) ∣ m := by rw [hg]; exact Int.ofNat_dvd_left.mpr (Nat.gcd_dvd_left _ _)
      obtain ⟨c, hc⟩ := d1
      obtain ⟨e, he⟩ := d2
      have e1 : (m * ent b (pv b)).fdiv ((gcdL [m, ent b (pv b)] : Nat) : Int) = m * c := by
        conv => lhs; arg 1; rw [hc, Int.mul_left_comm]
        exact Int.mul_fdiv_cancel_left _ hgne
      have e2 : m * c = e * ent b (pv b) := by
        conv => lhs; rw [he]
        conv => rhs; rw [hc]
        rw [Int.mul_assoc, Int.mul_left_comm]
      have hc0 : 0 < c := by
        have hgp : (0 : Int) < ((gcdL [m, ent b (pv b)] : Nat) : Int) := by rw [hg]; omega
        rcases Int.lt_or_le 0 c with z | z
        · exact z
        · have := Int.mul_nonpos_of_nonneg_of_nonpos (Int.le_of_lt hgp) z
          omega
      rw [e1]
      refine ⟨hi, _, _, _, Int.mul_pos hm hc0, ?_, fun j hj hne => ?_, rfl⟩
      · have hcb : c.natAbs ≤ (ent b (pv b)).natAbs := by
          conv => rhs; rw [hc]
          rw [Int.natAbs_mul]
          exact Nat.le_mul_of_pos_left _ (by rw [hg]; exact hg0)
        have h1 : c.natAbs < 2 ^ k := Nat.lt_of_le_of_lt hcb (bbm.ent _)
        have h2 : (m * c).natAbs < 2 ^ (i * k + 1 + k) := wide_lt bm h1
        have e3 : i * k + 1 + k = (i + 1) * k + 1 := by rw [Nat.add_mul, Nat.one_mul]; omega
        rwa [e3] at h2
      · rcases Nat.lt_or_ge j i with z | z
        · exact Int.dvd_trans (hdv j z hne) (Int.dvd_mul_right m c)
        · have : j = i := by omega
          subst this
          rw [hbi, e2]
          exact Int.dvd_mul_left e _
    · walk_at "wp"
      refine ⟨hi, m, _, _, hm, Nat.lt_of_lt_of_le bm (Nat.pow_le_pow_right (by decide) (by rw [Nat.add_mul]; omega)), fun j hj hne => ?_, rfl⟩
      rcases Nat.lt_or_ge j i with z | z
      · exact hdv j z hne
      · have : j = i := by omega
        subst this
        rw [hbi] at hne
        exact absurd h hne
  · rintro γ ⟨_, m, s3, s4, hm, bm, hdv, rfl⟩
    rw [List.length_map] at bm hdv
    walk_at "wp"
    refine i_mapN (n := w) (fun i => .int (ent r i)) (fun i => .int (m * ent r i)) (intL_ent hr) (by omega) rfl (fun i hi R hR => ?_) ?_
    · walk_at "wp"
      refine i_mul (fitsB bm (br.ent _) (by omega)) ?_
      exact hR _ rfl
    walk_at "wp"
    have eI : (dLs w fun i => D.int (m * ent r i)) = intL ((List.range w).map fun i => m * ent r i) := intL_rng.symm
    rw [eI]
    let N := B.length * k + l + k + 1
    refine ⟨fun i γ => i ≤ B.length ∧ ∃ (s : List Int) (s3 s4 s6 : Sl), s.length = w ∧ (∀ j, j < i → ent s (pv (rowAt B j)) = 0) ∧ (∀ j, j < B.length → i ≤ j → ent s (pv (rowAt B j)) = m * ent r (pv (rowAt B j))) ∧ Sp B (fun j => m * ent r j - ent s j) ∧ (∀ j, (ent s j).natAbs ≤ (i + 1) * 2 ^ N) ∧ γ = [.val (.lst (rowsD B)), .val (.lst (intL r)), .val (.int m), s3, s4, .val (.lst (intL s)), s6, .any, .any, .any], ⟨Nat.zero_le _, _, _, _, _, by simp, fun j hj => absurd hj (Nat.not_lt_zero _), fun j hj _ => ?_, ?_, fun j => ?_, rfl⟩, ?_, ?_⟩
    · exact ent_rng (hB.piv _ (rowAt_mem hj))
    · refine Spn.zero.of fun j => ?_
      rcases Nat.lt_or_ge j w with z | z
      · rw [ent_rng z]; show (0 : Int) = _; omega
      · rw [ent_out (r := r) (j := j) (by omega), ent_out (r := (List.range w).map fun i => m * ent r i) (j := j) (by simpa using z)]; show (0 : Int) = _; omega
    · rw [Nat.zero_add, Nat.one_mul]
      rcases Nat.lt_or_ge j w with z | z
      · rw [ent_rng z]
        refine Nat.le_of_lt (Nat.lt_of_lt_of_le (wide_lt bm (br.ent j)) (Nat.pow_le_pow_right (by decide) ?_))
        show _ ≤ B.length * k + l + k + 1
        omega
      · rw [ent_out (by simpa using z)]; exact Nat.zero_le _
    · rintro i d γ hd ⟨hi, s, s3, s4, s6, hs, hz, hk, hsp, bs, rfl⟩
      obtain ⟨b, hb, rfl, hi⟩ := rowsD_inv hd
      have hbm : b ∈ B := List.mem_of_getElem? hb
      have hbi : rowAt B i = b := Option.some.inj ((rowAt_get hi).symm.trans hb)
      have hbl := hB.len b hbm
      have hbp := hB.piv b hbm
      have hb0 := hB.pos b hbm
      have bbm := bb b hbm
      have hbne : ent b (pv b) ≠ 0 := by omega
      walk_at "wp"
      refine ⟨b, rfl, by show b.length ≤ 100000; omega, fun v hv => ?_⟩
      subst hv
      walk_at "wp"
      refine i_ixL (intL_at (by omega)) ?_
      walk_at "wp"
      refine i_ixL (intL_at (by omega)) ?_
      have bq : (m.fdiv (ent b (pv b))).natAbs ≤ m.natAbs := by
        have h1 : 0 ≤ m.fdiv (ent b (pv b)) := Int.fdiv_nonneg (by omega) (by omega)
        have h2 : m.fdiv (ent b (pv b)) ≤ m := by
          rw [Int.fdiv_eq_ediv_of_nonneg _ (by omega)]
          exact Int.ediv_le_self _ (by omega)
        omega
      have bq2 : (m.fdiv (ent b (pv b))).natAbs < 2 ^ (B.length * k + 1) := Nat.lt_of_le_of_lt bq bm
      refine i_mul (fitsB bq2 (br.ent _) (by omega)) ?_
      walk_at "wp"
      have bf : (m.fdiv (ent b (pv b)) * ent r (pv b)).natAbs < 2 ^ (B.length * k + 1 + l) := wide_lt bq2 (br.ent _)
      have hfp : m.fdiv (ent b (pv b)) * ent r (pv b) * ent b (pv b) = m * ent r (pv b) := by
        by_cases h0 : ent r (pv b) = 0
        · rw [h0]; simp
        · have hd := hdv i hi (by rw [hbi]; exact h0)
          rw [hbi] at hd
          have := Int.fdiv_mul_cancel hd
          rw [Int.mul_right_comm, this]
      have hsb : ent s (pv b) = m * ent r (pv b) := by
        have := hk i hi (Nat.le_refl _)
        rwa [hbi] at this
      refine i_iteN (fun h => ?_) (fun h => ?_)
      · walk_at "wp"
        refine i_mapN (n := w) (fun i => .tup [.int (ent s i), .int (ent b i)]) (fun j => .int (ent s j - m.fdiv (ent b (pv b)) * ent r (pv b) * ent b j)) ?_ (by omega) rfl (fun j hj R hR => ?_) ?_
        · rw [intL_ent hs, intL_ent hbl, dLs_zip]
        · walk_at "wp"
          refine i_mul (fitsB bf (bbm.ent _) (by omega)) ?_
          walk_at "wp"
          exact hR _ rfl
        walk_at "wp"
        have eI : (dLs w fun j => D.int (ent s j - m.fdiv (ent b (pv b)) * ent r (pv b) * ent b j)) = intL ((List.range w).map fun j => ent s j - m.fdiv (ent b (pv b)) * ent r (pv b) * ent b j) := intL_rng.symm
        rw [eI]
        have en : ∀ j, ent ((List.range w).map fun j => ent s j - m.fdiv (ent b (pv b)) * ent r (pv b) * ent b j) j = ent s j - m.fdiv (ent b (pv b)) * ent r (pv b) * ent b j := fun j => by
          rcases Nat.lt_or_ge j w with z | z
          · exact ent_rng z
          · rw [ent_out (by simpa using z), ent_out (r := s) (j := j) (by omega), ent_out (r := b) (j := j) (by omega)]; simp
        have sep : ∀ j, j < B.length → j ≠ i → ent b (pv (rowAt B j)) = 0 := fun j hj hne => by
          refine hB.red b hbm _ (rowAt_mem hj) fun z => ?_
          have e := hB.same hbm (rowAt_mem hj) z
          have srt := hB.srt
          rcases Nat.lt_or_gt_of_ne hne with y | y
          · have := List.pairwise_iff_getElem.mp srt j i hj hi y
            have e1 : B[j] = rowAt B j := Option.some.inj ((List.getElem?_eq_getElem hj).symm.trans (rowAt_get hj))
            have e2 : B[i] = b := Option.some.inj ((List.getElem?_eq_getElem hi).symm.trans hb)
            rw [e1, e2, ← z] at this
            omega
          · have := List.pairwise_iff_getElem.mp srt i j hi hj y
            have e1 : B[j] = rowAt B j := Option.some.inj ((List.getElem?_eq_getElem hj).symm.trans (rowAt_get hj))
            have e2 : B[i] = b := Option.some.inj ((List.getElem?_eq_getElem hi).symm.trans hb)
            rw [e1, e2, ← z] at this
            omega
        refine ⟨hi, _, _, _, _, by simp, fun j hj => ?_, fun j hj hij => ?_, ?_, fun j => ?_, rfl⟩
        · rw [en]
          rcases Nat.lt_or_ge j i with z | z
          · rw [hz j z, sep j (by omega) (by omega)]; simp
          · have : j = i := by omega
            subst this
            rw [hbi, hsb, hfp]; omega
        · rw [en, hk j hj (by omega), sep j hj (by omega)]; simp
        · refine (hsp.add (Spn.smul (m.fdiv (ent b (pv b)) * ent r (pv b)) (.mem (List.mem_map.mpr ⟨b, hbm, rfl⟩)))).of fun j => ?_
          rw [en]; omega
        · rw [en]
          have h1 := bs j
          have h2 : (m.fdiv (ent b (pv b)) * ent r (pv b) * ent b j).natAbs ≤ 2 ^ N := by
            refine Nat.le_of_lt (Nat.lt_of_lt_of_le (wide_lt bf (bbm.ent j)) (Nat.pow_le_pow_right (by decide) ?_))
            show _ ≤ B.length * k + l + k + 1
            omega
          have h3 := Int.natAbs_sub_le (ent s j) (m.fdiv (ent b (pv b)) * ent r (pv b) * ent b j)
          have e : (i + 1 + 1) * 2 ^ N = (i + 1) * 2 ^ N + 2 ^ N := by rw [Nat.add_mul (i + 1), Nat.one_mul]
          rw [e]
          omega
      · walk_at "wp"
        refine ⟨hi, s, _, _, _, hs, fun j hj => ?_, fun j hj hij => hk j hj (by omega), hsp, fun j => ?_, rfl⟩
        · rcases Nat.lt_or_ge j i with z | z
          · exact hz j z
          · have : j = i := by omega
            subst this
            rw [hbi, hsb, ← hfp, h, Int.zero_mul]
        · refine Nat.le_trans (bs j) (Nat.mul_le_mul_right _ (by omega))
    · rintro γ ⟨_, s, s3, s4, s6, hs, hz, _, hsp, bs, rfl⟩
      rw [List.length_map] at hz bs
      walk_at "wp"
      refine q _ ⟨s, rfl, ⟨hs, fun b hb => ?_, m, 1, by omega, by decide, hsp.of fun j => by omega⟩, fun x hx => ?_⟩
      · obtain ⟨j, hj, e⟩ := List.mem_iff_getElem.mp hb
        have := hz j hj
        have e1 : rowAt B j = b := Option.some.inj ((rowAt_get hj).symm.trans ((List.getElem?_eq_getElem hj).trans (congrArg some e)))
        rwa [e1] at this
      · obtain ⟨j, hj, e⟩ := List.mem_iff_getElem.mp hx
        have h1 := bs j
        have e1 : ent s j = x := Option.some.inj ((ent_get hj).symm.trans ((List.getElem?_eq_getElem hj).trans (congrArg some e)))
        rw [e1] at h1
        have h2 : (B.length + 1) * 2 ^ N ≤ 63 * 2 ^ N := Nat.mul_le_mul_right _ (by omega)
        have h3 : 2 ^ ((B.length + 1) * k + l + 7) = 64 * 2 ^ N := by
          have : (B.length + 1) * k + l + 7 = N + 6 := by
            show _ = B.length * k + l + k + 1 + 6
            omega
          rw [this, Nat.pow_add, Nat.mul_comm]
        have h4 : 0 < 2 ^ N := Nat.pow_pos (by decide)
        rw [h3]
        omega
end

/-! ### bases: extended, reduced, contains -/
def spec_ext : SpecD := SpecD.of (fun a : Nat × List (List Int) × List Int × Nat × Nat => [.lst (rowsD a.2.1), .lst (intL a.2.2.1)]) (fun a => PreB a.1 a.2.1 a.2.2.1 a.2.2.2.1 a.2.2.2.2)
  (fun a v => ∃ B', v.val = .lst (rowsD B') ∧ Ech a.1 B' ∧ (∀ u, Sp B' u ↔ Spn (ent a.2.2.1 :: vecs a.2.1) u) ∧ BdL ((a.2.1.length + 2) * a.2.2.2.1 + a.2.2.2.2 + 60) B' ∧ (Sp a.2.1 (ent a.2.2.1) ∧ B' = a.2.1 ∨ ¬ Sp a.2.1 (ent a.2.2.1) ∧ B'.length = a.2.1.length + 1))
/-- what is asked of rows: m at most so many independent ones -/
structure PreR (w : Nat) (rows : List (List Int)) (q : Nat) : Prop where
  wid : w ≤ 49
  len : ∀ r ∈ rows, r.length = w
  bd : BdL q rows
  fit : (min w rows.length + 2) * (min w rows.length * (q + 7)) + q + 120 ≤ 60000000
/-- the basis of rows -/
structure Red (w : Nat) (rows B : List (List Int)) (q : Nat) : Prop where
  ech : Ech w B
  spn : ∀ u, Sp B u ↔ Sp rows u
  bd : BdL (B.length * (q + 7)) B
  le : B.length ≤ rows.length
/-- a canonical basis of the span of the rows -/
theorem Red.of {w q : Nat} {rows B : List (List Int)} (hw : w ≤ 49) (hl : ∀ r ∈ rows, r.length = w) (bd : BdL q rows) (ech : Ech w B) (spn : ∀ u, Sp B u ↔ Sp rows u) : Red w rows B q :=
  ⟨ech, spn, ech.bound (by omega) hl spn bd, ech.le_rows hl fun v => (spn v).mp⟩
theorem Red.uniq {w q q' : Nat} {rows rows' A B : List (List Int)} (a : Red w rows A q) (b : Red w rows' B q') (h : ∀ u, Sp rows u ↔ Sp rows' u) : A = B := a.ech.uniq b.ech fun u => (a.spn u).trans ((h u).trans (b.spn u).symm)
def spec_red : SpecD := SpecD.of (fun a : Nat × List (List Int) × Nat => [.lst (rowsD a.2.1)]) (fun a => PreR a.1 a.2.1 a.2.2 ∧ a.2.1.length ≤ 100000) (fun a v => ∃ B, v.val = .lst (rowsD B) ∧ Red a.1 a.2.1 B a.2.2)
def spec_has : SpecD := SpecD.of (fun a : Nat × List (List Int) × List Int × Nat × Nat => [.lst (rowsD a.2.1), .lst (intL a.2.2.1)]) (fun a => PreB a.1 a.2.1 a.2.2.1 a.2.2.2.1 a.2.2.2.2) (fun a v => ∃ b : Bool, v = .d (.bl b) ∧ (b = true ↔ Sp a.2.1 (ent a.2.2.1)))
theorem mixL_bd {k l : Nat} {b s : List Int} {p : Nat} (hb : Bd k b) (hs : Bd l s) : Bd (k + l + 1) (mixL b s p) := by
  intro x hx
  obtain ⟨j, _, rfl⟩ := List.mem_map.mp hx
  have h1 : (ent s p * ent b j).natAbs < 2 ^ (l + k) := wide_lt (hs.ent p) (hb.ent j)
  have h2 : (ent b p * ent s j).natAbs < 2 ^ (k + l) := wide_lt (hb.ent p) (hs.ent j)
  have h3 := Int.natAbs_sub_le (ent s p * ent b j) (ent b p * ent s j)
  rw [Nat.add_comm l k] at h1
  rw [Nat.pow_succ]
  omega
theorem clrF_bd {k l : Nat} {b s : List Int} (hb : Bd k b) (hs : Bd l s) : Bd (k + l + 1) (clrF b s) := by
  unfold clrF
  split
  · exact hb.le (by omega)
  · exact prim_bd (mixL_bd hb hs)
theorem clrF_ok {w : Nat} {B : List (List Int)} {b s : List Int} (hB : Ech w B) (hb : b ∈ B) (hs : s.length = w) (hpos : 0 < ent s (pv s)) (hz : ∀ b ∈ B, ent s (pv b) = 0) (hlt : pv b < pv s) : Clr w b s (clrF b s) (pv s) := by
  unfold clrF
  split
  · rename_i h; exact clr_self hB hb hpos h
  · exact clr_of hB hb hs rfl hpos hz hlt
theorem clrL_map {w : Nat} {s : List Int} {p : Nat} {f : List Int → List Int} : ∀ {A : List (List Int)}, (∀ a ∈ A, Clr w a s (f a) p) → ClrL w s p A (A.map f)
  | [], _ => trivial
  | a :: A, h => ⟨h a (List.mem_cons_self ..), clrL_map fun b hb => h b (List.mem_cons_of_mem _ hb)⟩
theorem sp_take {i : Nat} {rows B : List (List Int)} {r : List Int} (spn : ∀ u, Sp B u ↔ Sp (rows.take i) u) (hr : rows[i]? = some r) (u : Vec) : Spn (ent r :: vecs B) u ↔ Sp (rows.take (i + 1)) u := by
  have et : rows.take (i + 1) = rows.take i ++ [r] := by rw [List.take_add_one, hr]; rfl
  rw [et]
  constructor
  · intro k
    refine k.trans fun a ha => ?_
    rcases List.mem_cons.mp ha with z | z
    · rw [z]; exact .mem (List.mem_map.mpr ⟨r, List.mem_append_right _ (List.mem_singleton.mpr rfl), rfl⟩)
    · obtain ⟨c, hc, rfl⟩ := List.mem_map.mp z
      refine ((spn _).mp (.mem (List.mem_map.mpr ⟨c, hc, rfl⟩))).mono fun x hx => ?_
      obtain ⟨d, hd, rfl⟩ := List.mem_map.mp hx
      exact List.mem_map.mpr ⟨d, List.mem_append_left _ hd, rfl⟩
  · intro k
    refine k.trans fun a ha => ?_
    obtain ⟨c, hc, rfl⟩ := List.mem_map.mp ha
    rcases List.mem_append.mp hc with z | z
    · exact ((spn _).mpr (.mem (List.mem_map.mpr ⟨c, z, rfl⟩))).mono fun x hx => List.mem_cons_of_mem _ hx
    · rw [List.mem_singleton.mp z]; exact .mem (List.mem_cons_self ..)
theorem red_step {w i b : Nat} {rows B B' : List (List Int)} {r : List Int} (pre : PreR w rows b) (red : Red w (rows.take i) B b) (ech : Ech w B') (spn : ∀ u, Sp B' u ↔ Spn (ent r :: vecs B) u) (hr : rows[i]? = some r) : Red w (rows.take (i + 1)) B' b :=
  Red.of pre.wid (fun x hx => pre.len x (List.mem_of_mem_take hx)) (fun x hx => pre.bd x (List.mem_of_mem_take hx)) ech fun u => (spn u).trans (sp_take red.spn hr u)
/-- a row may be taken to the basis of some -/
theorem red_pre {w i b : Nat} {rows B : List (List Int)} {r : List Int} (pre : PreR w rows b) (red : Red w (rows.take i) B b) (hi : i < rows.length) (hr : rows[i]? = some r) : PreB w B r (B.length * (b + 7)) b := by
  have hrm : r ∈ rows := List.mem_of_getElem? hr
  have h1 := red.le
  rw [List.length_take] at h1
  have h2 := red.ech.le
  have hf := pre.fit
  refine ⟨red.ech, pre.len r hrm, pre.wid, red.bd, pre.bd r hrm, ?_⟩
  have h3 : B.length ≤ min w rows.length := by omega
  have h4 : (B.length + 2) * (B.length * (b + 7)) ≤ (min w rows.length + 2) * (min w rows.length * (b + 7)) := Nat.mul_le_mul (by omega) (Nat.mul_le_mul_right _ h3)
  omega
section
variable {P : Program} {w : World} {K : PySem.W.Frag} {mg : Str → Option Value} {base : Heap}
theorem ok_extended (M : Blt mg) (hSeer : seerB K = true) (hTree : P.given.tree = none) (G_pivot : Gf K mg "pivot" s_pivot ["row"]) (G_common_divisor : Gf K mg "common_divisor" s_common_divisor ["row"]) (G_primitive : Gf K mg "primitive" s_primitive ["row"]) (G_cleared : Gf K mg "cleared" s_cleared ["row", "base"]) (G_remainder : Gf K mg "remainder" s_remainder ["basis", "row"])
    (G_extended : Gf K mg "extended" s_extended ["basis", "row"]) : FnOk P w K mg base CX0 35 G_extended.f G_extended.fd ["basis", "row"] (spV K spec_ext) := by
  have H_pivot := ok_pivot (P := P) (w := w) (base := base) M G_pivot
  have H_primitive := ok_primitive (P := P) (w := w) (base := base) M hSeer hTree G_pivot G_common_divisor G_primitive
  have H_cleared := ok_cleared (P := P) (w := w) (base := base) M hSeer hTree G_pivot G_common_divisor G_primitive G_cleared
  have H_remainder := ok_remainder (P := P) (w := w) (base := base) M hSeer hTree G_pivot G_common_divisor G_remainder
  refine fn_ok G_extended.F sc_extended (fun ds Q ⟨a, e, _⟩ => by rw [e]; rfl) fun cdv A outer s0 H E hr => ⟨_, _, (dss_cons (ds_set (i := 2) sc_extended.nd (DF.v (df_call K H_primitive (hr.mono (by decide)) G_primitive.g G_primitive.F.kp G_primitive.b (da_cons (de_call K H_remainder (hr.mono (by decide)) G_remainder.g G_remainder.F.kp G_remainder.b (da_cons (de_var 0) (da_cons (de_var 1) da_nil))) da_nil))))
      (dss_cons (ds_set (i := 3) sc_extended.nd (de_call K H_pivot (hr.mono (by decide)) G_pivot.g G_pivot.F.kp G_pivot.b (da_cons (de_var 2) da_nil)))
      (dss_cons (ds_if (dt_eq (de_var 3) (de_callB cs_len call_len_seq M.len PySem.boot_len (da_cons (de_var 2) da_nil))) (dss_one (ds_ret (de_var 0))) dss_nil)
      (dss_cons (ds_setLc (i := 4) (own := [("base", 5)]) rfl sc_extended.nd (di_list K (de_var 0)) (blkOk_by (by rfl)) (fun _ _ _ _ _ => (dg_name (i := 5) sc_extended.nd)) (gin_name (by decide)) gmo_name (fun _ _ _ _ _ => (dts_one (dt_lt (de_call K H_pivot (hr.mono (by decide)) G_pivot.g G_pivot.F.kp G_pivot.b (da_cons (de_var 5) da_nil)) (de_var 3)))) (fun _ _ _ _ _ => (de_call K H_cleared (hr.mono (by decide)) G_cleared.g G_cleared.F.kp G_cleared.b (da_cons (de_var 5) (da_cons (de_var 2) da_nil)))))
      (dss_frz 4 (dss_one (ds_ret (DF.v (df_cat (DF.v (df_cat (de_var 4) (DF.v (df_lst (da_cons (de_var 2) da_nil))))) (DF.v (df_lc (own := [("base", 5)]) rfl sc_extended.nd (di_list K (de_var 0)) (blkOk_by (by rfl)) (fun _ _ _ _ _ => (dg_name (i := 5) sc_extended.nd)) (gin_name (by decide)) gmo_name (fun _ _ _ _ _ => (dts_one (dt_gt (de_call K H_pivot (hr.mono (by decide)) G_pivot.g G_pivot.F.kp G_pivot.b (da_cons (de_var 5) da_nil)) (de_var 3)))) (fun _ _ _ _ _ => (de_var 5))))))))))))), ?_⟩
  rintro ds Q ⟨⟨w, B, r, k, l⟩, rfl, pre, q⟩
  replace pre : PreB w B r k l := pre
  replace q : ∀ v : Rv, (∃ B', v.val = .lst (rowsD B') ∧ Ech w B' ∧ (∀ u, Sp B' u ↔ Spn (ent r :: vecs B) u) ∧ BdL ((B.length + 2) * k + l + 60) B' ∧ (Sp B (ent r) ∧ B' = B ∨ ¬ Sp B (ent r) ∧ B'.length = B.length + 1)) → Q v := q
  have pre' := pre
  obtain ⟨hB, hr, hw, bb, br, hfit⟩ := pre'
  have hBl : B.length ≤ w := hB.le
  have hBk : (B.length + 2) * k = B.length * k + 2 * k := by rw [Nat.add_mul]
  have hBk1 : (B.length + 1) * k = B.length * k + k := by rw [Nat.add_mul, Nat.one_mul]
  walk_at "wp"
  refine ⟨⟨w, B, r, k, l⟩, rfl, pre, fun v hv => ?_⟩
  obtain ⟨t, rfl, rst, bt⟩ := hv
  replace rst : Rest w B r t := rst
  replace bt : Bd ((B.length + 1) * k + l + 7) t := bt
  walk_at "wp"
  have htl := rst.len
  refine ⟨t, rfl, by show t.length ≤ 100000; omega, fun v hv => ?_⟩
  subst hv
  walk_at "wp"
  have hpl : (prim t).length = w := prim_len.trans htl
  refine ⟨prim t, rfl, by show (prim t).length ≤ 100000; omega, fun v hv => ?_⟩
  subst hv
  walk_at "wp"
  refine i_ite (fun h => ?_) (fun h => ?_)
  · walk_at "wp"
    rw [List.length_map] at h
    have hz : ∀ j, ent t j = 0 := fun j => (prim_iff j).mp (pv_full (by omega) j)
    have hin := rst.inside hz
    refine q _ ⟨B, rfl, hB, fun u => ⟨fun k => k.mono fun a ha => List.mem_cons_of_mem _ ha, fun k => k.trans fun a ha => ?_⟩, bb.le (by omega), .inl ⟨hin, rfl⟩⟩
    rcases List.mem_cons.mp ha with z | z
    · rw [z]; exact hin
    · exact .mem z
  · rw [List.length_map] at h
    have hp : pv (prim t) < (prim t).length := by have := pv_le (prim t); omega
    have hpt : pv t < t.length := by rw [prim_pv] at hp; omega
    have rs := rst.prim
    have hpos : 0 < ent (prim t) (pv (prim t)) := by rw [prim_pv]; exact prim_pos hpt
    have hg := prim_gcd (pv_at hpt)
    have bs := prim_bd bt
    have hout : ¬ Sp B (ent r) := fun k => pv_at hp (rs.outside hB k _)
    generalize prim t = s at hp hpos hg bs rs hpl hout ⊢
    walk_at "wp"
    refine i_filtN (n := B.length) (fun i => .lst (intL (rowAt B i))) (fun i => decide (pv (rowAt B i) < pv s)) (fun i => .lst (intL (clrF (rowAt B i) s))) (rowsD_dLs B) (by omega) rfl (fun i hi RT RE hF hT => ?_) ?_
    · have hm := rowAt_mem hi
      have hl := hB.len _ hm
      walk_at "wp"
      refine ⟨_, rfl, by show (rowAt B i).length ≤ 100000; omega, fun v hv => ?_⟩
      subst hv
      walk_at "wp"
      refine i_ite (fun h => ?_) (fun h => ?_)
      · walk_at "wp"
        refine ⟨⟨rowAt B i, s, k, (B.length + 1) * k + l + 7⟩, rfl, ⟨hl.trans hpl.symm, hp, by show s.length ≤ 100000; omega, bb _ hm, bs, by show k + ((B.length + 1) * k + l + 7) ≤ 134217728; omega⟩, fun v hv => ?_⟩
        replace hv : v.val = .lst (intL (clrF (rowAt B i) s)) := hv
        simp only [hv]
        exact hT (decide_eq_true (by omega)) _ rfl
      · exact hF (decide_eq_false (by omega)) _ rfl
    rw [filt_place (fun b => D.lst (intL (clrF b s))) (fun b => decide (pv b < pv s)) B]
    walk_at "wp"
    have hfl : (B.filter fun b => decide (pv b < pv s)).length ≤ B.length := List.length_filter_le _ _
    refine i_cat2 (by rw [List.length_map]; show _ + 1 ≤ 100000; omega) ?_
    walk_at "wp"
    refine i_filtN (n := B.length) (fun i => .lst (intL (rowAt B i))) (fun i => decide (pv s < pv (rowAt B i))) (fun i => .lst (intL (rowAt B i))) (rowsD_dLs B) (by omega) rfl (fun i hi RT RE hF hT => ?_) ?_
    · have hm := rowAt_mem hi
      have hl := hB.len _ hm
      walk_at "wp"
      refine ⟨_, rfl, by show (rowAt B i).length ≤ 100000; omega, fun v hv => ?_⟩
      subst hv
      walk_at "wp"
      refine i_ite (fun h => ?_) (fun h => ?_)
      · walk_at "wp"
        exact hT (decide_eq_true (by omega)) _ rfl
      · exact hF (decide_eq_false (by omega)) _ rfl
    rw [filt_place (fun b => D.lst (intL b)) (fun b => decide (pv s < pv b)) B]
    have hfl2 : (B.filter fun b => decide (pv s < pv b)).length ≤ B.length := List.length_filter_le _ _
    walk_at "wp"
    have hC : ClrL w s (pv s) (B.filter fun b => decide (pv b < pv s)) ((B.filter fun b => decide (pv b < pv s)).map fun b => clrF b s) := clrL_map fun a ha => by
      obtain ⟨h1, h2⟩ := List.mem_filter.mp ha
      exact clrF_ok hB h1 hpl hpos rs.zero (of_decide_eq_true h2)
    obtain ⟨e1, e2⟩ := ext_ech hB rs (by omega) hpos hg hC
    refine q _ ⟨_, ?_, e1, e2, fun b hb => ?_, .inr ⟨hout, ?_⟩⟩
    · show D.lst _ = D.lst _
      unfold extL
      rw [rowsD_append, List.append_assoc]
      have h1 : (List.filter (fun b => decide (pv b < pv s)) B).map (fun b => D.lst (intL (clrF b s))) = rowsD ((B.filter fun b => decide (pv b < pv s)).map fun b => clrF b s) := by
        unfold rowsD; rw [List.map_map]; rfl
      rw [h1]
      rfl
    · rcases List.mem_append.mp hb with z | z
      · obtain ⟨a, ha, rfl⟩ := List.mem_map.mp z
        exact (clrF_bd (bb a (List.mem_filter.mp ha).1) bs).le (by omega)
      · rcases List.mem_cons.mp z with z | z
        · rw [z]; exact bs.le (by omega)
        · exact (bb b (List.mem_filter.mp z).1).le (by omega)
    · unfold extL
      rw [List.length_append, List.length_map, List.length_cons]
      have part : ∀ A : List (List Int), (∀ a ∈ A, pv a ≠ pv s) → (A.filter fun b => decide (pv b < pv s)).length + (A.filter fun b => decide (pv s < pv b)).length = A.length := by
        intro A
        induction A with
        | nil => intro _; rfl
        | cons a A ih =>
          intro hA
          have h1 := ih fun b hb => hA b (List.mem_cons_of_mem _ hb)
          have h2 := hA a (List.mem_cons_self ..)
          rcases Nat.lt_or_gt_of_ne h2 with z | z
          · rw [List.filter_cons, if_pos (decide_eq_true z), List.filter_cons, if_neg (by simp; omega), List.length_cons, List.length_cons]; omega
          · rw [List.filter_cons, if_neg (by simp; omega), List.filter_cons, if_pos (decide_eq_true z), List.length_cons, List.length_cons]; omega
      have := part B fun a ha z => by
        have h0 := rs.zero a ha
        rw [z] at h0
        omega
      omega
theorem ok_reduced (M : Blt mg) (hSeer : seerB K = true) (hTree : P.given.tree = none) (G_pivot : Gf K mg "pivot" s_pivot ["row"]) (G_common_divisor : Gf K mg "common_divisor" s_common_divisor ["row"]) (G_primitive : Gf K mg "primitive" s_primitive ["row"]) (G_cleared : Gf K mg "cleared" s_cleared ["row", "base"]) (G_remainder : Gf K mg "remainder" s_remainder ["basis", "row"])
    (G_extended : Gf K mg "extended" s_extended ["basis", "row"]) (G_reduced : Gf K mg "reduced" s_reduced ["rows"]) : FnOk P w K mg base CX0 36 G_reduced.f G_reduced.fd ["rows"] (spV K spec_red) := by
  have H_extended := ok_extended (P := P) (w := w) (base := base) M hSeer hTree G_pivot G_common_divisor G_primitive G_cleared G_remainder G_extended
  refine fn_ok G_reduced.F sc_reduced (fun ds Q ⟨a, e, _⟩ => by rw [e]; rfl) fun cdv A outer s0 H E hr => ⟨_, _, (dss_cons (ds_set (i := 1) sc_reduced.nd (DF.v (df_lst da_nil)))
      (dss_cons (ds_for PassesOwn.never rfl (di_list K (de_var 0)) (dg_name (i := 2) sc_reduced.nd) (dss_one (ds_set (i := 1) sc_reduced.nd (de_call K H_extended (hr.mono (by decide)) G_extended.g G_extended.F.kp G_extended.b (da_cons (de_var 1) (da_cons (de_var 2) da_nil))))))
      (dss_one (ds_ret (de_var 1))))), ?_⟩
  rintro ds Q ⟨⟨w, rows, b⟩, rfl, ⟨pre, hz⟩, q⟩
  replace pre : PreR w rows b := pre
  replace hz : rows.length ≤ 100000 := hz
  replace q : ∀ v : Rv, (∃ B, v.val = .lst (rowsD B) ∧ Red w rows B b) → Q v := q
  walk_at "wp"
  refine ⟨fun i γ => i ≤ rows.length ∧ ∃ (B : List (List Int)) (s2 : Sl), Red w (rows.take i) B b ∧ γ = [.val (.lst (rowsD rows)), .val (.lst (rowsD B)), s2], ⟨Nat.zero_le _, [], _, ⟨Ech.nil, fun u => Iff.rfl, (fun b hb => by cases hb), Nat.zero_le _⟩, rfl⟩, ?_, ?_⟩
  · rintro i d γ hd ⟨hi, B, s2, red, rfl⟩
    obtain ⟨r, hr, rfl, hi⟩ := rowsD_inv hd
    walk_at "wp"
    refine ⟨⟨w, B, r, _, b⟩, rfl, red_pre pre red hi hr, fun v hv => ?_⟩
    obtain ⟨B', e, ech, spn, bd, hor⟩ := hv
    simp only [e]
    exact ⟨hi, B', _, red_step pre red ech spn hr, rfl⟩
  · rintro γ ⟨_, B, s2, red, rfl⟩
    rw [List.length_map, List.take_length] at red
    walk_at "wp"
    exact q _ ⟨B, rfl, red⟩
end

/-! ### the hand of the law -/
abbrev s_L_hand : Stmt := topS 20
theorem sc_L_hand : FnScope ["_law_script", "_law_seed", "_law_cell"] ["_law_script"] (defScope s_L_hand) := ⟨rfl, rfl, rfl, by decide +kernel, rfl, by decide +kernel, by decide +kernel⟩

abbrev s_L_draw : Stmt := topS 21
theorem sc_L_draw : FnScope ["_law_hand_here", "_law_many", "_law_cell", "_law_digit", "_law_number_here"] ["_law_hand_here", "_law_many"] (defScope s_L_draw) := ⟨rfl, rfl, rfl, by decide +kernel, rfl, by decide +kernel, by decide +kernel⟩

abbrev s_L_number : Stmt := topS 22
theorem sc_L_number : FnScope ["_law_hand_here", "_law_kind"] ["_law_hand_here"] (defScope s_L_number) := ⟨rfl, rfl, rfl, by decide +kernel, rfl, by decide +kernel, by decide +kernel⟩

abbrev s_L_vector : Stmt := topS 23
theorem sc_L_vector : FnScope ["_law_hand_here", "_law_width", "_law_k"] ["_law_hand_here", "_law_width"] (defScope s_L_vector) := ⟨rfl, rfl, rfl, by decide +kernel, rfl, by decide +kernel, by decide +kernel⟩

abbrev s_L_mixed : Stmt := topS 25
theorem sc_L_mixed : FnScope ["_law_hand_here", "_law_width", "_law_vectors_here", "_law_found", "_law_vector_here", "_law_factor", "_law_k"] ["_law_hand_here", "_law_width", "_law_vectors_here"] (defScope s_L_mixed) := ⟨rfl, rfl, rfl, by decide +kernel, rfl, by decide +kernel, by decide +kernel⟩

abbrev s_L_vectors : Stmt := topS 24
theorem sc_L_vectors : FnScope ["_law_hand_here", "_law_width", "_law_many", "_law_found", "_law_k", "_law_vector_here"] ["_law_hand_here", "_law_width", "_law_many"] (defScope s_L_vectors) := ⟨rfl, rfl, rfl, by decide +kernel, rfl, by decide +kernel, by decide +kernel⟩

def spec_num40 : SpecP := SpecP.of (fun _ : Unit => []) PoolP (fun _ => True) (fun _ r => ∃ n : Int, r = .d (.int n) ∧ n.natAbs < 2 ^ 133)
def spec_vec40 : SpecP := SpecP.of (fun n : Nat => [.int (n : Int)]) PoolP (fun n => n ≤ 1000) (fun n r => ∃ v : List Int, r = .d (.lst (intL v)) ∧ v.length = n ∧ Bd 133 v)
def spec_mix : SpecP := SpecP.of (fun a : Nat × List (List Int) × Nat => [.int (a.1 : Int), .lst (rowsD a.2.1)]) PoolP (fun a => a.1 ≤ 1000 ∧ (∀ r ∈ a.2.1, r.length = a.1) ∧ a.2.1.length ≤ 80 ∧ BdL a.2.2 a.2.1) (fun a r => ∃ v : List Int, r = .f (intL v) ∧ v.length = a.1 ∧ Bd (a.2.2 + 8) v ∧ Sp a.2.1 (ent v))
def spec_vecs40 : SpecP := SpecP.of (fun a : Nat × Nat => [.int (a.1 : Int), .int (a.2 : Int)]) PoolP (fun a => a.1 ≤ 1000 ∧ a.2 ≤ 40) (fun a r => ∃ B : List (List Int), r = .f (rowsD B) ∧ B.length = a.2 ∧ (∀ r ∈ B, r.length = a.1) ∧ BdL (133 + 8 * a.2) B)
section
variable {P : Program} {w : World} {K : PySem.W.Frag} {mg : Str → Option Value} {base : Heap}
theorem ok_L_hand (M : Blt mg) (G_L_hand : Gf K mg "_law_hand" s_L_hand ["_law_script"]) : FnOk P w K mg base CX0 1 G_L_hand.f G_L_hand.fd ["_law_script"] (spS K spec_L_pool) := by
  refine fn_okS G_L_hand.F sc_L_hand rfl fun cdv A outer s0 H E hr => ⟨_, _, (dss_cons (ds_set (i := 1) sc_L_hand.nd de_int)
      (dss_cons (ds_for PassesOwn.never rfl (di_list K (DF.v (df_slS K 0 do_none (do_some de_int)))) (dg_name (i := 2) sc_L_hand.nd) (dss_one (ds_set (i := 1) sc_L_hand.nd (de_mod (de_callTy cs_int call_int1 M.int (by decide +kernel) (da_cons (de_add (de_add (de_mulK (de_var 1) de_int) (de_var 2)) de_int) da_nil)) de_int))))
      (dss_one (ds_retF (df_lst (da_cons (DF.v (df_list K M.list (DF.v (df_slS K 0 do_none (do_some de_int))))) (da_cons de_int (da_cons de_int (da_cons de_int (da_cons (de_var 1) da_nil)))))))))), ?_⟩
  rintro ns Q ⟨h63, q⟩
  walk_at "wp"
  refine ⟨fun i γ => ∃ (z : Int) (s2 : Sl), γ = [.scr ns, .val (.int z), s2] ∧ 0 ≤ z ∧ z < 2147483629, ⟨23, _, rfl, by decide, by decide⟩, ?_, ?_⟩
  · rintro i d γ hd ⟨z, s2, rfl, h0, h1⟩
    obtain ⟨c, rfl⟩ : ∃ c : Int, d = .int c := by
      have : d ∈ cutL (ns.map D.int) none (some 63) := List.mem_of_getElem? hd
      unfold cutL at this
      have := List.mem_of_mem_drop (List.mem_of_mem_take this)
      obtain ⟨c, _, e⟩ := List.mem_map.mp this
      exact ⟨c, e.symm⟩
    walk_at "wp"
    exact ⟨_, _, rfl, Int.emod_nonneg _ (by decide), Int.emod_lt_of_pos _ (by decide)⟩
  · rintro γ ⟨z, s2, rfl, h0, h1⟩
    walk_at "wp"
    refine q _ ⟨ns.take 63, 0, 0, 0, z, ?_, by decide, by decide, h0, h1⟩
    have e : cutL (ns.map D.int) none (some 63) = (ns.take 63).map D.int := by
      unfold cutL
      rw [HT.sIx_none, List.drop_zero, show (some (63 : Int)) = some ((63 : Nat) : Int) from rfl, HT.sIx_nat, List.map_take, Nat.sub_zero, List.length_map]
      rw [List.take_eq_take_iff]
      simp
    rw [e]
theorem ok_L_draw (M : Blt mg) (G_L_draw : Gf K mg "_law_draw" s_L_draw ["_law_hand_here", "_law_many"]) : FnOk P w K mg base CX0 1 G_L_draw.f G_L_draw.fd ["_law_hand_here", "_law_many"] (spP K spec_L_draw) := by
  refine fn_okP G_L_draw.F sc_L_draw (fun pl ds Q ⟨_, a, e, _⟩ => by rw [e]; rfl) fun cdv A outer s0 H E hr => ⟨_, _, (dss_cons (ds_sub 0 (de_add (de_ixO K 0 de_int) de_int) de_int)
      (dss_cut (ds_if (DW.dt (dw_and (dt_eq (de_ixO K 0 de_int) de_int) (dw_and1 (dt_lt (de_ixO K 0 de_int) (de_callB cs_len call_len_seq M.len PySem.boot_len (da_cons (de_ixO K 0 de_int) da_nil)))))) (dss_cons (ds_set (i := 2) sc_L_draw.nd (de_ix K (de_ixO K 0 de_int) (de_ixO K 0 de_int)))
      (dss_cons (ds_sub 0 (de_add (de_ixO K 0 de_int) de_int) de_int)
      (dss_one (ds_if (dt_ge (de_var 2) (de_pow de_int de_int)) (dss_one (ds_sub 0 (de_var 2) de_int)) (dss_one (ds_sub 0 (de_mod (de_callTy cs_int call_int1 M.int (by decide +kernel) (da_cons (de_add (de_add (de_mulK (de_ixO K 0 de_int) de_int) (de_mulK (de_var 2) de_int)) (de_ixO K 0 de_int)) da_nil)) de_int) de_int)))))) dss_nil)
      (dss_cons (ds_if (dt_gt (de_ixO K 0 de_int) de_int) (dss_cons (ds_set (i := 3) sc_L_draw.nd (de_mod (de_callTy cs_int call_int1 M.int (by decide +kernel) (da_cons (de_ixO K 0 de_int) da_nil)) (de_var 1)))
      (dss_cons (ds_sub 0 (de_fdv (de_ixO K 0 de_int) (de_var 1)) de_int)
      (dss_one (ds_ret (de_var 3))))) dss_nil)
      (dss_cons (ds_set (i := 4) sc_L_draw.nd (de_mod (de_callTy cs_int call_int1 M.int (by decide +kernel) (da_cons (de_add (de_add (de_ixO K 0 de_int) (de_mulK (de_ixO K 0 de_int) de_int)) de_int) da_nil)) de_int))
      (dss_cons (ds_set (i := 4) sc_L_draw.nd (de_mod (de_callTy cs_int call_int1 M.int (by decide +kernel) (da_cons (de_mulK (de_var 4) (de_add (de_fdv (de_var 4) de_int) de_int)) da_nil)) de_int))
      (dss_cons (ds_set (i := 4) sc_L_draw.nd (de_mod (de_callTy cs_int call_int1 M.int (by decide +kernel) (da_cons (de_mulK (de_var 4) (de_add (de_fdv (de_var 4) de_int) de_int)) da_nil)) de_int))
      (dss_one (ds_ret (de_mod (de_callTy cs_int call_int1 M.int (by decide +kernel) (da_cons (de_fdv (de_var 4) de_int) da_nil)) (de_var 1)))))))))), ?_⟩
  rintro pl ds Q ⟨⟨ns, ix, big, cnt, seed, rfl, h0, h1, h2, h3⟩, many, rfl, ⟨hm, hl⟩, q⟩
  walk_at "wp"
  refine ⟨fun γ => ∃ (ix big cnt seed : Int) (s2 : Sl), γ = [.own true [.lst (ns.map D.int), .int ix, .int big, .int cnt, .int seed], .val (.int many), s2, .any, .any] ∧ 0 ≤ ix ∧ 0 ≤ big ∧ 0 ≤ seed ∧ seed < 2147483629, ?_, ?_⟩
  · walk_at "wp"
    refine i_ite (fun hb => ?_) (fun hb => ?_)
    · walk_at "wp"
      refine i_ite (fun hx => ?_) (fun hx => ?_)
      · walk_at "wp"
        rw [List.length_map] at hx
        obtain ⟨c, hc, _⟩ := atI_int h0 hx
        refine i_ixL hc ?_
        walk_at "wp"
        refine i_ite (fun hg => ?_) (fun hg => ?_)
        · walk_at "wp"
          have hz : (0 : Int) ≤ 10 ^ (18 : Int).toNat := by decide
          exact ⟨ix + 1, c, cnt + 1, seed, _, rfl, by omega, by omega, h2, h3⟩
        · walk_at "wp"
          exact ⟨ix + 1, big, cnt + 1, _, _, rfl, by omega, h1, Int.emod_nonneg _ (by decide), Int.emod_lt_of_pos _ (by decide)⟩
      · walk_at "wp"
        exact ⟨ix, big, cnt + 1, seed, _, rfl, h0, h1, h2, h3⟩
    · walk_at "wp"
      exact ⟨ix, big, cnt + 1, seed, _, rfl, h0, h1, h2, h3⟩
  · rintro γ ⟨ix, big, cnt, seed, s2, rfl, h0, h1, h2, h3⟩
    have hd : CDivW big many := ⟨hm, hl⟩
    walk_at "wp"
    refine i_ite (fun hb => ?_) (fun hb => ?_)
    · walk_at "wp"
      exact ⟨_, rfl, q _ _ ⟨_, rfl, Int.emod_nonneg _ (by omega), Int.emod_lt_of_pos _ hm⟩ ⟨ns, ix, _, cnt, seed, rfl, h0, Int.ediv_nonneg h1 (by omega), h2, h3⟩⟩
    · walk_at "wp"
      exact ⟨_, rfl, q _ _ ⟨_, rfl, Int.emod_nonneg _ (by omega), Int.emod_lt_of_pos _ hm⟩ ⟨ns, ix, big, cnt, seed, rfl, h0, h1, h2, h3⟩⟩
theorem ok_L_number (M : Blt mg) (G_L_draw : Gf K mg "_law_draw" s_L_draw ["_law_hand_here", "_law_many"]) (G_L_number : Gf K mg "_law_number" s_L_number ["_law_hand_here"]) : FnOk P w K mg base CX0 2 G_L_number.f G_L_number.fd ["_law_hand_here"] (spP K spec_num40) := by
  have H_L_draw : FnOk P w K mg base CX0 1 G_L_draw.f G_L_draw.fd ["_law_hand_here", "_law_many"] (spP K spec_L_draw) := ok_L_draw M G_L_draw
  refine fn_okP G_L_number.F sc_L_number (fun pl ds Q ⟨_, a, e, _⟩ => by rw [e]; rfl) fun cdv A outer s0 H E hr => ⟨_, _, (dss_cons (ds_set (i := 1) sc_L_number.nd (de_callP K 0 H_L_draw (hr.mono (by decide)) G_L_draw.g G_L_draw.F.kp G_L_draw.b (da_cons de_int da_nil)))
      (dss_cons (ds_if (dt_lt (de_var 1) de_int) (dss_one (ds_ret de_int)) dss_nil)
      (dss_cons (ds_if (dt_lt (de_var 1) de_int) (dss_one (ds_ret (de_sub (de_callP K 0 H_L_draw (hr.mono (by decide)) G_L_draw.g G_L_draw.F.kp G_L_draw.b (da_cons de_int da_nil)) de_int))) dss_nil)
      (dss_cons (ds_if (dt_eq (de_var 1) de_int) (dss_one (ds_ret (de_sub (de_callP K 0 H_L_draw (hr.mono (by decide)) G_L_draw.g G_L_draw.F.kp G_L_draw.b (da_cons de_int da_nil)) de_int))) dss_nil)
      (dss_one (ds_ret (de_sub (de_callP K 0 H_L_draw (hr.mono (by decide)) G_L_draw.g G_L_draw.F.kp G_L_draw.b (da_cons (de_mulK de_int (de_pow de_int de_int)) da_nil)) (de_pow de_int de_int)))))))), ?_⟩
  rintro pl ds Q ⟨hp, u, rfl, _, q⟩
  have e2 : 2 ^ 133 = 10889035741470030830827987437816582766592 := by decide
  replace q : ∀ (n : Int) pl', n.natAbs < 10889035741470030830827987437816582766592 → PoolP pl' → Q (.d (.int n)) pl' := fun n pl' h hp => q _ _ ⟨n, rfl, by rw [e2]; exact h⟩ hp
  walk_at "wp"
  refine draw_i (many := 8) hp (.of (by omega)) fun n pl1 n0 n1 hp1 => ?_
  walk_at "wp"
  refine i_ite (fun hb => ?_) (fun hb => ?_)
  · walk_at "wp"
    exact ⟨pl1, rfl, q 0 _ (by decide) hp1⟩
  walk_at "wp"
  refine i_ite (fun hb => ?_) (fun hb => ?_)
  · walk_at "wp"
    refine draw_i (many := 7) hp1 (.of (by omega)) fun m pl2 m0 m1 hp2 => ?_
    walk_at "wp"
    exact ⟨pl2, rfl, q _ _ (by omega) hp2⟩
  walk_at "wp"
  refine i_ite (fun hb => ?_) (fun hb => ?_)
  · walk_at "wp"
    refine draw_i (many := 2001) hp1 (.of (by omega)) fun m pl2 m0 m1 hp2 => ?_
    walk_at "wp"
    exact ⟨pl2, rfl, q _ _ (by omega) hp2⟩
  · walk_at "wp"
    refine draw_i hp1 ⟨by decide, by decide⟩ fun m pl2 m0 m1 hp2 => ?_
    walk_at "wp"
    have e : (10 : Int) ^ (40 : Int).toNat = 10000000000000000000000000000000000000000 := by decide
    rw [e] at m1
    rw [e]
    exact ⟨pl2, rfl, q _ _ (by omega) hp2⟩
theorem num40_i {pl : List D} {P : Rv → List D → Prop} (hp : PoolP pl) (q : ∀ (n : Int) pl', n.natAbs < 2 ^ 133 → PoolP pl' → P (.d (.int n)) pl') : spec_num40.S pl [] P :=
  ⟨hp, (), rfl, trivial, fun r pl' ⟨n, e, h⟩ hp' => by subst e; exact q n pl' h hp'⟩
theorem vec40_i {n : Nat} {pl : List D} {P : Rv → List D → Prop} (hp : PoolP pl) (hn : n ≤ 1000) (q : ∀ (v : List Int) pl', v.length = n → Bd 133 v → PoolP pl' → P (.d (.lst (intL v))) pl') : spec_vec40.S pl [.int (n : Int)] P :=
  ⟨hp, n, rfl, hn, fun r pl' ⟨v, e, h1, h2⟩ hp' => by subst e; exact q v pl' h1 h2 hp'⟩
theorem mix_i {n k : Nat} {B : List (List Int)} {pl : List D} {P : Rv → List D → Prop} (hp : PoolP pl) (hn : n ≤ 1000) (hl : ∀ r ∈ B, r.length = n) (hb : B.length ≤ 80) (bb : BdL k B) (q : ∀ (v : List Int) pl', v.length = n → Bd (k + 8) v → Sp B (ent v) → PoolP pl' → P (.f (intL v)) pl') : spec_mix.S pl [.int (n : Int), .lst (rowsD B)] P :=
  ⟨hp, (n, B, k), rfl, ⟨hn, hl, hb, bb⟩, fun r pl' ⟨v, e, h1, h2, h3⟩ hp' => by subst e; exact q v pl' h1 h2 h3 hp'⟩
theorem vecs40_i {n m : Nat} {pl : List D} {P : Rv → List D → Prop} (hp : PoolP pl) (hn : n ≤ 1000) (hm : m ≤ 40) (q : ∀ (B : List (List Int)) pl', B.length = m → (∀ r ∈ B, r.length = n) → BdL (133 + 8 * m) B → PoolP pl' → P (.f (rowsD B)) pl') : spec_vecs40.S pl [.int (n : Int), .int (m : Int)] P :=
  ⟨hp, (n, m), rfl, ⟨hn, hm⟩, fun r pl' ⟨B, e, h1, h2, h3⟩ hp' => by subst e; exact q B pl' h1 h2 h3 hp'⟩
theorem bd_snoc {k : Nat} {m : List Int} {x : Int} (h : Bd k m) (hx : x.natAbs < 2 ^ k) : Bd k (m ++ [x]) := fun y hy => by
  rcases List.mem_append.mp hy with z | z
  · exact h y z
  · rw [List.mem_singleton.mp z]; exact hx
theorem ok_L_vector (M : Blt mg) (G_L_draw : Gf K mg "_law_draw" s_L_draw ["_law_hand_here", "_law_many"]) (G_L_number : Gf K mg "_law_number" s_L_number ["_law_hand_here"]) (G_L_vector : Gf K mg "_law_vector" s_L_vector ["_law_hand_here", "_law_width"]) : FnOk P w K mg base CX0 3 G_L_vector.f G_L_vector.fd ["_law_hand_here", "_law_width"] (spP K spec_vec40) := by
  have H_L_number := ok_L_number (P := P) (w := w) (base := base) M G_L_draw G_L_number
  refine fn_okP G_L_vector.F sc_L_vector (fun pl ds Q ⟨_, a, e, _⟩ => by rw [e]; rfl) fun cdv A outer s0 H E hr => ⟨_, _, (dss_one (ds_ret (DF.v (df_lc (own := [("_law_k", 2)]) rfl sc_L_vector.nd (di_range1 M.range (da_cons (de_var 1) da_nil)) (blkOk_by (by rfl)) (fun _ _ _ _ _ => (dg_name (i := 2) sc_L_vector.nd)) (gin_name (by decide)) gmo_name (fun _ _ _ _ _ => dts_nil) (fun _ _ _ _ _ => (de_callP K 0 H_L_number (hr.mono (by decide)) G_L_number.g G_L_number.F.kp G_L_number.b da_nil)))))), ?_⟩
  rintro pl ds Q ⟨hp, n, rfl, hn, q⟩
  replace hn : n ≤ 1000 := hn
  walk_at "wp"
  refine i_mapJ (fun i acc γ => ∃ pl v, γ = [.own true pl, .val (.int n), .any] ∧ PoolP pl ∧ acc = intL v ∧ v.length = i ∧ Bd 133 v) (by omega) ⟨pl, [], rfl, hp, rfl, rfl, fun x hx => by cases hx⟩ (fun i acc γ' ⟨pl, m, e, _⟩ => by subst e; rfl) ?_ ?_
  · rintro i acc γ' hi ⟨pl, m, rfl, hp, rfl, rfl, bm⟩
    walk_at "wp"
    refine num40_i hp fun x pl' x0 hp' => ?_
    walk_at "wp"
    refine ⟨pl', m ++ [x], rfl, hp', ?_, ?_, bd_snoc bm x0⟩
    · rw [intL_append]; rfl
    · rw [List.length_append]; rfl
  · rintro acc γ' ⟨pl, v, rfl, hp, rfl, hv, bv⟩
    walk_at "wp"
    exact ⟨pl, rfl, q _ _ ⟨v, rfl, hv, bv⟩ hp⟩
theorem ok_L_mixed (M : Blt mg) (G_L_draw : Gf K mg "_law_draw" s_L_draw ["_law_hand_here", "_law_many"]) (G_L_mixed : Gf K mg "_law_mixed" s_L_mixed ["_law_hand_here", "_law_width", "_law_vectors_here"]) : FnOk P w K mg base CX0 2 G_L_mixed.f G_L_mixed.fd ["_law_hand_here", "_law_width", "_law_vectors_here"] (spP K spec_mix) := by
  have H_L_draw : FnOk P w K mg base CX0 1 G_L_draw.f G_L_draw.fd ["_law_hand_here", "_law_many"] (spP K spec_L_draw) := ok_L_draw M G_L_draw
  refine fn_okP G_L_mixed.F sc_L_mixed (fun pl ds Q ⟨_, a, e, _⟩ => by rw [e]; rfl) fun cdv A outer s0 H E hr => ⟨_, _, (dss_cons (ds_setO (i := 3) sc_L_mixed.nd (df_lc (own := [("_law_k", 6)]) rfl sc_L_mixed.nd (di_range1 M.range (da_cons (de_var 1) da_nil)) (blkOk_by (by rfl)) (fun _ _ _ _ _ => (dg_name (i := 6) sc_L_mixed.nd)) (gin_name (by decide)) gmo_name (fun _ _ _ _ _ => dts_nil) (fun _ _ _ _ _ => de_int)))
      (dss_cons (ds_for PassesOwn.never rfl (di_list K (de_var 2)) (dg_name (i := 4) sc_L_mixed.nd) (dss_cons (ds_set (i := 5) sc_L_mixed.nd (de_sub (de_callP K 0 H_L_draw (hr.mono (by decide)) G_L_draw.g G_L_draw.F.kp G_L_draw.b (da_cons de_int da_nil)) de_int))
      (dss_one (ds_setO (i := 3) sc_L_mixed.nd (df_lc (own := [("_law_k", 6)]) rfl sc_L_mixed.nd (di_range1 M.range (da_cons (de_var 1) da_nil)) (blkOk_by (by rfl)) (fun _ _ _ _ _ => (dg_name (i := 6) sc_L_mixed.nd)) (gin_name (by decide)) gmo_name (fun _ _ _ _ _ => dts_nil) (fun _ _ _ _ _ => (de_add (de_ixO K 3 (de_var 6)) (de_mulK (de_var 5) (de_ix K (de_var 4) (de_var 6))))))))))
      (dss_one (ds_retO 3)))), ?_⟩
  rintro pl ds Q ⟨hp, ⟨n, B, k⟩, rfl, ⟨hn, hl, hb, bb⟩, q⟩
  replace hn : n ≤ 1000 := hn
  replace hl : ∀ r ∈ B, r.length = n := hl
  replace hb : B.length ≤ 80 := hb
  replace bb : BdL k B := bb
  replace q : ∀ (v : List Int) pl', v.length = n → Bd (k + 8) v → Sp B (ent v) → PoolP pl' → Q (.f (intL v)) pl' := fun v pl' h1 h2 h3 hp => q _ _ ⟨v, rfl, h1, h2, h3⟩ hp
  walk_at "wp"
  refine i_mapN (n := n) _ (fun _ => .int 0) (dLs_rng n) (by omega) rfl (fun i hi R hR => ?_) ?_
  · walk_at "wp"
    exact hR _ rfl
  walk_at "wp"
  refine ⟨fun i γ => i ≤ B.length ∧ ∃ (pl : List D) (v : List Int) (s4 s5 : Sl), PoolP pl ∧ v.length = n ∧ Sp B (ent v) ∧ (∀ j, (ent v j).natAbs ≤ 3 * i * 2 ^ k) ∧ γ = [.own true pl, .val (.int n), .val (.lst (rowsD B)), .own false (intL v), s4, s5, .any], ⟨Nat.zero_le _, pl, (List.range n).map fun _ => 0, _, _, hp, by simp, ?_, fun j => ?_, by rw [intL_rng]; rfl⟩, ?_, ?_⟩
  · refine Spn.zero.of fun j => ?_
    rcases Nat.lt_or_ge j n with z | z
    · rw [ent_rng z]; rfl
    · rw [ent_out (by simpa using z)]; rfl
  · rcases Nat.lt_or_ge j n with z | z
    · rw [ent_rng z]; exact Nat.zero_le _
    · rw [ent_out (by simpa using z)]; exact Nat.zero_le _
  · rintro i d γ hd ⟨hi, pl, v, s4, s5, hp, hv, hsp, bv, rfl⟩
    obtain ⟨b, hb', rfl, hi⟩ := rowsD_inv hd
    have hbm : b ∈ B := List.mem_of_getElem? hb'
    have hbl := hl b hbm
    walk_at "wp"
    refine draw_i (many := 7) hp (.of (by omega)) fun c pl1 c0 c1 hp1 => ?_
    walk_at "wp"
    refine i_mapN (n := n) _ (fun j => .int (ent v j + (c - 3) * ent b j)) (dLs_rng n) (by omega) rfl (fun j hj R hR => ?_) ?_
    · walk_at "wp"
      refine i_ixO2 rfl (intL_at (by omega)) ?_
      walk_at "wp"
      refine i_ixL (intL_at (by omega)) ?_
      walk_at "wp"
      exact hR _ rfl
    walk_at "wp"
    have en : ∀ j, ent ((List.range n).map fun j => ent v j + (c - 3) * ent b j) j = ent v j + (c - 3) * ent b j := fun j => by
      rcases Nat.lt_or_ge j n with z | z
      · exact ent_rng z
      · rw [ent_out (by simpa using z), ent_out (r := v) (j := j) (by omega), ent_out (r := b) (j := j) (by omega)]; simp
    refine ⟨hi, pl1, (List.range n).map fun j => ent v j + (c - 3) * ent b j, _, _, hp1, by simp, ?_, fun j => ?_, by rw [intL_rng]; rfl⟩
    · refine (hsp.add (Spn.smul (c - 3) (.mem (List.mem_map.mpr ⟨b, hbm, rfl⟩)))).of fun j => (en j).symm
    · rw [en]
      have h1 := bv j
      have h2 : ((c - 3) * ent b j).natAbs ≤ 3 * 2 ^ k := by
        rw [Int.natAbs_mul]
        exact Nat.mul_le_mul (by omega) (Nat.le_of_lt ((bb b hbm).ent j))
      have h3 := Int.natAbs_add_le (ent v j) ((c - 3) * ent b j)
      have e : 3 * (i + 1) * 2 ^ k = 3 * i * 2 ^ k + 3 * 2 ^ k := by rw [Nat.mul_add, Nat.add_mul]
      rw [e]
      omega
  · rintro γ ⟨_, pl, v, s4, s5, hp, hv, hsp, bv, rfl⟩
    rw [List.length_map] at bv
    walk_at "wp"
    refine ⟨pl, rfl, q v _ hv (fun x hx => ?_) hsp hp⟩
    obtain ⟨j, hj, e⟩ := List.mem_iff_getElem.mp hx
    have h1 := bv j
    have e1 : ent v j = x := Option.some.inj ((ent_get hj).symm.trans ((List.getElem?_eq_getElem hj).trans (congrArg some e)))
    rw [e1] at h1
    have h2 : 3 * B.length * 2 ^ k ≤ 240 * 2 ^ k := Nat.mul_le_mul_right _ (by omega)
    have h4 : 0 < 2 ^ k := Nat.pow_pos (by decide)
    rw [Nat.pow_add]
    omega
theorem ok_L_vectors (M : Blt mg) (G_L_draw : Gf K mg "_law_draw" s_L_draw ["_law_hand_here", "_law_many"]) (G_L_number : Gf K mg "_law_number" s_L_number ["_law_hand_here"]) (G_L_vector : Gf K mg "_law_vector" s_L_vector ["_law_hand_here", "_law_width"]) (G_L_mixed : Gf K mg "_law_mixed" s_L_mixed ["_law_hand_here", "_law_width", "_law_vectors_here"]) (G_L_vectors : Gf K mg "_law_vectors" s_L_vectors ["_law_hand_here", "_law_width", "_law_many"]) : FnOk P w K mg base CX0 4 G_L_vectors.f G_L_vectors.fd ["_law_hand_here", "_law_width", "_law_many"] (spP K spec_vecs40) := by
  have H_L_draw : FnOk P w K mg base CX0 1 G_L_draw.f G_L_draw.fd ["_law_hand_here", "_law_many"] (spP K spec_L_draw) := ok_L_draw M G_L_draw
  have H_L_vector := ok_L_vector (P := P) (w := w) (base := base) M G_L_draw G_L_number G_L_vector
  have H_L_mixed := ok_L_mixed (P := P) (w := w) (base := base) M G_L_draw G_L_mixed
  refine fn_okP G_L_vectors.F sc_L_vectors (fun pl ds Q ⟨_, a, e, _⟩ => by rw [e]; rfl) fun cdv A outer s0 H E hr => ⟨_, _, (dss_cons (ds_setO (i := 3) sc_L_vectors.nd (df_lst da_nil))
      (dss_cons (ds_for PassesOwn.never rfl (di_range1 M.range (da_cons (de_var 2) da_nil)) (dg_name (i := 4) sc_L_vectors.nd) (dss_cons (ds_set (i := 5) sc_L_vectors.nd (de_callP K 0 H_L_vector (hr.mono (by decide)) G_L_vector.g G_L_vector.F.kp G_L_vector.b (da_cons (de_var 1) da_nil)))
      (dss_cut (ds_if (DW.dt (dw_and (dt_gt (de_lenO K 3 M.len) de_int) (dw_and1 (dt_eq (de_callP K 0 H_L_draw (hr.mono (by decide)) G_L_draw.g G_L_draw.F.kp G_L_draw.b (da_cons de_int da_nil)) de_int)))) (dss_one (ds_set (i := 5) sc_L_vectors.nd (DF.v (df_callPL K 0 3 H_L_mixed (hr.mono (by decide)) G_L_mixed.g G_L_mixed.F.kp G_L_mixed.b (da_cons (de_var 1) (da_cons (de_var 3) da_nil)))))) dss_nil)
      (dss_one (ds_app 3 (fun h => pe_bm PySem.F.plainAttrs_list PySem.F.slot_list_append PySem.F.type_list_append mt_append (pv 3) (pa_cons h pa_nil)) (de_var 5))))))
      (dss_one (ds_retO 3)))), ?_⟩
  rintro pl ds Q ⟨hp, ⟨n, m⟩, rfl, ⟨hn, hm⟩, q⟩
  replace hn : n ≤ 1000 := hn
  replace hm : m ≤ 40 := hm
  replace q : ∀ (B : List (List Int)) pl', B.length = m → (∀ r ∈ B, r.length = n) → BdL (133 + 8 * m) B → PoolP pl' → Q (.f (rowsD B)) pl' := fun B pl' h1 h2 h3 hp => q _ _ ⟨B, rfl, h1, h2, h3⟩ hp
  walk_at "wp"
  refine ⟨fun i γ => i ≤ m ∧ ∃ (pl : List D) (B : List (List Int)) (s4 s5 : Sl), PoolP pl ∧ B.length = i ∧ (∀ r ∈ B, r.length = n) ∧ BdL (133 + 8 * i) B ∧ γ = [.own true pl, .val (.int n), .val (.int m), .own false (rowsD B), s4, s5], ⟨Nat.zero_le _, pl, [], _, _, hp, rfl, (fun r hr => by cases hr), (fun r hr => by cases hr), rfl⟩, ?_, ?_⟩
  · rintro i d γ hd ⟨hi, pl, B, s4, s5, hp, hB, hl, bb, rfl⟩
    obtain ⟨rfl, hi⟩ := rng0_inv hd
    replace hi : i < m := hi
    walk_at "wp"
    refine vec40_i hp hn fun v pl1 hv bv hp1 => ?_
    walk_at "wp"
    refine ⟨fun γ => ∃ (pl : List D) (v : List Int), PoolP pl ∧ v.length = n ∧ Bd (133 + 8 * (i + 1)) v ∧ γ = [.own true pl, .val (.int n), .val (.int m), .own false (rowsD B), .val (.int i), .val (.lst (intL v))], ?_, ?_⟩
    · walk_at "wp"
      refine i_ite (fun h => ?_) (fun h => ?_)
      · walk_at "wp"
        refine draw_i (many := 3) hp1 (.of (by omega)) fun c pl2 c0 c1 hp2 => ?_
        walk_at "wp"
        refine i_ite (fun h => ?_) (fun h => ?_)
        · walk_at "wp"
          refine mix_i (k := 133 + 8 * i) hp2 hn hl (by omega) bb fun u pl3 hu bu _ hp3 => ?_
          walk_at "wp"
          refine ⟨flats_ints, ?_⟩
          exact ⟨pl3, u, hp3, hu, bu.le (by omega), rfl⟩
        · walk_at "wp"
          exact ⟨pl2, v, hp2, hv, bv.le (by omega), rfl⟩
      · walk_at "wp"
        exact ⟨pl1, v, hp1, hv, bv.le (by omega), rfl⟩
    · rintro γ ⟨pl, v, hp, hv, bv, rfl⟩
      walk_at "wp"
      refine ⟨hi, pl, B ++ [v], _, _, hp, by rw [List.length_append, hB]; rfl, fun r hr => ?_, fun r hr => ?_, by rw [rowsD_append]; rfl⟩
      · rcases List.mem_append.mp hr with z | z
        · exact hl r z
        · rw [List.mem_singleton.mp z]; exact hv
      · rcases List.mem_append.mp hr with z | z
        · exact (bb r z).le (by omega)
        · rw [List.mem_singleton.mp z]; exact bv
  · rintro γ ⟨_, pl, B, s4, s5, hp, hB, hl, bb, rfl⟩
    rw [rngD_len] at hB bb
    walk_at "wp"
    exact ⟨pl, rfl, q B _ hB hl bb hp⟩
end

/-! ### the law's own bases -/
abbrev s_L_pivot : Stmt := topS 26
theorem sc_L_pivot : FnScope ["_law_row", "_law_at"] ["_law_row"] (defScope s_L_pivot) := ⟨rfl, rfl, rfl, by decide +kernel, rfl, by decide +kernel, by decide +kernel⟩

abbrev s_L_divisor : Stmt := topS 27
theorem sc_L_divisor : FnScope ["_law_one", "_law_other", "_law_turn", "_law_rest_here"] ["_law_one", "_law_other"] (defScope s_L_divisor) := ⟨rfl, rfl, rfl, by decide +kernel, rfl, by decide +kernel, by decide +kernel⟩

abbrev s_L_cut : Stmt := topS 28
theorem sc_L_cut : FnScope ["_law_row", "_law_divisor_here", "_law_number_here"] ["_law_row"] (defScope s_L_cut) := ⟨rfl, rfl, rfl, by decide +kernel, rfl, by decide +kernel, by decide +kernel⟩

abbrev s_L_rest : Stmt := topS 29
theorem sc_L_rest : FnScope ["_law_basis", "_law_row", "_law_base", "_law_at", "_law_k"] ["_law_basis", "_law_row"] (defScope s_L_rest) := ⟨rfl, rfl, rfl, by decide +kernel, rfl, by decide +kernel, by decide +kernel⟩

abbrev s_L_extended : Stmt := topS 30
theorem sc_L_extended : FnScope ["_law_basis", "_law_row", "_law_rest_here", "_law_at", "_law_ahead", "_law_behind", "_law_base", "_law_k"] ["_law_basis", "_law_row"] (defScope s_L_extended) := ⟨rfl, rfl, rfl, by decide +kernel, rfl, by decide +kernel, by decide +kernel⟩

abbrev s_L_reduced : Stmt := topS 31
theorem sc_L_reduced : FnScope ["_law_rows", "_law_basis", "_law_row"] ["_law_rows"] (defScope s_L_reduced) := ⟨rfl, rfl, rfl, by decide +kernel, rfl, by decide +kernel, by decide +kernel⟩

def spec_gcd2 : SpecD := SpecD.of (fun a : Int × Int × Nat => [.int a.1, .int a.2.1]) (fun a => a.1.natAbs < 2 ^ a.2.2 ∧ a.2.1.natAbs < 2 ^ a.2.2 ∧ a.2.2 ≤ 1000000000) (fun a v => v = .d (.int (Nat.gcd a.1.natAbs a.2.1.natAbs : Nat)))
def spec_cut : SpecD := SpecD.of (fun a : List Int × Nat => [.lst (intL a.1)]) (fun a => a.1.length ≤ 100000 ∧ Bd a.2 a.1 ∧ a.2 ≤ 1000000000) (fun a v => v = .f (intL (prim a.1)))
def spec_rest : SpecD := SpecD.of (fun a : Nat × List (List Int) × List Int × Nat × Nat => [.lst (rowsD a.2.1), .lst (intL a.2.2.1)]) (fun a => PreB a.1 a.2.1 a.2.2.1 a.2.2.2.1 a.2.2.2.2)
  (fun a v => ∃ t, v = .f (intL (prim t)) ∧ Rest a.1 a.2.1 a.2.2.1 t ∧ Bd (a.2.2.2.2 + a.2.1.length * (a.2.2.2.1 + 1)) t)
/-- both not negative, or both not positive -/
def SameSg (x y : Int) : Prop := 0 ≤ x ∧ 0 ≤ y ∨ x ≤ 0 ∧ y ≤ 0
/-- how far the division chain has come -/
def Chain (N i : Nat) (x y : Int) : Prop := ∃ L : Nat, SameSg x y ∧ (y.natAbs < 2 ^ L ∧ i + 2 * L ≤ N ∨ y.natAbs < x.natAbs ∧ x.natAbs < 2 ^ L ∧ i + 2 * L ≤ N + 1)
theorem fmod_sg {x y : Int} (hy : y ≠ 0) : SameSg y (x.fmod y) := by
  rcases Int.lt_or_lt_of_ne hy with h | h
  · have h1 : (-x).fmod (-y) = -(x.fmod y) := Int.neg_fmod_neg x y
    have h2 : 0 ≤ (-x).fmod (-y) := Int.fmod_nonneg_of_pos _ (by omega)
    exact .inr ⟨by omega, by omega⟩
  · exact .inl ⟨by omega, Int.fmod_nonneg_of_pos _ h⟩
theorem fmod_half {x y : Int} (hy : y ≠ 0) (hs : SameSg x y) (hlt : y.natAbs < x.natAbs) : 2 * (x.fmod y).natAbs < x.natAbs := by
  have key : ∀ a b : Int, 0 ≤ a → 0 < b → b < a → 2 * (a.fmod b) < a := fun a b h0 h1 h2 => by
    have e := Int.fmod_def a b
    have h3 : 0 ≤ a.fmod b := Int.fmod_nonneg_of_pos _ h1
    have h4 : a.fmod b < b := Int.fmod_lt_of_pos _ h1
    have h5 : 1 ≤ a.fdiv b := by
      rw [Int.fdiv_eq_ediv_of_nonneg _ (by omega)]
      exact (Int.le_ediv_iff_mul_le h1).mpr (by omega)
    have h6 : b ≤ b * a.fdiv b := by
      have := Int.mul_le_mul_of_nonneg_left h5 (Int.le_of_lt h1)
      omega
    omega
  rcases hs with ⟨h1, h2⟩ | ⟨h1, h2⟩
  · have := key x y h1 (by omega) (by omega)
    have h3 : 0 ≤ x.fmod y := Int.fmod_nonneg_of_pos _ (by omega)
    omega
  · have e : (-x).fmod (-y) = -(x.fmod y) := Int.neg_fmod_neg x y
    have := key (-x) (-y) (by omega) (by omega) (by omega)
    have h3 : 0 ≤ (-x).fmod (-y) := Int.fmod_nonneg_of_pos _ (by omega)
    omega
theorem chain_first {N L : Nat} {x y : Int} (hy : y ≠ 0) (hl : y.natAbs < 2 ^ L) (h : 2 * L ≤ N) : Chain N 1 y (x.fmod y) := ⟨L, fmod_sg hy, .inr ⟨fmod_lt hy, hl, by omega⟩⟩
theorem chain_step {N i : Nat} {x y : Int} (hy : y ≠ 0) (h : Chain N i x y) : Chain N (i + 1) y (x.fmod y) := by
  obtain ⟨L, hs, h | ⟨h1, h2, h3⟩⟩ := h
  · exact ⟨L, fmod_sg hy, .inr ⟨fmod_lt hy, h.1, by omega⟩⟩
  · have h4 := fmod_half hy hs h1
    cases L with
    | zero => exfalso; rw [Nat.pow_zero] at h2; omega
    | succ L =>
      rw [Nat.pow_succ] at h2
      exact ⟨L, fmod_sg hy, .inl ⟨by omega, by omega⟩⟩
theorem chain_end {N : Nat} {x y : Int} (h : Chain N N x y) : y = 0 := by
  obtain ⟨L, _, h | ⟨h1, h2, h3⟩⟩ := h
  · have : L = 0 := by omega
    subst this
    have := h.1
    rw [Nat.pow_zero] at this
    omega
  · have : L = 0 := by omega
    subst this
    rw [Nat.pow_zero] at h2
    omega
theorem bits_abs {x : Int} {k : Nat} (h : x.natAbs < 2 ^ k) : Builtin.Int.intBits (if x < 0 then -x else x) ≤ k := PyProof.Rows.intBits_le (by split <;> omega)
theorem lt_bits {x : Int} : x.natAbs < 2 ^ (Builtin.Int.intBits (if x < 0 then -x else x)) := by
  have e : (if x < 0 then -x else x).natAbs = x.natAbs := by split <;> omega
  rw [← e]
  generalize (if x < 0 then -x else x) = y
  unfold Builtin.Int.intBits
  by_cases h : y = 0
  · subst h; decide
  · have hb : ¬ (y == 0) = true := by simpa using h
    rw [if_neg hb]
    exact Nat.lt_log2_self
section
variable {P : Program} {w : World} {K : PySem.W.Frag} {mg : Str → Option Value} {base : Heap}
theorem ok_L_pivot (M : Blt mg) (G_L_pivot : Gf K mg "_law_pivot" s_L_pivot ["_law_row"]) : FnOk P w K mg base CX0 1 G_L_pivot.f G_L_pivot.fd ["_law_row"] (spV K spec_pivot) := by
  refine fn_ok G_L_pivot.F sc_L_pivot (fun ds Q ⟨a, e, _⟩ => by rw [e]; rfl) fun cdv A outer s0 H E hr => ⟨_, _, (dss_cons (ds_for PassesOwn.never rfl (di_range1 M.range (da_cons (de_callB cs_len call_len_seq M.len PySem.boot_len (da_cons (de_var 0) da_nil)) da_nil)) (dg_name (i := 1) sc_L_pivot.nd) (dss_one (ds_if (dt_ne (de_ix K (de_var 0) (de_var 1)) de_int) (dss_one (ds_ret (de_var 1))) dss_nil)))
      (dss_one (ds_ret (de_callB cs_len call_len_seq M.len PySem.boot_len (da_cons (de_var 0) da_nil))))), ?_⟩
  rintro ds Q ⟨r, rfl, hz, q⟩
  have q1 := q _ rfl
  clear q
  replace hz : r.length ≤ 100000 := hz
  walk_at "wp"
  rw [List.length_map]
  refine ⟨fun i γ => i ≤ r.length ∧ (∀ j, j < i → ent r j = 0) ∧ ∃ s1, γ = [.val (.lst (intL r)), s1], ⟨Nat.zero_le _, fun j hj => absurd hj (Nat.not_lt_zero _), _, rfl⟩, ?_, ?_⟩
  · rintro i d γ hd ⟨hi, hj, s1, rfl⟩
    obtain ⟨rfl, hi⟩ := rng0_inv hd
    replace hi : i < r.length := hi
    walk_at "wp"
    refine i_ixL (intL_at hi) ?_
    walk_at "wp"
    refine i_iteN (fun h => ?_) (fun h => ?_)
    · walk_at "wp"
      rw [← pv_of h hj]
      exact q1
    · walk_at "wp"
      refine ⟨hi, fun j hj2 => ?_, _, rfl⟩
      rcases Nat.lt_or_ge j i with z | z
      · exact hj j z
      · have : j = i := by omega
        rw [this]; exact h
  · rintro γ ⟨hi, hj, s1, rfl⟩
    rw [rngD_len] at hj
    replace hj : ∀ j, j < r.length → ent r j = 0 := hj
    walk_at "wp"
    have e : pv r = r.length := pv_zero fun j => by
      rcases Nat.lt_or_ge j r.length with z | z
      · exact hj j z
      · exact ent_out z
    rw [e] at q1
    rw [List.length_map]
    exact q1
theorem ok_L_divisor (M : Blt mg) (G_L_divisor : Gf K mg "_law_divisor" s_L_divisor ["_law_one", "_law_other"]) : FnOk P w K mg base CX0 1 G_L_divisor.f G_L_divisor.fd ["_law_one", "_law_other"] (spV K spec_gcd2) := by
  refine fn_ok G_L_divisor.F sc_L_divisor (fun ds Q ⟨a, e, _⟩ => by rw [e]; rfl) fun cdv A outer s0 H E hr => ⟨_, _, (dss_cons (ds_for PassesOwn.never rfl (di_range1 M.range (da_cons (de_add (de_mulK de_int (de_add (de_bits (de_callB cs_abs call_abs M.abs (by decide +kernel) (da_cons (de_var 0) da_nil))) (de_bits (de_callB cs_abs call_abs M.abs (by decide +kernel) (da_cons (de_var 1) da_nil))))) de_int) da_nil)) (dg_name (i := 2) sc_L_divisor.nd) (dss_cons (ds_if (dt_eq (de_var 1) de_int) (dss_one ds_break) dss_nil)
      (dss_cons (ds_set (i := 3) sc_L_divisor.nd (de_modN (de_callTy cs_int call_int1 M.int (by decide +kernel) (da_cons (de_var 0) da_nil)) (de_var 1)))
      (dss_cons (ds_set (i := 0) sc_L_divisor.nd (de_var 1))
      (dss_one (ds_set (i := 1) sc_L_divisor.nd (de_var 3)))))))
      (dss_one (ds_ret (de_callB cs_abs call_abs M.abs (by decide +kernel) (da_cons (de_var 0) da_nil))))), ?_⟩
  rintro ds Q ⟨⟨a, b, l⟩, rfl, ⟨ha, hb, hl⟩, q⟩
  have q1 : Q (.d (.int (Nat.gcd a.natAbs b.natAbs : Nat))) := q _ rfl
  clear q
  have b1 : Builtin.Int.intBits (if a < 0 then -a else a) ≤ l := bits_abs ha
  have b2 : Builtin.Int.intBits (if b < 0 then -b else b) ≤ l := bits_abs hb
  have b3 : b.natAbs < 2 ^ (Builtin.Int.intBits (if b < 0 then -b else b)) := lt_bits
  replace hl : l ≤ 1000000000 := hl
  walk_at "wp"
  generalize Builtin.Int.intBits (if a < 0 then -a else a) = n1 at b1 ⊢
  generalize Builtin.Int.intBits (if b < 0 then -b else b) = n2 at b2 b3 ⊢
  have en : (3 * ((n1 : Int) + (n2 : Int)) + 9).toNat = 3 * (n1 + n2) + 9 := by omega
  simp only [en]
  have fin : ∀ x : Int, Nat.gcd x.natAbs (0 : Int).natAbs = Nat.gcd a.natAbs b.natAbs → Q (.d (.int (if x < 0 then -x else x))) := fun x h => by
    have e : (if x < 0 then -x else x) = ((Nat.gcd a.natAbs b.natAbs : Nat) : Int) := by
      rw [← h]
      show _ = ((Nat.gcd x.natAbs 0 : Nat) : Int)
      rw [Nat.gcd_zero_right]
      split <;> omega
    rw [e]
    exact q1
  walk_at "wp"
  refine ⟨fun i γ => i ≤ 3 * (n1 + n2) + 9 ∧ ∃ (x y : Int) (s2 s3 : Sl), Nat.gcd x.natAbs y.natAbs = Nat.gcd a.natAbs b.natAbs ∧ (i = 0 ∧ y = b ∨ Chain (3 * (n1 + n2) + 9) i x y) ∧ γ = [.val (.int x), .val (.int y), s2, s3], ⟨Nat.zero_le _, a, b, _, _, rfl, .inl ⟨rfl, rfl⟩, rfl⟩, ?_, ?_⟩
  · rintro i d γ hd ⟨hi, x, y, s2, s3, hg, hc, rfl⟩
    obtain ⟨rfl, hi⟩ := rng0_inv hd
    walk_at "wp"
    refine i_ite (fun h => ?_) (fun h => ?_)
    · subst h
      walk_at "wp"
      exact fin x hg
    · walk_at "wp"
      refine ⟨hi, y, x.fmod y, _, _, by rw [gcd_step h]; exact hg, .inr ?_, rfl⟩
      rcases hc with ⟨h0, rfl⟩ | hc
      · subst h0
        exact chain_first h b3 (by omega)
      · exact chain_step h hc
  · rintro γ ⟨hi, x, y, s2, s3, hg, hc, rfl⟩
    rw [rngD_len] at hc
    have hy : y = 0 := by
      rcases hc with ⟨h0, _⟩ | hc
      · omega
      · exact chain_end hc
    subst hy
    walk_at "wp"
    exact fin x hg
theorem ok_L_cut (M : Blt mg) (hSeer : seerB K = true) (hTree : P.given.tree = none) (G_L_pivot : Gf K mg "_law_pivot" s_L_pivot ["_law_row"]) (G_L_divisor : Gf K mg "_law_divisor" s_L_divisor ["_law_one", "_law_other"]) (G_L_cut : Gf K mg "_law_cut" s_L_cut ["_law_row"]) : FnOk P w K mg base CX0 33 G_L_cut.f G_L_cut.fd ["_law_row"] (spV K spec_cut) := by
  have H_L_pivot := ok_L_pivot (P := P) (w := w) (base := base) M G_L_pivot
  have H_L_divisor := ok_L_divisor (P := P) (w := w) (base := base) M G_L_divisor
  refine fn_ok G_L_cut.F sc_L_cut (fun ds Q ⟨a, e, _⟩ => by rw [e]; rfl) fun cdv A outer s0 H E hr => ⟨_, _, (dss_cons (ds_set (i := 1) sc_L_cut.nd de_int)
      (dss_cons (ds_for PassesOwn.never rfl (di_list K (de_var 0)) (dg_name (i := 2) sc_L_cut.nd) (dss_one (ds_set (i := 1) sc_L_cut.nd (de_call K H_L_divisor (hr.mono (by decide)) G_L_divisor.g G_L_divisor.F.kp G_L_divisor.b (da_cons (de_var 1) (da_cons (de_var 2) da_nil))))))
      (dss_cons (ds_if (dt_eq (de_var 1) de_int) (dss_one (ds_retF (df_list K M.list (de_var 0)))) dss_nil)
      (dss_cut (ds_if (dt_lt (de_ix K (de_var 0) (de_call K H_L_pivot (hr.mono (by decide)) G_L_pivot.g G_L_pivot.F.kp G_L_pivot.b (da_cons (de_var 0) da_nil))) de_int) (dss_one (ds_set (i := 1) sc_L_cut.nd (de_sub de_int (de_var 1)))) dss_nil)
      (dss_any 2 (dss_one (ds_retF (df_lc (own := [("_law_number_here", 2)]) rfl sc_L_cut.nd (di_list K (de_var 0)) (blkOk_by (by rfl)) (fun _ _ _ _ _ => (dg_name (i := 2) sc_L_cut.nd)) (gin_name (by decide)) gmo_name (fun _ _ _ _ _ => dts_nil) (fun _ _ _ _ _ => (de_fdvA K hSeer hTree hr (de_var 2) (de_var 1))))))))))), ?_⟩
  rintro ds Q ⟨⟨r, l⟩, rfl, ⟨hz, br, hl⟩, q⟩
  have q1 : Q (.f (intL (prim r))) := q _ rfl
  clear q
  replace hz : r.length ≤ 100000 := hz
  replace br : Bd l r := br
  replace hl : l ≤ 1000000000 := hl
  have gle : ∀ i, i ≤ r.length → gcdL (r.take i) < 2 ^ l := fun i _ => by
    rcases Nat.eq_zero_or_pos (gcdL (r.take i)) with z | z
    · rw [z]; exact Nat.pow_pos (by decide)
    · obtain ⟨j, hj⟩ : ∃ j, ent (r.take i) j ≠ 0 := Classical.byContradiction fun k => by
        have : gcdL (r.take i) = 0 := by
          have hz0 : ∀ j, ent (r.take i) j = 0 := fun j => Classical.byContradiction fun z => k ⟨j, z⟩
          have key : ∀ r : List Int, (∀ j, ent r j = 0) → gcdL r = 0 := by
            intro r
            induction r with
            | nil => intro _; rfl
            | cons x r ih =>
              intro h
              have h0 := h 0
              rw [ent_zero] at h0
              subst h0
              show Nat.gcd 0 (gcdL r) = 0
              rw [ih fun j => by have := h (j + 1); rwa [ent_succ] at this]
              rfl
          exact key _ hz0
        omega
      have hjl : j < (r.take i).length := Nat.not_le.mp fun z => hj (ent_out z)
      have hm : ent (r.take i) j ∈ r.take i := List.mem_of_getElem? (ent_get hjl)
      have h1 := Nat.le_of_dvd (by omega) (gcdL_dvd hm)
      have h2 := br _ (List.mem_of_mem_take hm)
      omega
  walk_at "wp"
  refine ⟨fun i γ => i ≤ r.length ∧ ∃ (s2 : Sl), γ = [.val (.lst (intL r)), .val (.int (gcdL (r.take i) : Nat)), s2], ⟨Nat.zero_le _, _, rfl⟩, ?_, ?_⟩
  · rintro i d γ hd ⟨hi, s2, rfl⟩
    obtain ⟨rfl, hi⟩ := intL_get hd
    walk_at "wp"
    refine ⟨((gcdL (r.take i) : Nat), ent r i, l), rfl, ⟨gle i (by omega), br.ent i, hl⟩, fun v hv => ?_⟩
    subst hv
    refine ⟨hi, .val (.int (ent r i)), ?_⟩
    rw [take_snoc hi, gcdL_snoc]
    rfl
  · rintro γ ⟨_, s2, rfl⟩
    rw [List.length_map, List.take_length]
    walk_at "wp"
    refine i_ite (fun h => ?_) (fun h => ?_)
    · walk_at "wp"
      have e : prim r = r := by unfold prim; rw [if_pos (by omega)]
      rw [e] at q1
      exact q1
    · have hp : pv r < r.length := by
        have := pv_le r
        rcases Nat.lt_or_ge (pv r) r.length with z | z
        · exact z
        · exfalso
          have h0 : ∀ j, ent r j = 0 := pv_full (by omega)
          have := prim_zero h0
          unfold prim at this
          by_cases hg : gcdL r = 0
          · exact h (by omega)
          · have key : ∀ r : List Int, (∀ j, ent r j = 0) → gcdL r = 0 := by
              intro r
              induction r with
              | nil => intro _; rfl
              | cons x r ih =>
                intro h
                have h0 := h 0
                rw [ent_zero] at h0
                subst h0
                show Nat.gcd 0 (gcdL r) = 0
                rw [ih fun j => by have := h (j + 1); rwa [ent_succ] at this]
                rfl
            exact hg (key r h0)
      walk_at "wp"
      refine ⟨fun γ => ∃ (g : Int) (s2 : Sl), g = sgnG r ∧ γ = [.val (.lst (intL r)), .val (.int g), s2], ?_, ?_⟩
      · walk_at "wp"
        refine ⟨r, rfl, hz, fun v hv => ?_⟩
        subst hv
        refine i_ixL (intL_at hp) ?_
        walk_at "wp"
        refine i_ite (fun h => ?_) (fun h => ?_)
        · walk_at "wp"
          refine ⟨_, _, ?_, rfl⟩
          unfold sgnG
          rw [if_pos h]
          omega
        · walk_at "wp"
          refine ⟨_, _, ?_, rfl⟩
          unfold sgnG
          rw [if_neg h]
      · rintro γ ⟨g, s2, rfl, rfl⟩
        have h0 : sgnG r ≠ 0 := sgnG_ne (pv_at hp)
        walk_at "wp"
        refine i_mapN (n := r.length) (fun i => .int (ent r i)) (fun i => .int ((ent r i).fdiv (sgnG r))) (intL_ent rfl) hz rfl (fun i hi R hR => ?_) ?_
        · walk_at "wp"
          exact hR _ rfl
        · walk_at "wp"
          have e : (dLs r.length fun i => D.int ((ent r i).fdiv (sgnG r))) = intL (prim r) := by
            have e1 : prim r = (List.range r.length).map fun i => (ent r i).fdiv (sgnG r) := by
              unfold prim
              rw [if_neg (by have := gcdL_pos (pv_at hp); omega)]
              unfold divL
              generalize sgnG r = g
              conv => lhs; rw [← rng_ent r]
              rw [List.map_map]
              rfl
            rw [e1, intL_rng]
          rw [e]
          exact q1
theorem ok_L_rest (M : Blt mg) (hSeer : seerB K = true) (hTree : P.given.tree = none) (G_L_pivot : Gf K mg "_law_pivot" s_L_pivot ["_law_row"]) (G_L_divisor : Gf K mg "_law_divisor" s_L_divisor ["_law_one", "_law_other"]) (G_L_cut : Gf K mg "_law_cut" s_L_cut ["_law_row"]) (G_L_rest : Gf K mg "_law_rest" s_L_rest ["_law_basis", "_law_row"]) : FnOk P w K mg base CX0 34 G_L_rest.f G_L_rest.fd ["_law_basis", "_law_row"] (spV K spec_rest) := by
  have H_L_pivot := ok_L_pivot (P := P) (w := w) (base := base) M G_L_pivot
  have H_L_cut := ok_L_cut (P := P) (w := w) (base := base) M hSeer hTree G_L_pivot G_L_divisor G_L_cut
  refine fn_ok G_L_rest.F sc_L_rest (fun ds Q ⟨a, e, _⟩ => by rw [e]; rfl) fun cdv A outer s0 H E hr => ⟨_, _, (dss_cons (ds_for PassesOwn.never rfl (di_list K (de_var 0)) (dg_name (i := 2) sc_L_rest.nd) (dss_cons (ds_set (i := 3) sc_L_rest.nd (de_call K H_L_pivot (hr.mono (by decide)) G_L_pivot.g G_L_pivot.F.kp G_L_pivot.b (da_cons (de_var 2) da_nil)))
      (dss_one (ds_if (dt_ne (de_ix K (de_var 1) (de_var 3)) de_int) (dss_one (ds_set (i := 1) sc_L_rest.nd (DF.v (df_call K H_L_cut (hr.mono (by decide)) G_L_cut.g G_L_cut.F.kp G_L_cut.b (da_cons (DF.v (df_lc (own := [("_law_k", 4)]) rfl sc_L_rest.nd (di_range1 M.range (da_cons (de_callB cs_len call_len_seq M.len PySem.boot_len (da_cons (de_var 1) da_nil)) da_nil)) (blkOk_by (by rfl)) (fun _ _ _ _ _ => (dg_name (i := 4) sc_L_rest.nd)) (gin_name (by decide)) gmo_name (fun _ _ _ _ _ => dts_nil) (fun _ _ _ _ _ => (de_sub (de_mulK (de_ix K (de_var 2) (de_var 3)) (de_ix K (de_var 1) (de_var 4))) (de_mulK (de_ix K (de_var 1) (de_var 3)) (de_ix K (de_var 2) (de_var 4))))))) da_nil))))) dss_nil))))
      (dss_one (ds_retF (df_call K H_L_cut (hr.mono (by decide)) G_L_cut.g G_L_cut.F.kp G_L_cut.b (da_cons (de_var 1) da_nil))))), ?_⟩
  rintro ds Q ⟨⟨w, B, r, k, l⟩, rfl, pre, q⟩
  replace q : ∀ v, (∃ t, v = .f (intL (prim t)) ∧ Rest w B r t ∧ Bd (l + B.length * (k + 1)) t) → Q v := q
  obtain ⟨hB, hr, hw, bb, br, hfit⟩ := pre
  replace hB : Ech w B := hB
  replace hr : r.length = w := hr
  replace hw : w ≤ 49 := hw
  replace bb : BdL k B := bb
  replace br : Bd l r := br
  have hBl : B.length ≤ w := hB.le
  replace hfit : (B.length + 2) * k + l + 120 ≤ 60000000 := hfit
  have hBk : (B.length + 2) * k = B.length * k + 2 * k := by rw [Nat.add_mul]
  have hBk1 : B.length * (k + 1) = B.length * k + B.length := by rw [Nat.mul_add, Nat.mul_one]
  walk_at "wp"
  refine ⟨fun i γ => i ≤ B.length ∧ ∃ (t : List Int) (s2 s3 : Sl), t.length = w ∧ (∀ j, j < i → ent t (pv (rowAt B j)) = 0) ∧ (∃ m n : Int, m ≠ 0 ∧ n ≠ 0 ∧ Sp B (fun j => m * ent r j - n * ent t j)) ∧ Bd (l + i * (k + 1)) t ∧ γ = [.val (.lst (rowsD B)), .val (.lst (intL t)), s2, s3, .any], ⟨Nat.zero_le _, r, _, _, hr, fun j hj => absurd hj (Nat.not_lt_zero _), ⟨1, 1, by decide, by decide, Spn.zero.of fun j => by show (0 : Int) = _; omega⟩, by rw [Nat.zero_mul]; exact br, rfl⟩, ?_, ?_⟩
  · rintro i d γ hd ⟨hi, t, s2, s3, ht, hz, ⟨m, n, hm, hn, hsp⟩, bt, rfl⟩
    obtain ⟨b, hb, rfl, hi⟩ := rowsD_inv hd
    have hbm : b ∈ B := List.mem_of_getElem? hb
    have hbi : rowAt B i = b := Option.some.inj ((rowAt_get hi).symm.trans hb)
    have hbl := hB.len b hbm
    have hbp := hB.piv b hbm
    have hb0 := hB.pos b hbm
    have bbm := bb b hbm
    have hik : i * (k + 1) + (k + 1) ≤ B.length * (k + 1) := by
      have := Nat.mul_le_mul_right (k + 1) (show i + 1 ≤ B.length from hi)
      rw [Nat.add_mul, Nat.one_mul] at this
      exact this
    walk_at "wp"
    refine ⟨b, rfl, by show b.length ≤ 100000; omega, fun v hv => ?_⟩
    subst hv
    walk_at "wp"
    refine i_ixL (intL_at (by omega)) ?_
    walk_at "wp"
    refine i_iteN (fun h => ?_) (fun h => ?_)
    · walk_at "wp"
      refine i_mapN (n := t.length) (fun j => .int (j : Int)) (fun j => .int (ent b (pv b) * ent t j - ent t (pv b) * ent b j)) ?_ (by omega) rfl (fun j hj R hR => ?_) ?_
      · rw [List.length_map]; exact dLs_rng _
      · walk_at "wp"
        refine i_ixL (intL_at (by omega)) ?_
        walk_at "wp"
        refine i_ixL (intL_at (by omega)) ?_
        refine i_mul (fitsB (bbm.ent _) (bt.ent _) (by omega)) ?_
        walk_at "wp"
        refine i_ixL (intL_at (by omega)) ?_
        walk_at "wp"
        refine i_ixL (intL_at (by omega)) ?_
        refine i_mul (fitsB (bt.ent _) (bbm.ent _) (by omega)) ?_
        walk_at "wp"
        exact hR _ rfl
      walk_at "wp"
      have hl : t.length = b.length := ht.trans hbl.symm
      have bm : Bd (l + i * (k + 1) + k + 1) (mixL t b (pv b)) := mixL_bd bt bbm
      have en := mixL_ent (p := pv b) hl
      refine ⟨(mixL t b (pv b), l + i * (k + 1) + k + 1), ?_, ⟨by show (mixL t b (pv b)).length ≤ 100000; rw [mixL_len]; omega, bm, by show l + i * (k + 1) + k + 1 ≤ 1000000000; omega⟩, fun v hv => ?_⟩
      · exact congrArg (fun l => [D.lst l]) intL_rng.symm
      · subst hv
        refine i_rf ?_
        walk_at "wp"
        refine ⟨hi, prim (mixL t b (pv b)), _, _, prim_len.trans (mixL_len.trans ht), fun j hj => ?_, ?_, ?_, rfl⟩
        · refine (prim_iff _).mpr ?_
          rw [en]
          rcases Nat.lt_or_ge j i with z | z
          · have srt := List.pairwise_iff_getElem.mp hB.srt j i (by omega) hi z
            have e1 : B[j]'(by omega) = rowAt B j := Option.some.inj ((List.getElem?_eq_getElem (by omega)).symm.trans (rowAt_get (by omega)))
            have e2 : B[i] = b := Option.some.inj ((List.getElem?_eq_getElem hi).symm.trans hb)
            rw [e1, e2] at srt
            rw [hz j z, hB.red b hbm _ (rowAt_mem (by omega)) (by omega)]; simp
          · have : j = i := by omega
            subst this
            rw [hbi, Int.mul_comm]; omega
        · have hs2 : Sp B (fun j => m * ent b (pv b) * ent r j - n * ent (mixL t b (pv b)) j) := by
            refine ((Spn.smul (ent b (pv b)) hsp).add (Spn.smul (n * ent t (pv b)) (.mem (List.mem_map.mpr ⟨b, hbm, rfl⟩)))).of fun j => ?_
            rw [en, Int.mul_sub, Int.mul_sub, ← Int.mul_assoc, ← Int.mul_assoc, ← Int.mul_assoc, ← Int.mul_assoc, Int.mul_comm (ent b (pv b)) m, Int.mul_comm (ent b (pv b)) n]
            omega
          have hmb : m * ent b (pv b) ≠ 0 := Int.mul_ne_zero hm (by omega)
          by_cases hq : ∃ j, ent (mixL t b (pv b)) j ≠ 0
          · obtain ⟨j, hj⟩ := hq
            refine ⟨_, n * sgnG (mixL t b (pv b)), hmb, Int.mul_ne_zero hn (sgnG_ne hj), hs2.of fun i => ?_⟩
            rw [Int.mul_assoc n, prim_ent hj]
          · have hz' : ∀ j, ent (mixL t b (pv b)) j = 0 := fun j => Classical.byContradiction fun z => hq ⟨j, z⟩
            rw [prim_zero hz']
            exact ⟨_, n, hmb, hn, hs2⟩
        · exact (prim_bd bm).le (by rw [Nat.add_mul]; omega)
    · walk_at "wp"
      refine ⟨hi, t, _, _, ht, fun j hj => ?_, ⟨m, n, hm, hn, hsp⟩, bt.le (by rw [Nat.add_mul]; omega), rfl⟩
      rcases Nat.lt_or_ge j i with z | z
      · exact hz j z
      · have : j = i := by omega
        subst this
        rw [hbi]; exact h
  · rintro γ ⟨_, t, s2, s3, ht, hz, hsp, bt, rfl⟩
    rw [List.length_map] at hz bt
    walk_at "wp"
    refine ⟨(t, l + B.length * (k + 1)), rfl, ⟨by show t.length ≤ 100000; omega, bt, by show l + B.length * (k + 1) ≤ 1000000000; omega⟩, fun v hv => ?_⟩
    subst hv
    walk_at "wp"
    refine q _ ⟨t, rfl, ⟨ht, fun b hb => ?_, hsp⟩, bt⟩
    obtain ⟨j, hj, e⟩ := List.mem_iff_getElem.mp hb
    have := hz j hj
    have e1 : rowAt B j = b := Option.some.inj ((rowAt_get hj).symm.trans ((List.getElem?_eq_getElem hj).trans (congrArg some e)))
    rwa [e1] at this
end

/-! ### the law's own bases: extended, reduced -/
section
variable {P : Program} {w : World} {K : PySem.W.Frag} {mg : Str → Option Value} {base : Heap}
theorem ok_L_extended (M : Blt mg) (hSeer : seerB K = true) (hTree : P.given.tree = none) (G_L_pivot : Gf K mg "_law_pivot" s_L_pivot ["_law_row"]) (G_L_divisor : Gf K mg "_law_divisor" s_L_divisor ["_law_one", "_law_other"]) (G_L_cut : Gf K mg "_law_cut" s_L_cut ["_law_row"]) (G_L_rest : Gf K mg "_law_rest" s_L_rest ["_law_basis", "_law_row"])
    (G_L_extended : Gf K mg "_law_extended" s_L_extended ["_law_basis", "_law_row"]) : FnOk P w K mg base CX0 35 G_L_extended.f G_L_extended.fd ["_law_basis", "_law_row"] (spV K spec_ext) := by
  have H_L_pivot := ok_L_pivot (P := P) (w := w) (base := base) M G_L_pivot
  have H_L_cut := ok_L_cut (P := P) (w := w) (base := base) M hSeer hTree G_L_pivot G_L_divisor G_L_cut
  have H_L_rest := ok_L_rest (P := P) (w := w) (base := base) M hSeer hTree G_L_pivot G_L_divisor G_L_cut G_L_rest
  refine fn_ok G_L_extended.F sc_L_extended (fun ds Q ⟨a, e, _⟩ => by rw [e]; rfl) fun cdv A outer s0 H E hr => ⟨_, _, (dss_cons (ds_set (i := 2) sc_L_extended.nd (DF.v (df_call K H_L_rest (hr.mono (by decide)) G_L_rest.g G_L_rest.F.kp G_L_rest.b (da_cons (de_var 0) (da_cons (de_var 1) da_nil)))))
      (dss_cons (ds_set (i := 3) sc_L_extended.nd (de_call K H_L_pivot (hr.mono (by decide)) G_L_pivot.g G_L_pivot.F.kp G_L_pivot.b (da_cons (de_var 2) da_nil)))
      (dss_cons (ds_if (dt_eq (de_var 3) (de_callB cs_len call_len_seq M.len PySem.boot_len (da_cons (de_var 2) da_nil))) (dss_one (ds_ret (de_var 0))) dss_nil)
      (dss_cons (ds_setO (i := 4) sc_L_extended.nd (df_lst da_nil))
      (dss_cons (ds_setO (i := 5) sc_L_extended.nd (df_lst da_nil))
      (dss_cons (ds_for PassesOwn.never rfl (di_list K (de_var 0)) (dg_name (i := 6) sc_L_extended.nd) (dss_one (ds_if (dt_lt (de_call K H_L_pivot (hr.mono (by decide)) G_L_pivot.g G_L_pivot.F.kp G_L_pivot.b (da_cons (de_var 6) da_nil)) (de_var 3)) (dss_one (ds_app 4 (fun h => pe_bm PySem.F.plainAttrs_list PySem.F.slot_list_append PySem.F.type_list_append mt_append (pv 4) (pa_cons h pa_nil)) (DF.v (df_call K H_L_cut (hr.mono (by decide)) G_L_cut.g G_L_cut.F.kp G_L_cut.b (da_cons (DF.v (df_lc (own := [("_law_k", 7)]) rfl sc_L_extended.nd (di_range1 M.range (da_cons (de_callB cs_len call_len_seq M.len PySem.boot_len (da_cons (de_var 6) da_nil)) da_nil)) (blkOk_by (by rfl)) (fun _ _ _ _ _ => (dg_name (i := 7) sc_L_extended.nd)) (gin_name (by decide)) gmo_name (fun _ _ _ _ _ => dts_nil) (fun _ _ _ _ _ => (de_sub (de_mulK (de_ix K (de_var 2) (de_var 3)) (de_ix K (de_var 6) (de_var 7))) (de_mulK (de_ix K (de_var 6) (de_var 3)) (de_ix K (de_var 2) (de_var 7))))))) da_nil))))) (dss_one (ds_app 5 (fun h => pe_bm PySem.F.plainAttrs_list PySem.F.slot_list_append PySem.F.type_list_append mt_append (pv 5) (pa_cons h pa_nil)) (de_var 6))))))
      (dss_frz 5 (dss_frz 4 (dss_one (ds_ret (DF.v (df_cat (DF.v (df_cat (de_var 4) (DF.v (df_lst (da_cons (de_var 2) da_nil))))) (de_var 5))))))))))))), ?_⟩
  rintro ds Q ⟨⟨w, B, r, k, l⟩, rfl, pre, q⟩
  replace pre : PreB w B r k l := pre
  replace q : ∀ v : Rv, (∃ B', v.val = .lst (rowsD B') ∧ Ech w B' ∧ (∀ u, Sp B' u ↔ Spn (ent r :: vecs B) u) ∧ BdL ((B.length + 2) * k + l + 60) B' ∧ (Sp B (ent r) ∧ B' = B ∨ ¬ Sp B (ent r) ∧ B'.length = B.length + 1)) → Q v := q
  have pre' := pre
  obtain ⟨hB, hr, hw, bb, br, hfit⟩ := pre'
  have hBl : B.length ≤ w := hB.le
  have hBk : (B.length + 2) * k = B.length * k + 2 * k := by rw [Nat.add_mul]
  have hBk1 : B.length * (k + 1) = B.length * k + B.length := by rw [Nat.mul_add, Nat.mul_one]
  walk_at "wp"
  refine ⟨⟨w, B, r, k, l⟩, rfl, pre, fun v hv => ?_⟩
  obtain ⟨t, rfl, rst, bt⟩ := hv
  replace rst : Rest w B r t := rst
  replace bt : Bd (l + B.length * (k + 1)) t := bt
  walk_at "wp"
  have htl := rst.len
  have hpl : (prim t).length = w := prim_len.trans htl
  refine ⟨prim t, rfl, by show (prim t).length ≤ 100000; omega, fun v hv => ?_⟩
  subst hv
  walk_at "wp"
  refine i_ite (fun h => ?_) (fun h => ?_)
  · walk_at "wp"
    rw [List.length_map] at h
    have hz : ∀ j, ent t j = 0 := fun j => (prim_iff j).mp (pv_full (by omega) j)
    have hin := rst.inside hz
    refine q _ ⟨B, rfl, hB, fun u => ⟨fun k => k.mono fun a ha => List.mem_cons_of_mem _ ha, fun k => k.trans fun a ha => ?_⟩, bb.le (by omega), .inl ⟨hin, rfl⟩⟩
    rcases List.mem_cons.mp ha with z | z
    · rw [z]; exact hin
    · exact .mem z
  · rw [List.length_map] at h
    have hp : pv (prim t) < (prim t).length := by have := pv_le (prim t); omega
    have hpt : pv t < t.length := by rw [prim_pv] at hp; omega
    have rs := rst.prim
    have hpos : 0 < ent (prim t) (pv (prim t)) := by rw [prim_pv]; exact prim_pos hpt
    have hg := prim_gcd (pv_at hpt)
    have bs := prim_bd bt
    have hout : ¬ Sp B (ent r) := fun k => pv_at hp (rs.outside hB k _)
    generalize prim t = s at hp hpos hg bs rs hpl hout ⊢
    have npv : ∀ a ∈ B, pv a ≠ pv s := fun a ha z => by
      have h0 := rs.zero a ha
      rw [z] at h0
      omega
    walk_at "wp"
    refine ⟨fun i γ => i ≤ B.length ∧ ∃ (s6 : Sl), γ = [.val (.lst (rowsD B)), .val (.lst (intL r)), .val (.lst (intL s)), .val (.int (pv s)), .own false (rowsD (((B.take i).filter fun b => decide (pv b < pv s)).map fun b => prim (mixL b s (pv s)))), .own false (rowsD ((B.take i).filter fun b => decide (pv s < pv b))), s6, .any], ⟨Nat.zero_le _, _, rfl⟩, ?_, ?_⟩
    · rintro i d γ hd ⟨hi, s6, rfl⟩
      obtain ⟨b, hb, rfl, hi⟩ := rowsD_inv hd
      have hbm : b ∈ B := List.mem_of_getElem? hb
      have hbl := hB.len b hbm
      have hbp := hB.piv b hbm
      have bbm := bb b hbm
      have et : B.take (i + 1) = B.take i ++ [b] := by rw [List.take_add_one, hb]; rfl
      have f1 := List.length_filter_le (fun b => decide (pv b < pv s)) (B.take i)
      have f2 := List.length_filter_le (fun b => decide (pv s < pv b)) (B.take i)
      have f3 : (B.take i).length ≤ B.length := by rw [List.length_take]; omega
      walk_at "wp"
      refine ⟨b, rfl, by show b.length ≤ 100000; omega, fun v hv => ?_⟩
      subst hv
      walk_at "wp"
      refine i_ite (fun h => ?_) (fun h => ?_)
      · walk_at "wp"
        refine i_mapN (n := b.length) (fun j => .int (j : Int)) (fun j => .int (ent s (pv s) * ent b j - ent b (pv s) * ent s j)) ?_ (by omega) rfl (fun j hj R hR => ?_) ?_
        · rw [List.length_map]; exact dLs_rng _
        · walk_at "wp"
          refine i_ixL (intL_at (by omega)) ?_
          walk_at "wp"
          refine i_ixL (intL_at (by omega)) ?_
          refine i_mul (fitsB (bs.ent _) (bbm.ent _) (by omega)) ?_
          walk_at "wp"
          refine i_ixL (intL_at (by omega)) ?_
          walk_at "wp"
          refine i_ixL (intL_at (by omega)) ?_
          refine i_mul (fitsB (bbm.ent _) (bs.ent _) (by omega)) ?_
          walk_at "wp"
          exact hR _ rfl
        walk_at "wp"
        have bm : Bd (k + (l + B.length * (k + 1)) + 1) (mixL b s (pv s)) := mixL_bd bbm bs
        refine ⟨(mixL b s (pv s), k + (l + B.length * (k + 1)) + 1), ?_, ⟨by show (mixL b s (pv s)).length ≤ 100000; rw [mixL_len]; omega, bm, by show k + (l + B.length * (k + 1)) + 1 ≤ 1000000000; omega⟩, fun v hv => ?_⟩
        · exact congrArg (fun l => [D.lst l]) intL_rng.symm
        · subst hv
          walk_at "wp"
          refine ⟨hi, .val (.lst (intL b)), ?_⟩
          have h' : pv b < pv s := by omega
          rw [et, List.filter_append, List.filter_append, List.filter_cons, if_pos (decide_eq_true h'), List.filter_cons, if_neg (by simp; omega), List.map_append, rowsD_append]
          simp only [List.filter_nil, List.append_nil]
          rfl
      · walk_at "wp"
        refine ⟨hi, .val (.lst (intL b)), ?_⟩
        have h' : pv s < pv b := by have := npv b hbm; omega
        rw [et, List.filter_append, List.filter_append, List.filter_cons, if_neg (by simp; omega), List.filter_cons, if_pos (decide_eq_true h'), rowsD_append]
        simp only [List.filter_nil, List.append_nil]
        rfl
    · rintro γ ⟨_, s6, rfl⟩
      rw [List.length_map, List.take_length]
      have hfl : (B.filter fun b => decide (pv b < pv s)).length ≤ B.length := List.length_filter_le _ _
      have hfl2 : (B.filter fun b => decide (pv s < pv b)).length ≤ B.length := List.length_filter_le _ _
      walk_at "wp"
      have hC : ClrL w s (pv s) (B.filter fun b => decide (pv b < pv s)) ((B.filter fun b => decide (pv b < pv s)).map fun b => prim (mixL b s (pv s))) := clrL_map fun a ha => by
        obtain ⟨h1, h2⟩ := List.mem_filter.mp ha
        exact clr_of hB h1 hpl rfl hpos rs.zero (of_decide_eq_true h2)
      obtain ⟨e1, e2⟩ := ext_ech hB rs (by omega) hpos hg hC
      refine q _ ⟨_, ?_, e1, e2, fun b hb => ?_, .inr ⟨hout, ?_⟩⟩
      · show D.lst _ = D.lst _
        unfold extL
        rw [rowsD_append, List.append_assoc]
        rfl
      · rcases List.mem_append.mp hb with z | z
        · obtain ⟨a, ha, rfl⟩ := List.mem_map.mp z
          exact (prim_bd (mixL_bd (bb a (List.mem_filter.mp ha).1) bs)).le (by omega)
        · rcases List.mem_cons.mp z with z | z
          · rw [z]; exact bs.le (by omega)
          · exact (bb b (List.mem_filter.mp z).1).le (by omega)
      · unfold extL
        rw [List.length_append, List.length_map, List.length_cons]
        have part : ∀ A : List (List Int), (∀ a ∈ A, pv a ≠ pv s) → (A.filter fun b => decide (pv b < pv s)).length + (A.filter fun b => decide (pv s < pv b)).length = A.length := by
          intro A
          induction A with
          | nil => intro _; rfl
          | cons a A ih =>
            intro hA
            have h1 := ih fun b hb => hA b (List.mem_cons_of_mem _ hb)
            have h2 := hA a (List.mem_cons_self ..)
            rcases Nat.lt_or_gt_of_ne h2 with z | z
            · rw [List.filter_cons, if_pos (decide_eq_true z), List.filter_cons, if_neg (by simp; omega), List.length_cons, List.length_cons]; omega
            · rw [List.filter_cons, if_neg (by simp; omega), List.filter_cons, if_pos (decide_eq_true z), List.length_cons, List.length_cons]; omega
        have := part B npv
        omega
theorem ok_L_reduced (M : Blt mg) (hSeer : seerB K = true) (hTree : P.given.tree = none) (G_L_pivot : Gf K mg "_law_pivot" s_L_pivot ["_law_row"]) (G_L_divisor : Gf K mg "_law_divisor" s_L_divisor ["_law_one", "_law_other"]) (G_L_cut : Gf K mg "_law_cut" s_L_cut ["_law_row"]) (G_L_rest : Gf K mg "_law_rest" s_L_rest ["_law_basis", "_law_row"])
    (G_L_extended : Gf K mg "_law_extended" s_L_extended ["_law_basis", "_law_row"]) (G_L_reduced : Gf K mg "_law_reduced" s_L_reduced ["_law_rows"]) : FnOk P w K mg base CX0 36 G_L_reduced.f G_L_reduced.fd ["_law_rows"] (spV K spec_red) := by
  have H_L_extended := ok_L_extended (P := P) (w := w) (base := base) M hSeer hTree G_L_pivot G_L_divisor G_L_cut G_L_rest G_L_extended
  refine fn_ok G_L_reduced.F sc_L_reduced (fun ds Q ⟨a, e, _⟩ => by rw [e]; rfl) fun cdv A outer s0 H E hr => ⟨_, _, (dss_cons (ds_set (i := 1) sc_L_reduced.nd (DF.v (df_lst da_nil)))
      (dss_cons (ds_for PassesOwn.never rfl (di_list K (de_var 0)) (dg_name (i := 2) sc_L_reduced.nd) (dss_one (ds_set (i := 1) sc_L_reduced.nd (de_call K H_L_extended (hr.mono (by decide)) G_L_extended.g G_L_extended.F.kp G_L_extended.b (da_cons (de_var 1) (da_cons (de_var 2) da_nil))))))
      (dss_one (ds_ret (de_var 1))))), ?_⟩
  rintro ds Q ⟨⟨w, rows, b⟩, rfl, ⟨pre, hz⟩, q⟩
  replace pre : PreR w rows b := pre
  replace hz : rows.length ≤ 100000 := hz
  replace q : ∀ v : Rv, (∃ B, v.val = .lst (rowsD B) ∧ Red w rows B b) → Q v := q
  walk_at "wp"
  refine ⟨fun i γ => i ≤ rows.length ∧ ∃ (B : List (List Int)) (s2 : Sl), Red w (rows.take i) B b ∧ γ = [.val (.lst (rowsD rows)), .val (.lst (rowsD B)), s2], ⟨Nat.zero_le _, [], _, ⟨Ech.nil, fun u => Iff.rfl, (fun b hb => by cases hb), Nat.zero_le _⟩, rfl⟩, ?_, ?_⟩
  · rintro i d γ hd ⟨hi, B, s2, red, rfl⟩
    obtain ⟨r, hr, rfl, hi⟩ := rowsD_inv hd
    walk_at "wp"
    refine ⟨⟨w, B, r, _, b⟩, rfl, red_pre pre red hi hr, fun v hv => ?_⟩
    obtain ⟨B', e, ech, spn, bd, hor⟩ := hv
    simp only [e]
    exact ⟨hi, B', _, red_step pre red ech spn hr, rfl⟩
  · rintro γ ⟨_, B, s2, red, rfl⟩
    rw [List.length_map, List.take_length] at red
    walk_at "wp"
    exact q _ ⟨B, rfl, red⟩
end

/-! ### the class -/
abbrev s_Space_init : Stmt := methS 18 0
theorem sc_Space_init : FnScope ["self", "width", "vectors", "index", "vector"] ["self", "width", "vectors"] (defScope s_Space_init) := ⟨rfl, rfl, rfl, by decide +kernel, rfl, by decide +kernel, by decide +kernel⟩

abbrev s_Space_contains : Stmt := methS 18 2
def spaceF (w : Nat) (B : List (List Int)) : List (Str × D) := [("_width", .int (w : Int)), ("_basis", .lst (rowsD B))]
def spaceD (C : Addr) (w : Nat) (B : List (List Int)) : D := .obj C (spaceF w B)
def spec_init : SpecI := ⟨fun ds Q => ∃ (w : Nat) (rows : List (List Int)) (b : Nat), ds = [.int (w : Int), .lst (rowsD rows)] ∧ (1 ≤ w ∧ PreR w rows b ∧ rows.length ≤ 100000) ∧ ∀ B, Red w rows B b → Q (spaceF w B), fun ds P P' k ⟨w, rows, b, e, h, q⟩ => ⟨w, rows, b, e, h, fun B hB => k _ (q B hB)⟩⟩
/-- d lies in the space -/
def Lies (w : Nat) (B : List (List Int)) (d : D) : Prop := ∃ r, d = .lst (intL r) ∧ r.length = w ∧ Sp B (ent r)
def spec_cont (K : PySem.W.Frag) (C : Addr) : SpecD := SpecD.of (fun a : Nat × List (List Int) × D × Nat × Nat => [spaceD C a.1 a.2.1, a.2.2.1]) (fun a => okV K a.2.2.1 ∧ ∀ r, a.2.2.1 = .lst (intL r) → r.length = a.1 → PreB a.1 a.2.1 r a.2.2.2.1 a.2.2.2.2)
  (fun a v => ∃ b : Bool, v = .d (.bl b) ∧ (b = true ↔ Lies a.1 a.2.1 a.2.2.1))
section
variable {P : Program} {w : World} {K : PySem.W.Frag} {mg : Str → Option Value} {base : Heap}
theorem ok_Space_init (M : Blt mg) (hSeer : seerB K = true) (hTree : P.given.tree = none) (hWidest : ∃ t, mg "WIDEST" = some (.int 49 t)) (G_is_integer : Gf K mg "is_integer" s_is_integer ["value"]) (G_is_vector : Gf K mg "is_vector" s_is_vector ["value", "width"]) (G_pivot : Gf K mg "pivot" s_pivot ["row"]) (G_common_divisor : Gf K mg "common_divisor" s_common_divisor ["row"]) (G_primitive : Gf K mg "primitive" s_primitive ["row"]) (G_cleared : Gf K mg "cleared" s_cleared ["row", "base"]) (G_remainder : Gf K mg "remainder" s_remainder ["basis", "row"])
    (G_extended : Gf K mg "extended" s_extended ["basis", "row"]) (G_reduced : Gf K mg "reduced" s_reduced ["rows"]) (T_Space : Tc K mg "Space" ["_width", "_basis"]) (G_Space_init : Gm K T_Space.C "__init__" "Space.__init__" s_Space_init ["self", "width", "vectors"]) : FnOk P w K mg base CX0 37 G_Space_init.f G_Space_init.fd ["self", "width", "vectors"] (spI K T_Space.C spec_init) := by
  have H_is_integer := ok_is_integer (P := P) (w := w) (base := base) M G_is_integer
  have H_is_vector := ok_is_vector (P := P) (w := w) (base := base) M G_is_integer G_is_vector
  have H_reduced := ok_reduced (P := P) (w := w) (base := base) M hSeer hTree G_pivot G_common_divisor G_primitive G_cleared G_remainder G_extended G_reduced
  refine fn_okI G_Space_init.F sc_Space_init (fun ds Q ⟨w, rows, b, e, _⟩ => by rw [e]; rfl) fun cdv A outer s0 H E hr => ⟨_, _, (dss_cons (ds_if (DW.dt (dw_or (dt_not (dt_tr K (de_call K H_is_integer (hr.mono (by decide)) G_is_integer.g G_is_integer.F.kp G_is_integer.b (da_cons (de_var 1) da_nil)))) (dw_or1 (dt_not (dt_chain op_le ops_le op_le ops_le de_int (de_var 1) (de_globI hWidest)))))) (dss_one ds_no) dss_nil)
      (dss_cons (ds_if (dt_not (dt_tr K (de_isi K kit_L M.isinstance M.list (by decide +kernel) (de_var 2)))) (dss_one ds_no) dss_nil)
      (dss_cons (ds_for PassesOwn.never rfl (di_enum K M.enumerate (da_cons (de_var 2) da_nil)) (dg_tup K (n := 2) rfl (dgs_cons (dg_name (i := 3) sc_Space_init.nd) (dgs_cons (dg_name (i := 4) sc_Space_init.nd) dgs_nil))) (dss_one (ds_if (dt_not (dt_tr K (de_call K H_is_vector (hr.mono (by decide)) G_is_vector.g G_is_vector.F.kp G_is_vector.b (da_cons (de_var 4) (da_cons (de_var 1) da_nil))))) (dss_one ds_no) dss_nil)))
      (dss_cons (ds_putI K 0 (de_var 1))
      (dss_one (ds_putI K 0 (de_call K H_reduced (hr.mono (by decide)) G_reduced.g G_reduced.F.kp G_reduced.b (da_cons (de_var 2) da_nil)))))))), ?_⟩
  rintro ds Q ⟨w, rows, b, rfl, ⟨h1, pre, hz⟩, q⟩
  have hf1 : Cls K T_Space.C ∧ NoAttr K T_Space.C "_width" := T_Space.fld
  have hf2 : Cls K T_Space.C ∧ NoAttr K T_Space.C "_basis" := T_Space.fld
  have hw := pre.wid
  walk_at "wp"
  refine ⟨.int (w : Int), rfl, trivial, fun v hv => ?_⟩
  subst hv
  have e1 : isInt (.int (w : Int)) = true := rfl
  walk_at "wp"
  rw [e1]
  walk_at "wp"
  refine i_ite (fun _ => ?_) (fun h => absurd (show (1 : Int) ≤ w by omega) h)
  walk_at "wp"
  rw [decide_eq_true (show (w : Int) ≤ 49 by omega)]
  walk_at "wp"
  refine ⟨fun i γ => i ≤ rows.length ∧ ∃ (s3 s4 : Sl), γ = [.ins true T_Space.C [], .val (.int w), .val (.lst (rowsD rows)), s3, s4], ⟨Nat.zero_le _, _, _, rfl⟩, ?_, ?_⟩
  · rintro i d γ hd ⟨hi, s3, s4, rfl⟩
    rw [rowsD_dLs, dLs_enum] at hd
    obtain ⟨rfl, hi⟩ := dLs_inv hd
    have hl := pre.len _ (rowAt_mem hi)
    walk_at "wp"
    refine ⟨(.lst (intL (rowAt rows i)), (w : Int)), rfl, ⟨by rw [List.length_map]; omega, fun d hd => ?_⟩, fun v hv => ?_⟩
    · obtain ⟨x, _, rfl⟩ := List.mem_map.mp hd
      trivial
    · subst hv
      have e2 : isVec (w : Int) (.lst (intL (rowAt rows i))) = true := isVec_ints hl
      walk_at "wp"
      simp only [e2]
      walk_at "wp"
      exact ⟨hi, _, _, rfl⟩
  · rintro γ ⟨_, s3, s4, rfl⟩
    walk_at "wp"
    refine ⟨⟨w, rows, b⟩, rfl, ⟨pre, hz⟩, fun v hv => ?_⟩
    obtain ⟨B, e, red⟩ := hv
    simp only [e]
    walk_at "wp"
    exact ⟨_, rfl, q B red⟩
end

/-! ### the class's other methods -/
abbrev s_Space_len : Stmt := methS 18 1
theorem sc_Space_len : FnScope ["self"] ["self"] (defScope s_Space_len) := ⟨rfl, rfl, rfl, by decide +kernel, rfl, by decide +kernel, by decide +kernel⟩

abbrev s_Space_eq : Stmt := methS 18 3
theorem sc_Space_eq : FnScope ["self", "other"] ["self", "other"] (defScope s_Space_eq) := ⟨rfl, rfl, rfl, by decide +kernel, rfl, by decide +kernel, by decide +kernel⟩

abbrev s_Space_add : Stmt := methS 18 4
abbrev s_Space_width : Stmt := methS 18 5
theorem sc_Space_width : FnScope ["self"] ["self"] (defScope s_Space_width) := ⟨rfl, rfl, rfl, by decide +kernel, rfl, by decide +kernel, by decide +kernel⟩

abbrev s_Space_basis : Stmt := methS 18 6
theorem sc_Space_basis : FnScope ["self", "row"] ["self"] (defScope s_Space_basis) := ⟨rfl, rfl, rfl, by decide +kernel, rfl, by decide +kernel, by decide +kernel⟩

def spec_slen (C : Addr) : SpecD := SpecD.of (fun a : Nat × List (List Int) => [spaceD C a.1 a.2]) (fun a => a.2.length ≤ 100000) (fun a r => r = .d (.int a.2.length))
def spec_swidth (C : Addr) : SpecD := SpecD.of (fun a : Nat × List (List Int) => [spaceD C a.1 a.2]) (fun _ => True) (fun a r => r = .d (.int (a.1 : Nat)))
def spec_sbasis (C : Addr) : SpecD := SpecD.of (fun a : Nat × List (List Int) => [spaceD C a.1 a.2]) (fun a => a.2.length ≤ 100000) (fun a r => r = .f (rowsD a.2))
def spec_seq (C : Addr) : SpecD := SpecD.of (fun a : (Nat × List (List Int)) × Nat × List (List Int) => [spaceD C a.1.1 a.1.2, spaceD C a.2.1 a.2.2]) (fun _ => True) (fun a r => ∃ b : Bool, r = .d (.bl b) ∧ (b = true ↔ a.1.1 = a.2.1 ∧ a.1.2 = a.2.2))
def spec_swithin (C : Addr) : SpecD := SpecD.of (fun a : (Nat × List (List Int)) × List (List Int) × Nat × Nat => [spaceD C a.1.1 a.1.2, spaceD C a.1.1 a.2.1])
  (fun a => a.1.2.length ≤ 100000 ∧ ∀ r ∈ a.1.2, PreB a.1.1 a.2.1 r a.2.2.1 a.2.2.2) (fun a v => ∃ b : Bool, v = .d (.bl b) ∧ (b = true ↔ ∀ r ∈ a.1.2, Sp a.2.1 (ent r)))
def spec_sadd (C : Addr) : SpecD := SpecD.of (fun a : (Nat × List (List Int)) × List (List Int) × Nat => [spaceD C a.1.1 a.1.2, spaceD C a.1.1 a.2.1])
  (fun a => 1 ≤ a.1.1 ∧ PreR a.1.1 (a.1.2 ++ a.2.1) a.2.2 ∧ a.1.2.length + a.2.1.length ≤ 100000) (fun a v => ∃ B, v = .o C (spaceF a.1.1 B) ∧ Red a.1.1 (a.1.2 ++ a.2.1) B a.2.2)
section
variable {P : Program} {w : World} {K : PySem.W.Frag} {mg : Str → Option Value} {base : Heap}
theorem ok_Space_len (M : Blt mg) (T_Space : Tc K mg "Space" ["_width", "_basis"]) (G_Space_len : Gm K T_Space.C "__len__" "Space.__len__" s_Space_len ["self"]) : FnOk P w K mg base CX0 1 G_Space_len.f G_Space_len.fd ["self"] (spV K (spec_slen T_Space.C)) := by
  refine fn_ok G_Space_len.F sc_Space_len (fun ds Q ⟨a, e, _⟩ => by rw [e]; rfl) fun cdv A outer s0 H E hr => ⟨_, _, (dss_one (ds_ret (de_callB cs_len call_len_seq M.len PySem.boot_len (da_cons (de_fld K (de_var 0)) da_nil)))), ?_⟩
  rintro ds Q ⟨⟨w, B⟩, rfl, hB, q⟩
  have hf1 : Cls K T_Space.C ∧ NoAttr K T_Space.C "_width" := T_Space.fld
  have hf2 : Cls K T_Space.C ∧ NoAttr K T_Space.C "_basis" := T_Space.fld
  unfold spaceD spaceF
  walk_at "wp"
  rw [List.length_map]
  exact q _ rfl
theorem ok_Space_width (M : Blt mg) (T_Space : Tc K mg "Space" ["_width", "_basis"]) (G_Space_width : Gm K T_Space.C "width" "Space.width" s_Space_width ["self"]) : FnOk P w K mg base CX0 1 G_Space_width.f G_Space_width.fd ["self"] (spV K (spec_swidth T_Space.C)) := by
  refine fn_ok G_Space_width.F sc_Space_width (fun ds Q ⟨a, e, _⟩ => by rw [e]; rfl) fun cdv A outer s0 H E hr => ⟨_, _, (dss_one (ds_ret (de_fld K (de_var 0)))), ?_⟩
  rintro ds Q ⟨⟨w, B⟩, rfl, hB, q⟩
  have hf1 : Cls K T_Space.C ∧ NoAttr K T_Space.C "_width" := T_Space.fld
  unfold spaceD spaceF
  walk_at "wp"
  exact q _ rfl
theorem ok_Space_basis (M : Blt mg) (T_Space : Tc K mg "Space" ["_width", "_basis"]) (G_Space_basis : Gm K T_Space.C "basis" "Space.basis" s_Space_basis ["self"]) : FnOk P w K mg base CX0 1 G_Space_basis.f G_Space_basis.fd ["self"] (spV K (spec_sbasis T_Space.C)) := by
  refine fn_ok G_Space_basis.F sc_Space_basis (fun ds Q ⟨a, e, _⟩ => by rw [e]; rfl) fun cdv A outer s0 H E hr => ⟨_, _, (dss_one (ds_retF (df_lc (own := [("row", 1)]) rfl sc_Space_basis.nd (di_list K (de_fld K (de_var 0))) (blkOk_by (by rfl)) (fun _ _ _ _ _ => (dg_name (i := 1) sc_Space_basis.nd)) (gin_name (by decide)) gmo_name (fun _ _ _ _ _ => dts_nil) (fun _ _ _ _ _ => (DF.v (df_list K M.list (de_var 1))))))), ?_⟩
  rintro ds Q ⟨⟨w, B⟩, rfl, hB, q⟩
  replace hB : B.length ≤ 100000 := hB
  have hf2 : Cls K T_Space.C ∧ NoAttr K T_Space.C "_basis" := T_Space.fld
  unfold spaceD spaceF
  walk_at "wp"
  refine i_mapN (n := B.length) (fun i => .lst (intL (rowAt B i))) (fun i => .lst (intL (rowAt B i))) (rowsD_dLs B) hB rfl (fun i hi R hR => ?_) ?_
  · walk_at "wp"
    exact hR _ rfl
  walk_at "wp"
  rw [← rowsD_dLs]
  exact q _ rfl
theorem ok_Space_eq (M : Blt mg) (T_Space : Tc K mg "Space" ["_width", "_basis"]) (G_Space_eq : Gm K T_Space.C "__eq__" "Space.__eq__" s_Space_eq ["self", "other"]) : FnOk P w K mg base CX0 1 G_Space_eq.f G_Space_eq.fd ["self", "other"] (spV K (spec_seq T_Space.C)) := by
  refine fn_ok G_Space_eq.F sc_Space_eq (fun ds Q ⟨a, e, _⟩ => by rw [e]; rfl) fun cdv A outer s0 H E hr => ⟨_, _, (dss_one (ds_ret (de_and (de_isO K T_Space.own M.isinstance T_Space.g (de_var 1)) (de_and (de_eq (de_fld K (de_var 0)) (de_fld K (de_var 1))) (de_one (de_eqD K hr (de_fld K (de_var 0)) (de_fld K (de_var 1)))))))), ?_⟩
  rintro ds Q ⟨⟨⟨w, B⟩, w', B'⟩, rfl, _, q⟩
  replace q : ∀ v : Rv, (∃ b : Bool, v = .d (.bl b) ∧ (b = true ↔ w = w' ∧ B = B')) → Q v := q
  have hf1 : Cls K T_Space.C ∧ NoAttr K T_Space.C "_width" := T_Space.fld
  have hf2 : Cls K T_Space.C ∧ NoAttr K T_Space.C "_basis" := T_Space.fld
  have hown : OwnCls K T_Space.C := T_Space.own
  unfold spaceD spaceF
  walk_at "wp"
  refine ⟨hown, fun C' fs e => (by cases e; rfl), true, (by rw [isO_self]), ?_⟩
  walk_at "wp"
  refine i_ite (fun h => ?_) (fun h => ?_)
  · walk_at "wp"
    exact q _ ⟨_, rfl, by rw [decide_eq_true_iff]; exact ⟨fun z => ⟨by omega, z⟩, fun z => z.2⟩⟩
  · exact q _ ⟨_, rfl, ⟨fun z => (by cases z), fun z => absurd (by rw [z.1]) h⟩⟩
end
theorem okV_ints {K : PySem.W.Frag} {r : List Int} (h : r.length ≤ 100000) : okV K (.lst (intL r)) := ⟨by rw [List.length_map]; exact h, fun d hd => by
  obtain ⟨i, _, rfl⟩ := List.mem_map.mp hd
  trivial⟩
theorem slen_i {C : Addr} {w : Nat} {B : List (List Int)} {P : Rv → Prop} (h : B.length ≤ 100000) (q : P (.d (.int B.length))) : (spec_slen C).S [.obj C (spaceF w B)] P := ⟨(w, B), rfl, h, fun v e => by subst e; exact q⟩
theorem swidth_i {C : Addr} {w : Nat} {B : List (List Int)} {P : Rv → Prop} (q : P (.d (.int (w : Nat)))) : (spec_swidth C).S [.obj C (spaceF w B)] P := ⟨(w, B), rfl, trivial, fun v e => by subst e; exact q⟩
theorem sbasis_i {C : Addr} {w : Nat} {B : List (List Int)} {P : Rv → Prop} (h : B.length ≤ 100000) (q : P (.f (rowsD B))) : (spec_sbasis C).S [.obj C (spaceF w B)] P := ⟨(w, B), rfl, h, fun v e => by subst e; exact q⟩
theorem lred_i {w b : Nat} {rows : List (List Int)} {P : Rv → Prop} (pre : PreR w rows b) (hz : rows.length ≤ 100000) (q : ∀ B v, v.val = .lst (rowsD B) → Red w rows B b → P v) : spec_red.S [.lst (rowsD rows)] P := ⟨⟨w, rows, b⟩, rfl, ⟨pre, hz⟩, fun v ⟨B, e, h⟩ => q B v e h⟩

/-! ### the law's own looks at vectors -/
abbrev s_L_is_integer : Stmt := topS 32
theorem sc_L_is_integer : FnScope ["_law_thing"] ["_law_thing"] (defScope s_L_is_integer) := ⟨rfl, rfl, rfl, by decide +kernel, rfl, by decide +kernel, by decide +kernel⟩

abbrev s_L_is_vector : Stmt := topS 33
theorem sc_L_is_vector : FnScope ["_law_thing", "_law_width", "_law_number_here"] ["_law_thing", "_law_width"] (defScope s_L_is_vector) := ⟨rfl, rfl, rfl, by decide +kernel, rfl, by decide +kernel, by decide +kernel⟩

abbrev s_L_are_vectors : Stmt := topS 34
theorem sc_L_are_vectors : FnScope ["_law_thing", "_law_width", "_law_vector_here"] ["_law_thing", "_law_width"] (defScope s_L_are_vectors) := ⟨rfl, rfl, rfl, by decide +kernel, rfl, by decide +kernel, by decide +kernel⟩

/-! ### rows told by places -/
def mkL (n : Nat) (f : Nat → Int) : List Int := (List.range n).map f
theorem mkL_len {n : Nat} {f : Nat → Int} : (mkL n f).length = n := by simp [mkL]
theorem mkL_at {n : Nat} {f : Nat → Int} {j : Nat} (h : j < n) : ent (mkL n f) j = f j := ent_rng h
theorem mkL_out {n : Nat} {f : Nat → Int} {j : Nat} (h : n ≤ j) : ent (mkL n f) j = 0 := ent_out (by rw [mkL_len]; exact h)
theorem mkL_ent {n : Nat} {f : Nat → Int} (h : ∀ j, n ≤ j → f j = 0) (j : Nat) : ent (mkL n f) j = f j := by
  rcases Nat.lt_or_ge j n with z | z
  · exact mkL_at z
  · rw [mkL_out z, h j z]
theorem dLs_mkL {n : Nat} {f : Nat → Int} : (dLs n fun j => D.int (f j)) = intL (mkL n f) := intL_rng.symm
theorem mkL_bd {n k : Nat} {f : Nat → Int} (h : ∀ j, j < n → (f j).natAbs < 2 ^ k) : Bd k (mkL n f) := fun x hx => by
  obtain ⟨j, hj, rfl⟩ := List.mem_map.mp hx
  exact h j (List.mem_range.mp hj)
theorem PreR.ofd {w q : Nat} {rows : List (List Int)} (d : Nat) (hw : w ≤ 49) (hl : ∀ r ∈ rows, r.length = w) (hb : BdL q rows) (hd : w ≤ d ∨ rows.length ≤ d) (fit : (d + 2) * (d * (q + 7)) + q + 120 ≤ 60000000) : PreR w rows q := ⟨hw, hl, hb, by
  have h1 : min w rows.length ≤ d := by omega
  have h2 : (min w rows.length + 2) * (min w rows.length * (q + 7)) ≤ (d + 2) * (d * (q + 7)) := Nat.mul_le_mul (by omega) (Nat.mul_le_mul_right _ h1)
  omega⟩
theorem cut_takeR (B : List (List Int)) (p : Nat) : cutL (rowsD B) none (some (p : Int)) = rowsD (B.take p) := by
  unfold cutL
  rw [HT.sIx_none, List.drop_zero, HT.sIx_nat, Nat.sub_zero]
  have e : (rowsD B).take p = rowsD (B.take p) := List.map_take.symm
  rcases Nat.le_total p (rowsD B).length with h | h
  · rw [Nat.min_eq_left h, e]
  · rw [Nat.min_eq_right h, List.take_length, ← e, List.take_of_length_le h]
local macro_rules | `(tactic| walk_at "wq1") => `(tactic| first
  | walk_at "wp1"
  | ((with_reducible refine' i_ixR ?hh ?_); (case hh => omega))
  | ((with_reducible refine' i_ixI ?hh ?_); (case hh => omega))
  | ((with_reducible refine' i_ixIO ?hg ?hh ?_); (case hg => exact rfl); (case hh => omega))
  | ((with_reducible refine' i_ixRO ?hg ?hh ?_); (case hg => exact rfl); (case hh => omega))
  | ((with_reducible refine' i_mul ?hh ?_); (case hh => first | exact fitsB (Mx.Bd.ent (by assumption) _) (Mx.Bd.ent (by assumption) _) (by omega) | exact fitsB (by assumption) (Mx.Bd.ent (by assumption) _) (by omega) | exact fitsB (Mx.Bd.ent (by assumption) _) (by assumption) (by omega) | exact fitsB (by assumption) (by assumption) (by omega))))
local macro_rules | `(tactic| walk_at "wq") => `(tactic| repeat walk_at "wq1")

def spec_lint : SpecD := SpecD.of (fun i : Int => [.int i]) (fun _ => True) (fun _ r => r = .d (.bl true))
def spec_lvec : SpecD := SpecD.of (fun r : List Int => [.lst (intL r), .int (r.length : Nat)]) (fun r => r.length ≤ 100000) (fun _ r => r = .d (.bl true))
def spec_lvecs : SpecD := SpecD.of (fun a : List (List Int) × Nat => [.lst (rowsD a.1), .int (a.2 : Nat)]) (fun a => a.1.length ≤ 100000 ∧ a.2 ≤ 100000 ∧ ∀ r ∈ a.1, r.length = a.2) (fun _ r => r = .d (.bl true))
section
variable {P : Program} {w : World} {K : PySem.W.Frag} {mg : Str → Option Value} {base : Heap}
theorem ok_L_is_integer (M : Blt mg) (G_L_is_integer : Gf K mg "_law_is_integer" s_L_is_integer ["_law_thing"]) : FnOk P w K mg base CX0 1 G_L_is_integer.f G_L_is_integer.fd ["_law_thing"] (spV K spec_lint) := by
  refine fn_ok G_L_is_integer.F sc_L_is_integer (fun ds Q ⟨a, e, _⟩ => by rw [e]; rfl) fun cdv A outer s0 H E hr => ⟨_, _, (dss_one (ds_ret (de_and (de_isi K kit_I M.isinstance M.int (by decide +kernel) (de_var 0)) (de_one (de_not (de_isi K kit_B M.isinstance M.bool (by decide +kernel) (de_var 0))))))), ?_⟩
  rintro ds Q ⟨i, rfl, _, q⟩
  walk_at "wp"
  exact q _ rfl
theorem ok_L_is_vector (M : Blt mg) (G_L_is_integer : Gf K mg "_law_is_integer" s_L_is_integer ["_law_thing"]) (G_L_is_vector : Gf K mg "_law_is_vector" s_L_is_vector ["_law_thing", "_law_width"]) : FnOk P w K mg base CX0 2 G_L_is_vector.f G_L_is_vector.fd ["_law_thing", "_law_width"] (spV K spec_lvec) := by
  have H_L_is_integer := ok_L_is_integer (P := P) (w := w) (base := base) M G_L_is_integer
  refine fn_ok G_L_is_vector.F sc_L_is_vector (fun ds Q ⟨a, e, _⟩ => by rw [e]; rfl) fun cdv A outer s0 H E hr => ⟨_, _, (dss_cons (ds_if (DW.dt (dw_or (dt_not (dt_tr K (de_isi K kit_L M.isinstance M.list (by decide +kernel) (de_var 0)))) (dw_or1 (dt_ne (de_callB cs_len call_len_seq M.len PySem.boot_len (da_cons (de_var 0) da_nil)) (de_var 1))))) (dss_one (ds_ret de_bl)) dss_nil)
      (dss_one (ds_ret (de_eq (de_callB cs_len call_len_seq M.len PySem.boot_len (da_cons (DF.v (df_lc (own := [("_law_number_here", 2)]) rfl sc_L_is_vector.nd (di_list K (de_var 0)) (blkOk_by (by rfl)) (fun _ _ _ _ _ => (dg_name (i := 2) sc_L_is_vector.nd)) (gin_name (by decide)) gmo_name (fun _ _ _ _ _ => (dts_one (dt_not (dt_tr K (de_call K H_L_is_integer (hr.mono (by decide)) G_L_is_integer.g G_L_is_integer.F.kp G_L_is_integer.b (da_cons (de_var 2) da_nil)))))) (fun _ _ _ _ _ => (de_var 2)))) da_nil)) de_int)))), ?_⟩
  rintro ds Q ⟨r, rfl, hz, q⟩
  replace hz : r.length ≤ 100000 := hz
  walk_at "wp"
  rw [List.length_map]
  refine i_iteN (fun h => absurd rfl h) (fun _ => ?_)
  walk_at "wp"
  refine i_none (by rw [List.length_map]; exact hz) rfl (fun i d hd RR hR => ?_) ?_
  · obtain ⟨x, _, rfl⟩ := List.mem_map.mp (List.mem_of_getElem? hd)
    walk_at "wp"
    refine ⟨x, rfl, trivial, fun v hv => ?_⟩
    subst hv
    walk_at "wp"
    exact hR _ rfl
  walk_at "wp"
  exact q _ rfl
theorem ok_L_are_vectors (M : Blt mg) (G_L_is_integer : Gf K mg "_law_is_integer" s_L_is_integer ["_law_thing"]) (G_L_is_vector : Gf K mg "_law_is_vector" s_L_is_vector ["_law_thing", "_law_width"])
    (G_L_are_vectors : Gf K mg "_law_are_vectors" s_L_are_vectors ["_law_thing", "_law_width"]) : FnOk P w K mg base CX0 3 G_L_are_vectors.f G_L_are_vectors.fd ["_law_thing", "_law_width"] (spV K spec_lvecs) := by
  have H_L_is_vector := ok_L_is_vector (P := P) (w := w) (base := base) M G_L_is_integer G_L_is_vector
  refine fn_ok G_L_are_vectors.F sc_L_are_vectors (fun ds Q ⟨a, e, _⟩ => by rw [e]; rfl) fun cdv A outer s0 H E hr => ⟨_, _, (dss_cons (ds_if (dt_not (dt_tr K (de_isi K kit_L M.isinstance M.list (by decide +kernel) (de_var 0)))) (dss_one (ds_ret de_bl)) dss_nil)
      (dss_one (ds_ret (de_eq (de_callB cs_len call_len_seq M.len PySem.boot_len (da_cons (DF.v (df_lc (own := [("_law_vector_here", 2)]) rfl sc_L_are_vectors.nd (di_list K (de_var 0)) (blkOk_by (by rfl)) (fun _ _ _ _ _ => (dg_name (i := 2) sc_L_are_vectors.nd)) (gin_name (by decide)) gmo_name (fun _ _ _ _ _ => (dts_one (dt_not (dt_tr K (de_call K H_L_is_vector (hr.mono (by decide)) G_L_is_vector.g G_L_is_vector.F.kp G_L_is_vector.b (da_cons (de_var 2) (da_cons (de_var 1) da_nil))))))) (fun _ _ _ _ _ => (de_var 2)))) da_nil)) de_int)))), ?_⟩
  rintro ds Q ⟨⟨B, n⟩, rfl, ⟨hz, hn, hl⟩, q⟩
  replace hz : B.length ≤ 100000 := hz
  replace hn : n ≤ 100000 := hn
  replace hl : ∀ r ∈ B, r.length = n := hl
  walk_at "wp"
  refine i_none (by rw [List.length_map]; exact hz) rfl (fun i d hd RR hR => ?_) ?_
  · obtain ⟨x, hx, rfl⟩ := List.mem_map.mp (List.mem_of_getElem? hd)
    have hxl := hl x hx
    walk_at "wp"
    refine ⟨x, by show [D.lst (intL x), D.int (n : Nat)] = [D.lst (intL x), D.int (x.length : Nat)]; rw [hxl], by omega, fun v hv => ?_⟩
    subst hv
    walk_at "wp"
    exact hR _ rfl
  walk_at "wp"
  exact q _ rfl
end
theorem lvecs_i {n : Nat} {B : List (List Int)} {P : Rv → Prop} (h1 : B.length ≤ 100000) (h2 : n ≤ 100000) (h3 : ∀ r ∈ B, r.length = n) (q : P (.d (.bl true))) : spec_lvecs.S [.lst (rowsD B), .int (n : Nat)] P := ⟨(B, n), rfl, ⟨h1, h2, h3⟩, fun v e => by subst e; exact q⟩
def spec_flag : SpecD := SpecD.of (fun a : Bool × Bool => [.bl a.1, .bl a.2]) (fun _ => True) (fun a r => r = .d (.bl (beqB a.1 a.2)))
/-! ### spaces of lists in boxes; wrong vectors -/
local macro_rules | `(tactic| walk_at "side") => `(tactic| first | assumption | omega | with_reducible rfl | decide +kernel | ((try simp only [str_len_append, List.length_cons, List.length_nil, List.length_append, List.length_map, List.length_range]); omega))
local macro_rules | `(tactic| walk_at "ifs") => `(tactic| first | ((with_reducible refine' i_iteDF ?hh ?_); (case hh => walk_at "side")) | ((with_reducible refine' i_iteDT ?hh ?_); (case hh => walk_at "side")) | ((with_reducible refine' i_iteND ?hh ?_); (case hh => walk_at "side")) | ((with_reducible refine' i_iteNT ?hh ?_); (case hh => walk_at "side")))
local macro_rules | `(tactic| walk_at "wr1") => `(tactic| first
  | walk_at "wp1"
  | with_reducible assumption
  | ((with_reducible refine if_id ?_); walk_at "ifs")
  | dsimp +instances only [isZ_i, isZ_b, isZ_n, isZ_s, isZ_l, isZ_t, isZ_o, isZ_e])
local macro_rules | `(tactic| walk_at "wr") => `(tactic| repeat walk_at "wr1")

local macro_rules | `(tactic| walk_at "bx") => `(tactic| first | with_reducible assumption | exact updB_same | (refine getB_ne ?_ ?_; (first | with_reducible assumption | (refine Ne.symm ?_; with_reducible assumption)); walk_at "bx"))
local macro_rules | `(tactic| walk_at "wb1") => `(tactic| first
  | with_reducible refine Go.go ?_
  | refine GoH1.go ⟨_, rfl, ?_⟩
  | refine GoH2.go ⟨_, _, rfl, ?_⟩
  | ((with_reducible refine ex_id ?_); first | ((with_reducible refine' i_fldB2 ?hg ?hl ?hc ?hf ?_); (case hg => exact rfl); (case hl => walk_at "bx"); (case hc => assumption); (case hf => exact rfl)) | ((with_reducible refine' i_putB2 ?hg ?hl ?hc ?hf ?_); (case hg => exact rfl); (case hl => walk_at "bx"); (case hc => assumption); (case hf => exact Nat.le_of_ble_eq_true rfl)) | ((with_reducible refine' i_augB2 ?hg ?hl ?hc ?hf ?_); (case hg => exact rfl); (case hl => walk_at "bx"); (case hc => assumption); (case hf => exact rfl)) | ((with_reducible refine' i_augB3 ?hg ?hl ?hf ?_); (case hg => exact rfl); (case hl => walk_at "bx"); (case hf => exact Nat.le_of_ble_eq_true rfl)) | ((with_reducible refine' i_appB3 ?hg ?hl ?hz ?_); (case hg => exact rfl); (case hl => walk_at "bx"); (case hz => walk_at "side")) | ((with_reducible refine' i_stB2 ?hg ?hl ?ha ?_); (case hg => exact rfl); (case hl => walk_at "bx"); (case ha => exact rfl)) | ((with_reducible refine' i_ixB2 ?hg ?hl ?ha ?_); (case hg => exact rfl); (case hl => walk_at "bx"); (case ha => exact rfl)) | ((with_reducible refine' i_lenB2 ?hg ?hl ?_); (case hg => exact rfl); (case hl => walk_at "bx")) | ((with_reducible refine' i_frzB2 ?hg ?hl ?_); (case hg => exact rfl); (case hl => walk_at "bx")) | ((with_reducible refine' i_methB2 ?hg ?hl ?hn ?_); (case hg => exact rfl); (case hl => walk_at "bx"); (case hn => exact rfl)))
  | ((with_reducible refine' i_appB2 ?hg ?hl ?_); (case hg => exact rfl); (case hl => walk_at "bx"))
  | walk_at "wr1")
local macro_rules | `(tactic| walk_at "wb") => `(tactic| repeat walk_at "wb1")

abbrev s_NoVectors_init : Stmt := methS 4 0
theorem sc_NoVectors_init : FnScope ["self", "index"] ["self", "index"] (defScope s_NoVectors_init) := ⟨rfl, rfl, rfl, by decide +kernel, rfl, by decide +kernel, by decide +kernel⟩

theorem sc_extendedB : FnScope ["basis", "row", "rest", "at", "ahead", "base", "$"] ["basis", "row"] (defScope s_extended) := ⟨rfl, rfl, rfl, by decide +kernel, rfl, by decide +kernel, by decide +kernel⟩

theorem sc_reducedB : FnScope ["rows", "basis", "row", "$"] ["rows"] (defScope s_reduced) := ⟨rfl, rfl, rfl, by decide +kernel, rfl, by decide +kernel, by decide +kernel⟩

theorem sc_Space_initB : FnScope ["self", "width", "vectors", "index", "vector", "$"] ["self", "width", "vectors"] (defScope s_Space_init) := ⟨rfl, rfl, rfl, by decide +kernel, rfl, by decide +kernel, by decide +kernel⟩

theorem sc_Space_initX : FnScope ["self", "width", "vectors", "index", "vector", "$"] ["self", "width", "vectors"] (defScope s_Space_init) := ⟨rfl, rfl, rfl, by decide +kernel, rfl, by decide +kernel, by decide +kernel⟩

theorem sc_Space_basisB : FnScope ["self", "row", "$"] ["self"] (defScope s_Space_basis) := ⟨rfl, rfl, rfl, by decide +kernel, rfl, by decide +kernel, by decide +kernel⟩

theorem refs_inv {ps : List Addr} {i : Nat} {d : D} (h : (ps.map D.ref)[i]? = some d) : ∃ p, ps[i]? = some p ∧ d = .ref p := by
  rw [List.getElem?_map] at h
  cases e : ps[i]? with
  | none => rw [e] at h; cases h
  | some p => rw [e] at h; cases h; exact ⟨p, rfl, rfl⟩
/-- rows in boxes -/
def RowsB (L : Bxs) (q : Addr) (rows : List (List Int)) : Prop := ∃ ps : List Addr, L q = some (.lst (ps.map D.ref)) ∧ ps.length = rows.length ∧ ∀ i p, ps[i]? = some p → L p = some (.lst (intL (rowAt rows i)))
def spec_extB : SpecB := SpecB.fn (fun a : Nat × List (List Int) × List Int × Nat × Nat × Addr => [.lst (rowsD a.2.1), .ref a.2.2.2.2.2]) (fun a L => PreB a.1 a.2.1 a.2.2.1 a.2.2.2.1 a.2.2.2.2.1 ∧ L a.2.2.2.2.2 = some (.lst (intL a.2.2.1)))
  (fun a v L L' => (∃ B', v = .lst (rowsD B') ∧ Ech a.1 B' ∧ (∀ u, Sp B' u ↔ Spn (ent a.2.2.1 :: vecs a.2.1) u) ∧ BdL ((a.2.1.length + 2) * a.2.2.2.1 + a.2.2.2.2.1 + 60) B' ∧ (Sp a.2.1 (ent a.2.2.1) ∧ B' = a.2.1 ∨ ¬ Sp a.2.1 (ent a.2.2.1) ∧ B'.length = a.2.1.length + 1)) ∧ L' = L)
def spec_redB : SpecB := SpecB.fn (fun a : Nat × List (List Int) × Nat × Addr => [.ref a.2.2.2]) (fun a L => PreR a.1 a.2.1 a.2.2.1 ∧ a.2.1.length ≤ 100000 ∧ RowsB L a.2.2.2 a.2.1) (fun a v L L' => (∃ B, v = .lst (rowsD B) ∧ Red a.1 a.2.1 B a.2.2.1) ∧ L' = L)
def spec_initB (C : Addr) : SpecB := SpecB.fn (fun a : Nat × List (List Int) × Nat × Addr × Addr => [.ref a.2.2.2.1, .int (a.1 : Nat), .ref a.2.2.2.2]) (fun a L => 1 ≤ a.1 ∧ PreR a.1 a.2.1 a.2.2.1 ∧ a.2.1.length ≤ 100000 ∧ RowsB L a.2.2.2.2 a.2.1 ∧ L a.2.2.2.1 = some (.ins C []))
  (fun a v L L' => v = .non ∧ ∃ B, Red a.1 a.2.1 B a.2.2.1 ∧ L' a.2.2.2.1 = some (.ins C (spaceF a.1 B)) ∧ ∀ x, x ≠ a.2.2.2.1 → L' x = L x)
theorem enumD_len {xs : List D} : (enumD xs).length = xs.length := by simp [enumD]
theorem enumD_inv {xs : List D} {k : Nat} {d : D} (h : (enumD xs)[k]? = some d) : d = .tup [.int (k : Nat), xs.getD k .non] ∧ k < xs.length := by
  have hk : k < xs.length := by
    obtain ⟨z, _⟩ := List.getElem?_eq_some_iff.mp h
    rwa [enumD_len] at z
  refine ⟨?_, hk⟩
  unfold enumD at h
  simp [hk] at h
  rw [← h, List.getD_eq_getElem?_getD, List.getElem?_eq_getElem hk]
  rfl
theorem isInt_inv {d : D} (h : isInt d = true) : ∃ i, d = .int i := by
  cases d <;> first | exact ⟨_, rfl⟩ | cases h
def widOk : D → Bool
  | .int w => decide (1 ≤ w) && decide (w ≤ 49)
  | _ => false
/-- a wrong width, or wrong vectors: the class and the fields of what is raised -/
def BadV (K : PySem.W.Frag) (CW CV : Addr) (wd vs : D) (C : Addr) (fs : List (Str × D)) : Prop := (widOk wd = false ∧ C = CW ∧ fs = []) ∨ ∃ w : Nat, wd = .int (w : Nat) ∧ 1 ≤ w ∧ w ≤ 49 ∧ ((isL vs = false ∧ okC K vs ∧ C = CV ∧ fs = [(("index" : Str), D.int (-1))]) ∨
  ∃ xs i, vs = .lst xs ∧ xs.length ≤ 100000 ∧ i < xs.length ∧ (∀ j, j < i → isVec w (xs.getD j .non) = true) ∧ isVec w (xs.getD i .non) = false ∧ (∀ j, j ≤ i → okV K (xs.getD j .non)) ∧ C = CV ∧ fs = [(("index" : Str), D.int (i : Nat))])
def spec_initX (K : PySem.W.Frag) (C CW CV : Addr) : SpecBX := SpecBX.fn (fun a : Addr × D × D × Addr × List (Str × D) => [.ref a.1, a.2.1, a.2.2.1]) (fun a L => L a.1 = some (.ins C []) ∧ okC K a.2.1 ∧ BadV K CW CV a.2.1 a.2.2.1 a.2.2.2.1 a.2.2.2.2) (fun _ _ _ _ => False) (fun a C' fs => C' = a.2.2.2.1 ∧ fs = a.2.2.2.2)
def spec_basisB (C : Addr) : SpecB := SpecB.fn (fun a : Nat × List (List Int) => [spaceD C a.1 a.2]) (fun a _ => a.2.length ≤ 100000)
  (fun a v L L' => ∃ (q : Addr) (ps : List Addr), v = .ref q ∧ RowsB L' q a.2 ∧ L' q = some (.lst (ps.map D.ref)) ∧ q ∉ ps ∧ L q = none ∧ (∀ p ∈ ps, L p = none))
section
variable {P : Program} {w : World} {K : PySem.W.Frag} {mg : Str → Option Value} {base : Heap}
theorem ok_extendedB (M : Blt mg) (hSeer : seerB K = true) (hTree : P.given.tree = none) (G_pivot : Gf K mg "pivot" s_pivot ["row"]) (G_common_divisor : Gf K mg "common_divisor" s_common_divisor ["row"]) (G_primitive : Gf K mg "primitive" s_primitive ["row"]) (G_cleared : Gf K mg "cleared" s_cleared ["row", "base"]) (G_remainder : Gf K mg "remainder" s_remainder ["basis", "row"])
    (G_extended : Gf K mg "extended" s_extended ["basis", "row"]) : FnOk P w K mg base CX0 35 G_extended.f G_extended.fd ["basis", "row"] (spB K spec_extB) := by
  have H_pivot := ok_pivot (P := P) (w := w) (base := base) M G_pivot
  have H_primitive := ok_primitive (P := P) (w := w) (base := base) M hSeer hTree G_pivot G_common_divisor G_primitive
  have H_cleared := ok_cleared (P := P) (w := w) (base := base) M hSeer hTree G_pivot G_common_divisor G_primitive G_cleared
  have H_remainder := ok_remainder (P := P) (w := w) (base := base) M hSeer hTree G_pivot G_common_divisor G_remainder
  refine fn_okB G_extended.F sc_extendedB (by decide) (fun ds L Q ⟨a, e, _⟩ => by rw [e]; rfl) fun cdv A outer s0 H E hr => ⟨_, _, (dss_cons (ds_set (i := 2) sc_extendedB.nd (DF.v (df_lendR 1 6 (df_call K H_primitive (hr.mono (by decide)) G_primitive.g G_primitive.F.kp G_primitive.b (da_cons (de_call K H_remainder (hr.mono (by decide)) G_remainder.g G_remainder.F.kp G_remainder.b (da_cons (de_var 0) (da_cons (de_var 1) da_nil))) da_nil)))))
      (dss_cons (ds_set (i := 3) sc_extendedB.nd (de_call K H_pivot (hr.mono (by decide)) G_pivot.g G_pivot.F.kp G_pivot.b (da_cons (de_var 2) da_nil)))
      (dss_cons (ds_if (dt_eq (de_var 3) (de_callB cs_len call_len_seq M.len PySem.boot_len (da_cons (de_var 2) da_nil))) (dss_one (ds_ret (de_var 0))) dss_nil)
      (dss_cons (ds_setLc (i := 4) (own := [("base", 5)]) rfl sc_extendedB.nd (di_list K (de_var 0)) (blkOk_by (by rfl)) (fun _ _ _ _ _ => (dg_name (i := 5) sc_extendedB.nd)) (gin_name (by decide)) gmo_name (fun _ _ _ _ _ => (dts_one (dt_lt (de_call K H_pivot (hr.mono (by decide)) G_pivot.g G_pivot.F.kp G_pivot.b (da_cons (de_var 5) da_nil)) (de_var 3)))) (fun _ _ _ _ _ => (de_call K H_cleared (hr.mono (by decide)) G_cleared.g G_cleared.F.kp G_cleared.b (da_cons (de_var 5) (da_cons (de_var 2) da_nil)))))
      (dss_frz 4 (dss_one (ds_ret (DF.v (df_cat (DF.v (df_cat (de_var 4) (DF.v (df_lst (da_cons (de_var 2) da_nil))))) (DF.v (df_lc (own := [("base", 5)]) rfl sc_extendedB.nd (di_list K (de_var 0)) (blkOk_by (by rfl)) (fun _ _ _ _ _ => (dg_name (i := 5) sc_extendedB.nd)) (gin_name (by decide)) gmo_name (fun _ _ _ _ _ => (dts_one (dt_gt (de_call K H_pivot (hr.mono (by decide)) G_pivot.g G_pivot.F.kp G_pivot.b (da_cons (de_var 5) da_nil)) (de_var 3)))) (fun _ _ _ _ _ => (de_var 5))))))))))))), ?_⟩
  rintro ds L Q ⟨⟨w, B, r, k, l, p⟩, rfl, pre, q⟩
  obtain ⟨pre, hL⟩ := pre
  replace pre : PreB w B r k l := pre
  replace hL : L p = some (.lst (intL r)) := hL
  replace q : ∀ x, (∃ B', x = .lst (rowsD B') ∧ Ech w B' ∧ (∀ u, Sp B' u ↔ Spn (ent r :: vecs B) u) ∧ BdL ((B.length + 2) * k + l + 60) B' ∧ (Sp B (ent r) ∧ B' = B ∨ ¬ Sp B (ent r) ∧ B'.length = B.length + 1)) → ∃ d L', Rv.d x = .d d ∧ some (Sl.hp true L) = some (.hp true L') ∧ Q d L' := fun x z => ⟨_, L, rfl, rfl, q x L ⟨z, rfl⟩⟩
  have pre' := pre
  obtain ⟨hB, hr, hw, bb, br, hfit⟩ := pre'
  have hBl : B.length ≤ w := hB.le
  have hBk : (B.length + 2) * k = B.length * k + 2 * k := by rw [Nat.add_mul]
  have hBk1 : (B.length + 1) * k = B.length * k + k := by rw [Nat.add_mul, Nat.one_mul]
  walk_at "wb"
  refine i_lendsR rfl rfl hL ?_
  walk_at "wb"
  refine ⟨⟨w, B, r, k, l⟩, rfl, pre, fun v hv => ?_⟩
  obtain ⟨t, rfl, rst, bt⟩ := hv
  replace rst : Rest w B r t := rst
  replace bt : Bd ((B.length + 1) * k + l + 7) t := bt
  walk_at "wp"
  have htl := rst.len
  refine ⟨t, rfl, by show t.length ≤ 100000; omega, fun v hv => ?_⟩
  subst hv
  refine ⟨_, rfl, fun d hd => by (obtain ⟨i, _, rfl⟩ := List.mem_map.mp hd; trivial), ?_⟩
  walk_at "wp"
  have hpl : (prim t).length = w := prim_len.trans htl
  refine ⟨prim t, rfl, by show (prim t).length ≤ 100000; omega, fun v hv => ?_⟩
  subst hv
  walk_at "wp"
  refine i_ite (fun h => ?_) (fun h => ?_)
  · walk_at "wp"
    rw [List.length_map] at h
    have hz : ∀ j, ent t j = 0 := fun j => (prim_iff j).mp (pv_full (by omega) j)
    have hin := rst.inside hz
    refine q _ ⟨B, rfl, hB, fun u => ⟨fun k => k.mono fun a ha => List.mem_cons_of_mem _ ha, fun k => k.trans fun a ha => ?_⟩, bb.le (by omega), .inl ⟨hin, rfl⟩⟩
    rcases List.mem_cons.mp ha with z | z
    · rw [z]; exact hin
    · exact .mem z
  · rw [List.length_map] at h
    have hp : pv (prim t) < (prim t).length := by have := pv_le (prim t); omega
    have hpt : pv t < t.length := by rw [prim_pv] at hp; omega
    have rs := rst.prim
    have hpos : 0 < ent (prim t) (pv (prim t)) := by rw [prim_pv]; exact prim_pos hpt
    have hg := prim_gcd (pv_at hpt)
    have bs := prim_bd bt
    have hout : ¬ Sp B (ent r) := fun k => pv_at hp (rs.outside hB k _)
    generalize prim t = s at hp hpos hg bs rs hpl hout ⊢
    walk_at "wp"
    refine i_filtN (n := B.length) (fun i => .lst (intL (rowAt B i))) (fun i => decide (pv (rowAt B i) < pv s)) (fun i => .lst (intL (clrF (rowAt B i) s))) (rowsD_dLs B) (by omega) rfl (fun i hi RT RE hF hT => ?_) ?_
    · have hm := rowAt_mem hi
      have hl := hB.len _ hm
      walk_at "wp"
      refine ⟨_, rfl, by show (rowAt B i).length ≤ 100000; omega, fun v hv => ?_⟩
      subst hv
      walk_at "wp"
      refine i_ite (fun h => ?_) (fun h => ?_)
      · walk_at "wp"
        refine ⟨⟨rowAt B i, s, k, (B.length + 1) * k + l + 7⟩, rfl, ⟨hl.trans hpl.symm, hp, by show s.length ≤ 100000; omega, bb _ hm, bs, by show k + ((B.length + 1) * k + l + 7) ≤ 134217728; omega⟩, fun v hv => ?_⟩
        replace hv : v.val = .lst (intL (clrF (rowAt B i) s)) := hv
        simp only [hv]
        exact hT (decide_eq_true (by omega)) _ rfl
      · exact hF (decide_eq_false (by omega)) _ rfl
    rw [filt_place (fun b => D.lst (intL (clrF b s))) (fun b => decide (pv b < pv s)) B]
    walk_at "wp"
    have hfl : (B.filter fun b => decide (pv b < pv s)).length ≤ B.length := List.length_filter_le _ _
    refine i_cat2 (by rw [List.length_map]; show _ + 1 ≤ 100000; omega) ?_
    walk_at "wp"
    refine i_filtN (n := B.length) (fun i => .lst (intL (rowAt B i))) (fun i => decide (pv s < pv (rowAt B i))) (fun i => .lst (intL (rowAt B i))) (rowsD_dLs B) (by omega) rfl (fun i hi RT RE hF hT => ?_) ?_
    · have hm := rowAt_mem hi
      have hl := hB.len _ hm
      walk_at "wp"
      refine ⟨_, rfl, by show (rowAt B i).length ≤ 100000; omega, fun v hv => ?_⟩
      subst hv
      walk_at "wp"
      refine i_ite (fun h => ?_) (fun h => ?_)
      · walk_at "wp"
        exact hT (decide_eq_true (by omega)) _ rfl
      · exact hF (decide_eq_false (by omega)) _ rfl
    rw [filt_place (fun b => D.lst (intL b)) (fun b => decide (pv s < pv b)) B]
    have hfl2 : (B.filter fun b => decide (pv s < pv b)).length ≤ B.length := List.length_filter_le _ _
    walk_at "wp"
    have hC : ClrL w s (pv s) (B.filter fun b => decide (pv b < pv s)) ((B.filter fun b => decide (pv b < pv s)).map fun b => clrF b s) := clrL_map fun a ha => by
      obtain ⟨h1, h2⟩ := List.mem_filter.mp ha
      exact clrF_ok hB h1 hpl hpos rs.zero (of_decide_eq_true h2)
    obtain ⟨e1, e2⟩ := ext_ech hB rs (by omega) hpos hg hC
    refine q _ ⟨_, ?_, e1, e2, fun b hb => ?_, .inr ⟨hout, ?_⟩⟩
    · show D.lst _ = D.lst _
      unfold extL
      rw [rowsD_append, List.append_assoc]
      have h1 : (List.filter (fun b => decide (pv b < pv s)) B).map (fun b => D.lst (intL (clrF b s))) = rowsD ((B.filter fun b => decide (pv b < pv s)).map fun b => clrF b s) := by
        unfold rowsD; rw [List.map_map]; rfl
      rw [h1]
      rfl
    · rcases List.mem_append.mp hb with z | z
      · obtain ⟨a, ha, rfl⟩ := List.mem_map.mp z
        exact (clrF_bd (bb a (List.mem_filter.mp ha).1) bs).le (by omega)
      · rcases List.mem_cons.mp z with z | z
        · rw [z]; exact bs.le (by omega)
        · exact (bb b (List.mem_filter.mp z).1).le (by omega)
    · unfold extL
      rw [List.length_append, List.length_map, List.length_cons]
      have part : ∀ A : List (List Int), (∀ a ∈ A, pv a ≠ pv s) → (A.filter fun b => decide (pv b < pv s)).length + (A.filter fun b => decide (pv s < pv b)).length = A.length := by
        intro A
        induction A with
        | nil => intro _; rfl
        | cons a A ih =>
          intro hA
          have h1 := ih fun b hb => hA b (List.mem_cons_of_mem _ hb)
          have h2 := hA a (List.mem_cons_self ..)
          rcases Nat.lt_or_gt_of_ne h2 with z | z
          · rw [List.filter_cons, if_pos (decide_eq_true z), List.filter_cons, if_neg (by simp; omega), List.length_cons, List.length_cons]; omega
          · rw [List.filter_cons, if_neg (by simp; omega), List.filter_cons, if_pos (decide_eq_true z), List.length_cons, List.length_cons]; omega
      have := part B fun a ha z => by
        have h0 := rs.zero a ha
        rw [z] at h0
        omega
      omega
theorem ok_reducedB (M : Blt mg) (hSeer : seerB K = true) (hTree : P.given.tree = none) (G_pivot : Gf K mg "pivot" s_pivot ["row"]) (G_common_divisor : Gf K mg "common_divisor" s_common_divisor ["row"]) (G_primitive : Gf K mg "primitive" s_primitive ["row"]) (G_cleared : Gf K mg "cleared" s_cleared ["row", "base"]) (G_remainder : Gf K mg "remainder" s_remainder ["basis", "row"])
    (G_extended : Gf K mg "extended" s_extended ["basis", "row"]) (G_reduced : Gf K mg "reduced" s_reduced ["rows"]) : FnOk P w K mg base CX0 36 G_reduced.f G_reduced.fd ["rows"] (spB K spec_redB) := by
  have H_extendedB := ok_extendedB (P := P) (w := w) (base := base) M hSeer hTree G_pivot G_common_divisor G_primitive G_cleared G_remainder G_extended
  refine fn_okB G_reduced.F sc_reducedB (by decide) (fun ds L Q ⟨a, e, _⟩ => by rw [e]; rfl) fun cdv A outer s0 H E hr => ⟨_, _, (dss_cons (ds_set (i := 1) sc_reducedB.nd (DF.v (df_lst da_nil)))
      (dss_cons (ds_forB K 3 PassesOwn.never rfl (de_var 0) (dg_name (i := 2) sc_reducedB.nd) (dss_one (ds_set (i := 1) sc_reducedB.nd (de_callBx K 3 H_extendedB (hr.mono (by decide)) G_extended.g G_extended.F.kp G_extended.b (da_cons (de_var 1) (da_cons (de_var 2) da_nil))))))
      (dss_one (ds_ret (de_var 1))))), ?_⟩
  rintro ds L Q ⟨⟨w, rows, b, p⟩, rfl, ⟨pre, hz, hL⟩, q⟩
  replace pre : PreR w rows b := pre
  replace hz : rows.length ≤ 100000 := hz
  replace hL : RowsB L p rows := hL
  replace q : ∀ x, (∃ B, x = .lst (rowsD B) ∧ Red w rows B b) → ∃ d L', Rv.d x = .d d ∧ some (Sl.hp true L) = some (.hp true L') ∧ Q d L' := fun x z => ⟨_, L, rfl, rfl, q x L ⟨z, rfl⟩⟩
  obtain ⟨ps, h1, h2, h3⟩ := hL
  walk_at "wb"
  refine ⟨p, _, rfl, i_onBox rfl h1, fun i γ => i ≤ rows.length ∧ ∃ (B : List (List Int)) (s2 : Sl), Red w (rows.take i) B b ∧ γ = [.val (.ref p), .val (.lst (rowsD B)), s2, .hp true L], ⟨Nat.zero_le _, [], _, ⟨Ech.nil, fun u => Iff.rfl, (fun b hb => by cases hb), Nat.zero_le _⟩, rfl⟩, ?_, ?_⟩
  · rintro i d γ hd ⟨hi, B, s2, red, rfl⟩
    obtain ⟨p', hp, rfl⟩ := refs_inv hd
    have hi : i < rows.length := by (obtain ⟨z, _⟩ := List.getElem?_eq_some_iff.mp hp; omega)
    have hr : rows[i]? = some (rowAt rows i) := rowAt_get hi
    refine ⟨i_onBox rfl h1, ?_⟩
    walk_at "wb"
    refine ⟨⟨w, B, rowAt rows i, _, b, p'⟩, rfl, ⟨red_pre pre red hi hr, h3 i p' hp⟩, fun x L' z => ?_⟩
    obtain ⟨⟨B', rfl, ech, spn, bd, hor⟩, rfl⟩ := z
    walk_at "wb"
    exact ⟨hi, B', _, red_step pre red ech spn hr, rfl⟩
  · rintro γ ⟨_, B, s2, red, rfl⟩
    refine ⟨i_onBox rfl h1, ?_⟩
    rw [List.length_map, h2, List.take_length] at red
    walk_at "wb"
    exact q _ ⟨B, rfl, red⟩
theorem ok_Space_initB (M : Blt mg) (hSeer : seerB K = true) (hTree : P.given.tree = none) (hWidest : ∃ t, mg "WIDEST" = some (.int 49 t)) (G_is_integer : Gf K mg "is_integer" s_is_integer ["value"]) (G_is_vector : Gf K mg "is_vector" s_is_vector ["value", "width"]) (G_pivot : Gf K mg "pivot" s_pivot ["row"]) (G_common_divisor : Gf K mg "common_divisor" s_common_divisor ["row"]) (G_primitive : Gf K mg "primitive" s_primitive ["row"]) (G_cleared : Gf K mg "cleared" s_cleared ["row", "base"]) (G_remainder : Gf K mg "remainder" s_remainder ["basis", "row"]) (G_extended : Gf K mg "extended" s_extended ["basis", "row"]) (G_reduced : Gf K mg "reduced" s_reduced ["rows"]) (T_Space : Tc K mg "Space" ["_width", "_basis"]) (G_Space_init : Gm K T_Space.C "__init__" "Space.__init__" s_Space_init ["self", "width", "vectors"]) : FnOk P w K mg base CX0 37 G_Space_init.f G_Space_init.fd ["self", "width", "vectors"] (spB K (spec_initB T_Space.C)) := by
  have H_is_integer := ok_is_integer (P := P) (w := w) (base := base) M G_is_integer
  have H_is_vector := ok_is_vector (P := P) (w := w) (base := base) M G_is_integer G_is_vector
  have H_reducedB := ok_reducedB (P := P) (w := w) (base := base) M hSeer hTree G_pivot G_common_divisor G_primitive G_cleared G_remainder G_extended G_reduced
  refine fn_okB G_Space_init.F sc_Space_initB (by decide) (fun ds L Q ⟨a, e, _⟩ => by rw [e]; rfl) fun cdv A outer s0 H E hr => ⟨_, _, (dss_cons (ds_if (DW.dt (dw_or (dt_not (dt_tr K (de_call K H_is_integer (hr.mono (by decide)) G_is_integer.g G_is_integer.F.kp G_is_integer.b (da_cons (de_var 1) da_nil)))) (dw_or1 (dt_not (dt_chain op_le ops_le op_le ops_le de_int (de_var 1) (de_globI hWidest)))))) (dss_one ds_no) dss_nil)
      (dss_cons (ds_if (dt_lendR 2 5 (dt_not (dt_tr K (de_isi K kit_L M.isinstance M.list (by decide +kernel) (de_var 2))))) (dss_one ds_no) dss_nil)
      (dss_cons (ds_forEB K 5 PassesOwn.never rfl M.enumerate (da_cons (de_var 2) da_nil) (dg_tup K (n := 2) rfl (dgs_cons (dg_name (i := 3) sc_Space_initB.nd) (dgs_cons (dg_name (i := 4) sc_Space_initB.nd) dgs_nil))) (dss_one (ds_if (dt_lendR 4 5 (dt_not (dt_tr K (de_call K H_is_vector (hr.mono (by decide)) G_is_vector.g G_is_vector.F.kp G_is_vector.b (da_cons (de_var 4) (da_cons (de_var 1) da_nil)))))) (dss_one ds_no) dss_nil)))
      (dss_cons (ds_putB K 5 (de_var 0) (de_var 1))
      (dss_one (ds_putB K 5 (de_var 0) (de_callBx K 5 H_reducedB (hr.mono (by decide)) G_reduced.g G_reduced.F.kp G_reduced.b (da_cons (de_var 2) da_nil)))))))), ?_⟩
  rintro ds L Q ⟨⟨w, rows, b, p, q0⟩, rfl, ⟨h1, pre, hz, hL, hp⟩, q⟩
  replace h1 : 1 ≤ w := h1
  replace pre : PreR w rows b := pre
  replace hz : rows.length ≤ 100000 := hz
  replace hL : RowsB L q0 rows := hL
  replace hp : L p = some (.ins T_Space.C []) := hp
  have hL' := hL
  obtain ⟨ps, g1, g2, g3⟩ := hL'
  have hne : q0 ≠ p := fun z => by rw [z, hp] at g1; cases g1
  have hf1 : Cls K T_Space.C ∧ NoAttr K T_Space.C "_width" := T_Space.fld
  have hf2 : Cls K T_Space.C ∧ NoAttr K T_Space.C "_basis" := T_Space.fld
  have hw := pre.wid
  walk_at "wb"
  refine ⟨.int (w : Int), rfl, trivial, fun v hv => ?_⟩
  subst hv
  have e1 : isInt (.int (w : Int)) = true := rfl
  walk_at "wb"
  rw [e1]
  walk_at "wb"
  refine i_lendsR rfl rfl g1 ?_
  walk_at "wb"
  refine ⟨q0, _, rfl, i_onBox rfl g1, fun i γ => i ≤ rows.length ∧ ∃ (s3 s4 : Sl), γ = [.val (.ref p), .val (.int w), .val (.ref q0), s3, s4, .hp true L], ⟨Nat.zero_le _, _, _, rfl⟩, ?_, ?_⟩
  · rintro i d γ hd ⟨hi, s3, s4, rfl⟩
    obtain ⟨p', hp', rfl⟩ := refs_inv hd
    have hi : i < rows.length := by (obtain ⟨z, _⟩ := List.getElem?_eq_some_iff.mp hp'; omega)
    have hl := pre.len _ (rowAt_mem hi)
    refine ⟨i_onBox rfl g1, ?_⟩
    walk_at "wb"
    refine i_lendsR rfl rfl (g3 i p' hp') ?_
    walk_at "wb"
    refine ⟨(.lst (intL (rowAt rows i)), (w : Int)), rfl, ⟨by rw [List.length_map]; omega, fun d hd => ?_⟩, fun v hv => ?_⟩
    · obtain ⟨x, _, rfl⟩ := List.mem_map.mp hd
      trivial
    · subst hv
      have e2 : isVec (w : Int) (.lst (intL (rowAt rows i))) = true := isVec_ints hl
      walk_at "wb"
      simp only [e2]
      walk_at "wb"
      exact ⟨hi, _, _, rfl⟩
  · rintro γ ⟨_, s3, s4, rfl⟩
    refine ⟨i_onBox rfl g1, ?_⟩
    walk_at "wb"
    refine ⟨⟨w, rows, b, q0⟩, rfl, ⟨pre, hz, ps, (updB_ne hne).trans g1, g2, fun i p' hp' => (updB_ne fun z => ?_).trans (g3 i p' hp')⟩, fun x L' z => ?_⟩
    · have := g3 i p' hp'
      rw [z, hp] at this
      cases this
    obtain ⟨⟨B, rfl, red⟩, rfl⟩ := z
    walk_at "wb"
    exact ⟨_, rfl, q .non _ ⟨rfl, B, red, updB_same, fun x hx => (updB_ne hx).trans (updB_ne hx)⟩⟩
theorem ok_Space_initX (M : Blt mg) (hSeer : seerB K = true) (hTree : P.given.tree = none) (hWidest : ∃ t, mg "WIDEST" = some (.int 49 t)) (G_is_integer : Gf K mg "is_integer" s_is_integer ["value"]) (G_is_vector : Gf K mg "is_vector" s_is_vector ["value", "width"]) (G_pivot : Gf K mg "pivot" s_pivot ["row"]) (G_common_divisor : Gf K mg "common_divisor" s_common_divisor ["row"]) (G_primitive : Gf K mg "primitive" s_primitive ["row"]) (G_cleared : Gf K mg "cleared" s_cleared ["row", "base"]) (G_remainder : Gf K mg "remainder" s_remainder ["basis", "row"]) (G_extended : Gf K mg "extended" s_extended ["basis", "row"]) (G_reduced : Gf K mg "reduced" s_reduced ["rows"]) (T_Space : Tc K mg "Space" ["_width", "_basis"]) (E_NoWidth : Xc0 K mg "NoWidth") (E_NoVectors : Xc1 P w K mg base "NoVectors" "index") (G_Space_init : Gm K T_Space.C "__init__" "Space.__init__" s_Space_init ["self", "width", "vectors"]) : FnOk P w K mg base (L2.CX P w) 37 G_Space_init.f G_Space_init.fd ["self", "width", "vectors"] (spBX K (spec_initX K T_Space.C E_NoWidth.C E_NoVectors.C)) := by
  have H_is_integer := ok_is_integer (P := P) (w := w) (base := base) M G_is_integer
  have H_is_vector := ok_is_vector (P := P) (w := w) (base := base) M G_is_integer G_is_vector
  have H_reduced := ok_reduced (P := P) (w := w) (base := base) M hSeer hTree G_pivot G_common_divisor G_primitive G_cleared G_remainder G_extended G_reduced
  refine fn_okBX G_Space_init.F sc_Space_initX (by decide) (fun ds L Q E ⟨a, e, _⟩ => by rw [e]; rfl) fun cdv A outer s0 H E dX hr => ⟨_, _, (dss_cons (ds_if (DW.dt (dw_or (dt_not (dt_tr K (de_call K H_is_integer (hr.mono (by decide)) G_is_integer.g G_is_integer.F.kp G_is_integer.b (da_cons (de_var 1) da_nil)))) (dw_or1 (dt_not (dt_chain op_le ops_le op_le ops_le de_int (de_var 1) (de_globI hWidest)))))) (dss_one (ds_raise0 E_NoWidth (takes_of rfl rfl rfl rfl))) dss_nil)
      (dss_cons (ds_if (dt_not (dt_tr K (de_isi K kit_L M.isinstance M.list (by decide +kernel) (de_var 2)))) (dss_one (ds_raise1 E_NoVectors (takes_of rfl rfl rfl rfl) (hr.mono (by decide)) (de_neg de_int))) dss_nil)
      (dss_cons (ds_for (passes_of rfl) rfl (di_enum K M.enumerate (da_cons (de_var 2) da_nil)) (dg_tup K (n := 2) rfl (dgs_cons (dg_name (i := 3) sc_Space_initX.nd) (dgs_cons (dg_name (i := 4) sc_Space_initX.nd) dgs_nil))) (dss_one (ds_if (dt_not (dt_tr K (de_call K H_is_vector (hr.mono (by decide)) G_is_vector.g G_is_vector.F.kp G_is_vector.b (da_cons (de_var 4) (da_cons (de_var 1) da_nil))))) (dss_one (ds_raise1 E_NoVectors (takes_of rfl rfl rfl rfl) (hr.mono (by decide)) (de_var 3))) dss_nil)))
      (dss_cons (ds_putB K 5 (de_var 0) (de_var 1))
      (dss_one (ds_putB K 5 (de_var 0) (de_call K H_reduced (hr.mono (by decide)) G_reduced.g G_reduced.F.kp G_reduced.b (da_cons (de_var 2) da_nil)))))))), ?_⟩
  rintro ds L Q ⟨⟨p, wd, vs, C, fs⟩, rfl, ⟨hp, hw, hb⟩, q, qe⟩
  replace hp : L p = some (.ins T_Space.C []) := hp
  replace hw : okC K wd := hw
  replace hb : BadV K E_NoWidth.C E_NoVectors.C wd vs C fs := hb
  replace qe : dX C fs := qe C fs ⟨rfl, rfl⟩
  clear q
  walk_at "wb"
  refine ⟨wd, rfl, hw, fun v hv => ?_⟩
  subst hv
  rcases hb with ⟨hw0, rfl, rfl⟩ | ⟨n, rfl, n1, n2, hb⟩
  · cases e : isInt wd with
    | false =>
      walk_at "wb"
      exact ⟨_, rfl, qe⟩
    | true =>
      obtain ⟨i, rfl⟩ := isInt_inv e
      have hw0 : (decide (1 ≤ i) && decide (i ≤ 49)) = false := hw0
      walk_at "wb"
      refine i_ite (fun h1 => ?_) (fun h1 => ?_)
      · walk_at "wb"
        rw [decide_eq_true h1, Bool.true_and] at hw0
        rw [hw0]
        walk_at "wb"
        exact ⟨_, rfl, qe⟩
      · walk_at "wb"
        exact ⟨_, rfl, qe⟩
  · have e1 : isInt (.int (n : Int)) = true := rfl
    walk_at "wb"
    rw [e1]
    walk_at "wb"
    rcases hb with ⟨hl, hv, rfl, rfl⟩ | ⟨xs, i, rfl, hz, hi, hj, hbad, hok, rfl, rfl⟩
    · refine ⟨hv, trivial, ?_⟩
      rw [hl]
      walk_at "wb"
      exact ⟨_, rfl, qe⟩
    · refine ⟨trivial, trivial, ?_⟩
      rw [show isL (.lst xs) = true from rfl]
      walk_at "wb"
      refine ⟨fun k γ => k ≤ i ∧ ∃ (s3 s4 : Sl), γ = [.val (.ref p), .val (.int n), .val (.lst xs), s3, s4, .hp true L], ⟨Nat.zero_le _, _, _, rfl⟩, ?_, ?_⟩
      · rintro k d γ hd ⟨hk, s3, s4, rfl⟩
        obtain ⟨rfl, hkl⟩ := enumD_inv hd
        walk_at "wb"
        refine ⟨(xs.getD k .non, (n : Int)), rfl, hok k hk, fun v hv => ?_⟩
        subst hv
        rcases Nat.lt_or_ge k i with z | z
        · have e2 := hj k z
          walk_at "wb"
          simp only [e2]
          walk_at "wb"
          exact ⟨by omega, _, _, rfl⟩
        · obtain rfl : k = i := by omega
          walk_at "wb"
          simp only [hbad]
          walk_at "wb"
          exact ⟨_, rfl, qe⟩
      · rintro γ ⟨hk, s3, s4, rfl⟩
        exact absurd hk (by rw [enumD_len]; omega)
theorem ok_Space_basisB (M : Blt mg) (hSeer : seerB K = true) (hTree : P.given.tree = none) (hWidest : ∃ t, mg "WIDEST" = some (.int 49 t)) (T_Space : Tc K mg "Space" ["_width", "_basis"]) (G_Space_basis : Gm K T_Space.C "basis" "Space.basis" s_Space_basis ["self"]) : FnOk P w K mg base CX0 1 G_Space_basis.f G_Space_basis.fd ["self"] (spB K (spec_basisB T_Space.C)) := by
  refine fn_okB G_Space_basis.F sc_Space_basisB (by decide) (fun ds L Q ⟨a, e, _⟩ => by rw [e]; rfl) fun cdv A outer s0 H E hr => ⟨_, _, (dss_one (ds_ret (de_newB 2 (df_lc (own := [("row", 1)]) rfl sc_Space_basisB.nd (di_list K (de_fld K (de_var 0))) (blkOk_by (by rfl)) (fun _ _ _ _ _ => (dg_name (i := 1) sc_Space_basisB.nd)) (gin_name (by decide)) gmo_name (fun _ _ _ _ _ => dts_nil) (fun _ _ _ _ _ => (de_newB 2 (df_list K M.list (de_var 1)))))))), ?_⟩
  rintro ds L Q ⟨⟨w, B⟩, rfl, hB, q⟩
  replace hB : B.length ≤ 100000 := hB
  have hf2 : Cls K T_Space.C ∧ NoAttr K T_Space.C "_basis" := T_Space.fld
  unfold spaceD spaceF
  walk_at "wb"
  refine ⟨by rw [List.length_map]; have := sizeLine_eq; omega, anyAt_ok rfl, fun i acc γ => ∃ (as : List Addr) (L' : Bxs), acc = as.map .ref ∧ as.length = i ∧ (∀ j p, as[j]? = some p → L' p = some (.lst (intL (rowAt B j)))) ∧ (∀ p ∈ as, L p = none) ∧ (∀ x, L x ≠ none → L' x = L x) ∧ γ = [.val (.obj T_Space.C [("_width", .int ↑w), ("_basis", .lst (rowsD B))]), .any, .hp true L'], ⟨[], L, rfl, rfl, (fun j p h => by cases h), (fun p h => by cases h), fun _ _ => rfl, rfl⟩, ?_, ?_⟩
  · rintro i acc γ d hd ⟨as, L', rfl, hl, h1, h2, h3, rfl⟩
    obtain ⟨r, hr, rfl, hi⟩ := rowsD_inv hd
    have er : r = rowAt B i := Option.some.inj (hr.symm.trans (rowAt_get hi))
    refine ⟨anyAt_ok rfl, ?_⟩
    walk_at "wb"
    intro p' hp'
    subst er
    refine ⟨as ++ [p'], _, by rw [List.map_append]; rfl, by rw [List.length_append, hl]; rfl, fun j p h => ?_, fun p h => ?_, fun x hx => (updB_ne fun z => ?_).trans (h3 x hx), rfl⟩
    · rcases Nat.lt_or_ge j as.length with z | z
      · rw [List.getElem?_append_left z] at h
        have e := h1 j p h
        exact (updB_ne fun y => by rw [y, hp'] at e; cases e).trans e
      · rw [List.getElem?_append_right z] at h
        have ej : j - as.length = 0 := by
          cases eq : j - as.length with
          | zero => rfl
          | succ m => rw [eq] at h; cases h
        rw [ej] at h
        cases h
        obtain rfl : j = i := by omega
        exact updB_same
    · rcases List.mem_append.mp h with z | z
      · exact h2 p z
      · rw [List.mem_singleton.mp z]
        exact Classical.byContradiction fun y => y ((h3 p' y).symm.trans hp')
    · have e := h3 x hx
      rw [z, hp'] at e
      exact hx (z ▸ e.symm)
  · rintro acc γ ⟨as, L', rfl, hl, h1, h2, h3, rfl⟩
    refine ⟨anyAt_ok rfl, ?_⟩
    walk_at "wb"
    intro q0 hq0
    have hn : q0 ∉ as := fun z => by
      obtain ⟨j, hj, e⟩ := List.mem_iff_getElem.mp z
      have := h1 j q0 (by rw [List.getElem?_eq_getElem hj, e])
      rw [hq0] at this
      cases this
    refine ⟨_, _, rfl, rfl, q _ _ ⟨q0, as, rfl, ⟨as, updB_same, ?_, fun j p hp => (updB_ne fun z => ?_).trans (h1 j p hp)⟩, updB_same, hn, ?_, h2⟩⟩
    · rw [hl, List.length_map]
    · exact hn (z ▸ List.mem_of_getElem? hp)
    · exact Classical.byContradiction fun z => z ((h3 q0 z).symm.trans hq0)
end

/-! ### is it the space of a basis? -/
abbrev s_L_is_space : Stmt := topS 35
theorem sc_L_is_space : FnScope ["_law_space", "_law_width", "_law_basis", "_law_told"] ["_law_space", "_law_width", "_law_basis"] (defScope s_L_is_space) := ⟨rfl, rfl, rfl, by decide +kernel, rfl, by decide +kernel, by decide +kernel⟩

/-- the canonical basis of rows -/
noncomputable def canB (w : Nat) (R : List (List Int)) : List (List Int) := @dite _ (∀ r ∈ R, r.length = w) (Classical.propDecidable _) (fun h => Classical.choose (ech_ex R h)) fun _ => []
theorem canB_spec {w : Nat} {R : List (List Int)} (h : ∀ r ∈ R, r.length = w) : Ech w (canB w R) ∧ ∀ u, Sp (canB w R) u ↔ Sp R u := by
  unfold canB
  rw [dif_pos h]
  obtain ⟨R', h1, h2, _⟩ := Classical.choose_spec (ech_ex R h)
  exact ⟨h1, h2⟩
theorem canB_eq {w q : Nat} {R B : List (List Int)} (red : Red w R B q) (h : ∀ r ∈ R, r.length = w) : B = canB w R := red.ech.uniq (canB_spec h).1 fun u => (red.spn u).trans ((canB_spec h).2 u).symm
theorem lredF_i {w b : Nat} {rows : List (List Int)} {P : Rv → Prop} (pre : PreR w rows b) (hz : rows.length ≤ 100000) (q : ∀ v, v.val = .lst (rowsD (canB w rows)) → P v) : spec_red.S [.lst (rowsD rows)] P := lred_i pre hz fun B v e red => q v (by rw [e, canB_eq red pre.len])
abbrev rowsL (R : List (List Int)) : D := .lst (rowsD R)
def spec_isspace (C : Addr) : SpecD := SpecD.of (fun a : Nat × List (List Int) => [spaceD C a.1 a.2, .int (a.1 : Nat), .lst (rowsD a.2)]) (fun a => Ech a.1 a.2 ∧ a.1 ≤ 49) (fun _ v => v = .d (.bl true))
section
variable {P : Program} {w : World} {K : PySem.W.Frag} {mg : Str → Option Value} {base : Heap}
theorem ok_L_is_space (M : Blt mg) (hSeer : seerB K = true) (hTree : P.given.tree = none) (hWidest : ∃ t, mg "WIDEST" = some (.int 49 t)) (T_Space : Tc K mg "Space" ["_width", "_basis"]) (G_Space_len : Gm K T_Space.C "__len__" "Space.__len__" s_Space_len ["self"]) (G_Space_width : Gm K T_Space.C "width" "Space.width" s_Space_width ["self"]) (G_Space_basis : Gm K T_Space.C "basis" "Space.basis" s_Space_basis ["self"]) (G_L_is_integer : Gf K mg "_law_is_integer" s_L_is_integer ["_law_thing"]) (G_L_is_vector : Gf K mg "_law_is_vector" s_L_is_vector ["_law_thing", "_law_width"]) (G_L_are_vectors : Gf K mg "_law_are_vectors" s_L_are_vectors ["_law_thing", "_law_width"]) (G_L_is_space : Gf K mg "_law_is_space" s_L_is_space ["_law_space", "_law_width", "_law_basis"]) : FnOk P w K mg base CX0 4 G_L_is_space.f G_L_is_space.fd ["_law_space", "_law_width", "_law_basis"] (spV K (spec_isspace T_Space.C)) := by
  have H_Space_len := ok_Space_len (P := P) (w := w) (base := base) M T_Space G_Space_len
  have H_Space_width := ok_Space_width (P := P) (w := w) (base := base) M T_Space G_Space_width
  have H_Space_basis := ok_Space_basis (P := P) (w := w) (base := base) M T_Space G_Space_basis
  have H_L_are_vectors := ok_L_are_vectors (P := P) (w := w) (base := base) M G_L_is_integer G_L_is_vector G_L_are_vectors
  refine fn_ok G_L_is_space.F sc_L_is_space (fun ds Q ⟨a, e, _⟩ => by rw [e]; rfl) fun cdv A outer s0 H E hr => ⟨_, _, (dss_cons (ds_if (DW.dt (dw_or (dt_not (dt_tr K (de_isO K T_Space.own M.isinstance T_Space.g (de_var 0)))) (dw_or (dt_ne (de_meth0 K (de_var 0) T_Space.own.cl G_Space_width.meth H_Space_width (hr.mono (by decide)) G_Space_width.b) (de_var 1)) (dw_or1 (dt_ne (de_lenOb K H_Space_len (hr.mono (by decide)) (G_Space_len.at) (G_Space_len.fn) (G_Space_len.b) M.len (da_cons (de_var 0) da_nil)) (de_callB cs_len call_len_seq M.len PySem.boot_len (da_cons (de_var 2) da_nil))))))) (dss_one (ds_ret de_bl)) dss_nil)
      (dss_cons (ds_set (i := 3) sc_L_is_space.nd (DF.v (df_meth0 K (de_var 0) T_Space.own.cl G_Space_basis.meth H_Space_basis (hr.mono (by decide)) G_Space_basis.b)))
      (dss_one (ds_ret (de_and (de_call K H_L_are_vectors (hr.mono (by decide)) G_L_are_vectors.g G_L_are_vectors.F.kp G_L_are_vectors.b (da_cons (de_var 3) (da_cons (de_var 1) da_nil))) (de_one (de_eqD K hr (de_var 3) (de_var 2)))))))), ?_⟩
  rintro ds Q ⟨⟨n, B⟩, rfl, ⟨ech, hn⟩, q⟩
  replace ech : Ech n B := ech
  replace hn : n ≤ 49 := hn
  have hB := ech.le
  have hown : OwnCls K T_Space.C := T_Space.own
  unfold spaceD
  walk_at "wq"
  refine ⟨hown, fun C' fs e => (by cases e; rfl), ?_⟩
  rw [isO_self]
  walk_at "wq"
  refine swidth_i ?_
  walk_at "wq"
  refine i_iteN (fun h => absurd rfl h) (fun _ => ?_)
  walk_at "wq"
  refine slen_i (by omega) ?_
  walk_at "wq"
  refine ⟨_, rfl, ⟨by omega, by omega⟩, ?_⟩
  walk_at "wq"
  rw [List.length_map]
  refine i_iteN (fun h => absurd rfl h) (fun _ => ?_)
  walk_at "wq"
  refine sbasis_i (by omega) ?_
  walk_at "wq"
  refine lvecs_i (by omega) (by omega) ech.len ?_
  walk_at "wq"
  rw [decide_eq_true rfl]
  exact q _ rfl
end
/-! ### the law's looks at refusals; odd vectors -/
abbrev s_L_made : Stmt := topS 36
theorem sc_L_made : FnScope ["_law_width", "_law_vectors_here", "_law_found", "_law_refused", "e", "$"] ["_law_width", "_law_vectors_here"] (defScope s_L_made) := ⟨rfl, rfl, rfl, by decide +kernel, rfl, by decide +kernel, by decide +kernel⟩

abbrev s_L_odd_vector : Stmt := topS 37
theorem sc_L_odd_vector : FnScope ["_law_hand_here", "_law_vector_here", "_law_at", "_law_longer", "_law_odd", "_law_worse"] ["_law_hand_here", "_law_vector_here"] (defScope s_L_odd_vector) := ⟨rfl, rfl, rfl, by decide +kernel, rfl, by decide +kernel, by decide +kernel⟩

def madeD : Option Int → D
  | none => .lst [.str "width", .bl true]
  | some i => .lst [.int i, .bl true]
def spec_made (K : PySem.W.Frag) (CW CV : Addr) : SpecD := SpecD.of (fun a : D × D × Option Int => [a.1, a.2.1]) (fun a => okC K a.1 ∧ match a.2.2 with
  | none => BadV K CW CV a.1 a.2.1 CW []
  | some i => BadV K CW CV a.1 a.2.1 CV [(("index" : Str), .int i)]) (fun a r => r = .d (.tup [.non, madeD a.2.2]))
def spec_oddv (K : PySem.W.Frag) : SpecP := SpecP.of (fun a : List Int => [.lst (intL a)]) PoolP (fun a => 1 ≤ a.length ∧ a.length ≤ 1000) (fun a r => ∃ d, r = .d d ∧ isVec a.length d = false ∧ okV K d)
theorem isVec_len {n : Int} {ds : List D} (h : (ds.length : Int) ≠ n) : isVec n (.lst ds) = false := by
  show (decide ((ds.length : Int) = n) && ds.all isInt) = false
  rw [decide_eq_false h, Bool.false_and]
theorem isVec_mem {n : Int} {ds : List D} {x : D} (h : x ∈ ds) (hx : isInt x = false) : isVec n (.lst ds) = false := by
  show (decide ((ds.length : Int) = n) && ds.all isInt) = false
  have : ds.all isInt = false := by
    rw [List.all_eq_false]
    exact ⟨x, h, by rw [hx]; exact fun z => by cases z⟩
  rw [this, Bool.and_false]
theorem worse_at {K : PySem.W.Frag} {k : Int} (h0 : 0 ≤ k) (h5 : k < 5) : ∃ x, atI [.non, .bl true, .str "0", .lst [.int 0], .tup [.int 0]] k = some x ∧ isInt x = false ∧ okC K x := by
  have : k = 0 ∨ k = 1 ∨ k = 2 ∨ k = 3 ∨ k = 4 := by omega
  rcases this with rfl | rfl | rfl | rfl | rfl
  · exact ⟨_, rfl, rfl, trivial⟩
  · exact ⟨_, rfl, rfl, trivial⟩
  · exact ⟨_, rfl, rfl, trivial⟩
  · exact ⟨_, rfl, rfl, trivial⟩
  · exact ⟨_, rfl, rfl, trivial⟩
theorem odd_at {K : PySem.W.Frag} {v : List Int} {long sho wl : List D} {x : D} {k : Int} (h1 : long.length = v.length + 1) (e1 : ∃ ns : List Int, long = intL ns) (h2 : sho.length + 1 = v.length) (e2 : ∃ ns : List Int, sho = intL ns) (h3 : wl.length = v.length) (hx : x ∈ wl) (ho : ∀ d ∈ wl, okC K d) (hv : v.length ≤ 1000)
    (nx : isInt x = false) (k0 : 0 ≤ k) (k1 : k < 11) : ∃ d, atI ([.non, .int 0, .str "", .tup (intL v), .emp, .lst long, .lst sho, .lst [.lst (intL v)]] ++ [.lst wl, .lst wl, .lst wl]) k = some d ∧ isVec v.length d = false ∧ okV K d := by
  obtain ⟨n1, rfl⟩ := e1
  obtain ⟨n2, rfl⟩ := e2
  have hW : isVec v.length (.lst wl) = false ∧ okV K (.lst wl) := ⟨isVec_mem hx nx, by omega, ho⟩
  have : k = 0 ∨ k = 1 ∨ k = 2 ∨ k = 3 ∨ k = 4 ∨ k = 5 ∨ k = 6 ∨ k = 7 ∨ k = 8 ∨ k = 9 ∨ k = 10 := by omega
  rcases this with rfl | rfl | rfl | rfl | rfl | rfl | rfl | rfl | rfl | rfl | rfl
  · exact ⟨_, rfl, rfl, trivial⟩
  · exact ⟨_, rfl, rfl, trivial⟩
  · exact ⟨_, rfl, rfl, trivial⟩
  · exact ⟨_, rfl, rfl, trivial⟩
  · exact ⟨_, rfl, rfl, trivial⟩
  · exact ⟨_, rfl, isVec_len (by omega), okV_ints (by rw [List.length_map] at *; omega)⟩
  · exact ⟨_, rfl, isVec_len (by omega), okV_ints (by rw [List.length_map] at *; omega)⟩
  · exact ⟨_, rfl, isVec_mem (List.mem_singleton.mpr rfl) rfl, by show (1 : Nat) ≤ 100000; omega, fun d hd => by rw [List.mem_singleton.mp hd]; trivial⟩
  · exact ⟨_, rfl, hW⟩
  · exact ⟨_, rfl, hW⟩
  · exact ⟨_, rfl, hW⟩
section
variable {P : Program} {w : World} {K : PySem.W.Frag} {mg : Str → Option Value} {base : Heap}
theorem ok_L_made (M : Blt mg) (hSeer : seerB K = true) (hTree : P.given.tree = none) (hWidest : ∃ t, mg "WIDEST" = some (.int 49 t)) (G_is_integer : Gf K mg "is_integer" s_is_integer ["value"]) (G_is_vector : Gf K mg "is_vector" s_is_vector ["value", "width"]) (G_pivot : Gf K mg "pivot" s_pivot ["row"]) (G_common_divisor : Gf K mg "common_divisor" s_common_divisor ["row"]) (G_primitive : Gf K mg "primitive" s_primitive ["row"]) (G_cleared : Gf K mg "cleared" s_cleared ["row", "base"]) (G_remainder : Gf K mg "remainder" s_remainder ["basis", "row"]) (G_extended : Gf K mg "extended" s_extended ["basis", "row"]) (G_reduced : Gf K mg "reduced" s_reduced ["rows"]) (T_Space : Tc K mg "Space" ["_width", "_basis"]) (E_NoWidth : Xc0 K mg "NoWidth") (E_NoVectors : Xc1 P w K mg base "NoVectors" "index") (E_BoardError : Xc0 K mg "BoardError") (X_NoVectors : Xh K E_NoVectors.C "index") (Y_NoWidth : PySem.W.exmOne K (.ref E_NoWidth.C) (.ref E_NoWidth.C) = some true) (N_NoVectors_NoWidth : PySem.W.exmOne K (.ref E_NoVectors.C) (.ref E_NoWidth.C) = some false) (I_NoWidth : XisC K E_NoWidth.C) (I_NoVectors : XisC K E_NoVectors.C) (Kt_NoWidth_BoardError : PySem.W.kitOne K (.ref E_NoWidth.C) (.ref E_BoardError.C) = some true) (Kt_NoWidth_NoVectors : PySem.W.kitOne K (.ref E_NoWidth.C) (.ref E_NoVectors.C) = some false) (Kt_NoVectors_BoardError : PySem.W.kitOne K (.ref E_NoVectors.C) (.ref E_BoardError.C) = some true) (G_Space_init : Gm K T_Space.C "__init__" "Space.__init__" s_Space_init ["self", "width", "vectors"]) (G_L_made : Gf K mg "_law_made" s_L_made ["_law_width", "_law_vectors_here"]) : FnOk P w K mg base CX0 42 G_L_made.f G_L_made.fd ["_law_width", "_law_vectors_here"] (spV K (spec_made K E_NoWidth.C E_NoVectors.C)) := by
  have H_Space_initX := ok_Space_initX (P := P) (w := w) (base := base) M hSeer hTree hWidest G_is_integer G_is_vector G_pivot G_common_divisor G_primitive G_cleared G_remainder G_extended G_reduced T_Space E_NoWidth E_NoVectors G_Space_init
  refine fn_ok0 G_L_made.F sc_L_made (fun ds Q ⟨a, e, _⟩ => by rw [e]; rfl) fun cdv A outer s0 H E hr => ⟨_, _, (dss0_initB 5 (dss0_cons (DS.d0 (ds_set (i := 2) sc_L_made.nd de_non))
      (dss0_cons (DS.d0 (ds_set (i := 3) sc_L_made.nd de_non))
      (dss0_cons (ds_tryMix takes0 (fun W dX' pn xe tkb => by exact (dss_one (ds_set (i := 2) sc_L_made.nd (de_makeBX K 5 W dX' tkb (T_Space.mkOf G_Space_init) H_Space_initX (hr.mono (by decide)) T_Space.g G_Space_init.b (da_cons (de_var 0) (da_cons (de_var 1) da_nil)))))) (.named (i := 4) Y_NoWidth E_NoWidth.g (fun a oe cls d pn fs hz hf => by exact (dss_one (ds_set (i := 3) sc_L_made.nd (DF.v (df_lst (da_cons de_str (da_cons (de_and (de_isX (i := 4) K I_NoWidth hz hf M.isinstance E_BoardError.g) (de_one (de_not (de_isX (i := 4) K I_NoWidth hz hf M.isinstance E_NoVectors.g)))) da_nil))))))) (.named (i := 4) X_NoVectors.ex E_NoVectors.g (fun a oe cls d pn fs hz hf => by exact (dss_one (ds_set (i := 3) sc_L_made.nd (DF.v (df_lst (da_cons (de_xf (i := 4) X_NoVectors.T X_NoVectors.no hz hf) (da_cons (de_isX (i := 4) K I_NoVectors hz hf M.isinstance E_BoardError.g) da_nil))))))) .nil)) sc_L_made.nd)
      (DSs.d0 (dss_one (ds_ret (de_tup (da_cons (de_var 2) (da_cons (de_var 3) da_nil)))))))))), ?_⟩
  rintro ds Q ⟨⟨wd, vs, o⟩, rfl, ⟨hw, hb⟩, q⟩
  have q1 := q _ rfl
  clear q
  replace q1 : Q (.d (.tup [.non, madeD o])) := q1
  replace hw : okC K wd := hw
  refine i_initB ?_
  walk_at "wb"
  intro p hp
  cases o with
  | none =>
    replace hb : BadV K E_NoWidth.C E_NoVectors.C wd vs E_NoWidth.C [] := hb
    refine ⟨⟨p, wd, vs, E_NoWidth.C, []⟩, rfl, ⟨updB_same, hw, hb⟩, fun d L' z => z.elim, fun C fs z => ?_⟩
    obtain ⟨rfl, rfl⟩ := z
    intro L'
    refine .inl ⟨rfl, fun a => ?_⟩
    walk_at "wb"
    refine ⟨rfl, true, Kt_NoWidth_BoardError, ?_⟩
    walk_at "wb"
    refine ⟨rfl, false, Kt_NoWidth_NoVectors, ?_⟩
    walk_at "wb"
    exact q1
  | some i =>
    replace hb : BadV K E_NoWidth.C E_NoVectors.C wd vs E_NoVectors.C [(("index" : Str), .int i)] := hb
    refine ⟨⟨p, wd, vs, E_NoVectors.C, [(("index" : Str), .int i)]⟩, rfl, ⟨updB_same, hw, hb⟩, fun d L' z => z.elim, fun C fs z => ?_⟩
    obtain ⟨rfl, rfl⟩ := z
    intro L'
    refine .inr ⟨N_NoVectors_NoWidth, .inl ⟨rfl, fun a => ?_⟩⟩
    walk_at "wb"
    refine ⟨rfl, _, rfl, trivial, ?_⟩
    walk_at "wb"
    refine ⟨rfl, true, Kt_NoVectors_BoardError, ?_⟩
    walk_at "wb"
    exact q1
theorem ok_L_odd_vector (M : Blt mg) (hSeer : seerB K = true) (hTree : P.given.tree = none) (hWidest : ∃ t, mg "WIDEST" = some (.int 49 t)) (G_L_draw : Gf K mg "_law_draw" s_L_draw ["_law_hand_here", "_law_many"]) (G_L_odd_vector : Gf K mg "_law_odd_vector" s_L_odd_vector ["_law_hand_here", "_law_vector_here"]) : FnOk P w K mg base CX0 3 G_L_odd_vector.f G_L_odd_vector.fd ["_law_hand_here", "_law_vector_here"] (spP K (spec_oddv K)) := by
  have H_L_draw : FnOk P w K mg base CX0 1 G_L_draw.f G_L_draw.fd ["_law_hand_here", "_law_many"] (spP K spec_L_draw) := ok_L_draw M G_L_draw
  refine fn_okP G_L_odd_vector.F sc_L_odd_vector (fun pl ds Q ⟨_, a, e, _⟩ => by rw [e]; rfl) fun cdv A outer s0 H E hr => ⟨_, _, (dss_cons (ds_set (i := 2) sc_L_odd_vector.nd (de_callP K 0 H_L_draw (hr.mono (by decide)) G_L_draw.g G_L_draw.F.kp G_L_draw.b (da_cons (de_callB cs_len call_len_seq M.len PySem.boot_len (da_cons (de_var 1) da_nil)) da_nil)))
      (dss_cons (ds_set (i := 3) sc_L_odd_vector.nd (DF.v (df_cat (DF.v (df_cat (DF.v (df_sl K (de_var 1) do_none (do_some (de_var 2)))) (DF.v (df_lst (da_cons de_int da_nil))))) (DF.v (df_sl K (de_var 1) (do_some (de_var 2)) do_none)))))
      (dss_cons (ds_set (i := 4) sc_L_odd_vector.nd (DF.v (df_lst (da_cons de_non (da_cons de_int (da_cons de_str (da_cons (de_tupleOf K M.tuple (de_var 1)) (da_cons de_emp (da_cons (de_var 3) (da_cons (DF.v (df_cat (DF.v (df_sl K (de_var 1) do_none (do_some (de_var 2)))) (DF.v (df_sl K (de_var 1) (do_some (de_add (de_var 2) de_int)) do_none)))) (da_cons (DF.v (df_lst (da_cons (de_var 1) da_nil))) da_nil)))))))))))
      (dss_cons (ds_setO (i := 5) sc_L_odd_vector.nd (df_list K M.list (de_var 1)))
      (dss_cons (ds_sub 5 (de_ix K (DF.v (df_lst (da_cons de_non (da_cons de_bl (da_cons de_str (da_cons (DF.v (df_lst (da_cons de_int da_nil))) (da_cons (de_tup (da_cons de_int da_nil)) da_nil))))))) (de_callP K 0 H_L_draw (hr.mono (by decide)) G_L_draw.g G_L_draw.F.kp G_L_draw.b (da_cons de_int da_nil))) (de_var 2))
      (dss_frz 5 (dss_one (ds_ret (de_ix K (DF.v (df_cat (de_var 4) (DF.v (df_lst (da_cons (de_var 5) (da_cons (de_var 5) (da_cons (de_var 5) da_nil))))))) (de_callP K 0 H_L_draw (hr.mono (by decide)) G_L_draw.g G_L_draw.F.kp G_L_draw.b (da_cons de_int da_nil))))))))))), ?_⟩
  rintro pl ds Q ⟨hp, v, rfl, ⟨h1, h2⟩, q⟩
  walk_at "wq"
  replace h1 : 1 ≤ v.length := h1
  replace h2 : v.length ≤ 1000 := h2
  have hsz := sizeLine_eq
  have hvl : (intL v).length = v.length := List.length_map ..
  rw [hvl]
  refine draw_i (many := (v.length : Int)) hp (.of (by omega)) fun k pl k0 k1 hp => ?_
  obtain ⟨m, rfl⟩ : ∃ m : Nat, k = (m : Int) := ⟨k.toNat, by omega⟩
  have hm : m < v.length := by omega
  walk_at "wq"
  rw [cut_take _ (by omega)]
  refine i_cat2 (by rw [List.length_take, List.length_cons, List.length_nil]; omega) ?_
  walk_at "wq"
  rw [cut_drop _ (by omega)]
  refine i_cat2 (by simp only [List.length_take, List.length_drop, List.length_append, List.length_cons, List.length_nil]; omega) ?_
  have hlong : ((intL v).take m ++ [D.int 0] ++ (intL v).drop m).length = v.length + 1 := by
    simp only [List.length_take, List.length_drop, List.length_append, List.length_cons, List.length_nil]; omega
  have elong : ∃ ns : List Int, (intL v).take m ++ [D.int 0] ++ (intL v).drop m = intL ns := ⟨v.take m ++ [0] ++ v.drop m, by simp [intL, List.map_take, List.map_drop]⟩
  generalize (intL v).take m ++ [D.int 0] ++ (intL v).drop m = long at hlong elong ⊢
  walk_at "wq"
  have em1 : (m : Int) + 1 = ((m + 1 : Nat) : Int) := by omega
  rw [cut_take _ (by omega), em1, cut_drop _ (by omega)]
  refine i_cat2 (by simp only [List.length_take, List.length_drop]; omega) ?_
  have hsho : ((intL v).take m ++ (intL v).drop (m + 1)).length + 1 = v.length := by
    simp only [List.length_take, List.length_drop, List.length_append]; omega
  have esho : ∃ ns : List Int, (intL v).take m ++ (intL v).drop (m + 1) = intL ns := ⟨v.take m ++ v.drop (m + 1), by simp [intL, List.map_take, List.map_drop]⟩
  generalize (intL v).take m ++ (intL v).drop (m + 1) = sho at hsho esho ⊢
  walk_at "wq"
  refine draw_i (many := 5) hp (.of (by omega)) fun k2 pl k20 k21 hp => ?_
  obtain ⟨x, hx, nx, ox⟩ := worse_at (K := K) k20 k21
  walk_at "wq"
  refine i_ixL hx ?_
  walk_at "wq"
  refine ⟨_, _, _, m, rfl, rfl, ixN_n (by omega), fun z => (by cases z), ?_⟩
  have hwl : ((intL v).set m x).length = v.length := (List.length_set ..).trans hvl
  have hwx : x ∈ (intL v).set m x := List.mem_iff_getElem.mpr ⟨m, by rw [List.length_set]; omega, List.getElem_set_self _⟩
  have hwo : ∀ d ∈ (intL v).set m x, okC K d := fun d hd => by
    rcases List.mem_or_eq_of_mem_set hd with z | z
    · obtain ⟨i, _, rfl⟩ := List.mem_map.mp z
      trivial
    · rw [z]; exact ox
  generalize (intL v).set m x = wl at hwl hwx hwo ⊢
  walk_at "wq"
  refine draw_i (many := 11) hp (.of (by omega)) fun k3 pl k30 k31 hp => ?_
  walk_at "wq"
  obtain ⟨d, hd, nd, od⟩ := odd_at (K := K) (v := v) (long := long) (sho := sho) (wl := wl) hlong elong hsho esho hwl hwx hwo h2 nx k30 k31
  refine i_ixL hd ?_
  walk_at "wq"
  exact ⟨_, rfl, q _ _ ⟨d, rfl, nd, od⟩ hp⟩
end

/-! ### the same space of other vectors -/
theorem others_sp {n : Nat} {rows O : List (List Int)} (h1 : ∀ r ∈ O, ∃ row ∈ rows, ∃ k : Int, ∀ j, ent r j = k * ent row j) (h2 : ∀ row ∈ rows, ∃ r ∈ O, ∃ k : Int, k ≠ 0 ∧ ∀ j, ent r j = k * ent row j) (u : Vec) : Sp (O ++ rows.take 2 ++ [mkL n fun _ => 0]) u ↔ Sp rows u := by
  constructor
  · intro s
    refine s.trans fun a ha => ?_
    obtain ⟨c, hc, rfl⟩ := List.mem_map.mp ha
    rcases List.mem_append.mp hc with z | z
    · rcases List.mem_append.mp z with z | z
      · obtain ⟨row, hr, k, e⟩ := h1 c z
        exact (Spn.smul k (mem_vecs hr)).of fun j => (e j).symm
      · exact mem_vecs (List.mem_of_mem_take z)
    · rw [List.mem_singleton.mp z]
      exact Spn.zero.of fun j => (mkL_ent (fun _ _ => rfl) j).symm
  · intro s
    refine s.trans fun a ha => ?_
    obtain ⟨c, hc, rfl⟩ := List.mem_map.mp ha
    obtain ⟨r, hr, k, hk, e⟩ := h2 c hc
    exact Spn.div hk ((mem_vecs (List.mem_append_left _ (List.mem_append_left _ hr))).of e)
theorem canB_same {n : Nat} {A B : List (List Int)} (hA : ∀ r ∈ A, r.length = n) (hB : ∀ r ∈ B, r.length = n) (h : ∀ u, Sp A u ↔ Sp B u) : canB n A = canB n B :=
  (canB_spec hA).1.uniq (canB_spec hB).1 fun u => ((canB_spec hA).2 u).trans ((h u).trans ((canB_spec hB).2 u).symm)
/-- the vectors doubled, negated, put somewhere -/
structure Oth (n i : Nat) (rows O : List (List Int)) : Prop where
  len : O.length = i
  wid : ∀ r ∈ O, r.length = n
  bd : BdL 190 O
  one : ∀ r ∈ O, ∃ row ∈ rows, ∃ k : Int, ∀ j, ent r j = k * ent row j
  two : ∀ row ∈ rows.take i, ∃ r ∈ O, ∃ k : Int, k ≠ 0 ∧ ∀ j, ent r j = k * ent row j
theorem Oth.nil {n : Nat} {rows : List (List Int)} : Oth n 0 rows [] := ⟨rfl, (fun r h => by cases h), (fun r h => by cases h), (fun r h => by cases h), fun r h => by cases h⟩
theorem Oth.step {n i p : Nat} {f : Int} {rows O : List (List Int)} (o : Oth n i rows O) (hi : i < rows.length) (hw : ∀ r ∈ rows, r.length = n) (hb : BdL 181 rows) (hf : f ≠ 0) (hf3 : f.natAbs ≤ 3) : Oth n (i + 1) rows (O.take p ++ mkL n (fun j => f * ent (rowAt rows i) j) :: O.drop p) := by
  have hm := rowAt_mem hi
  have hmem : ∀ r, r ∈ O.take p ++ mkL n (fun j => f * ent (rowAt rows i) j) :: O.drop p ↔ r ∈ O ∨ r = mkL n (fun j => f * ent (rowAt rows i) j) := fun r => by
    rw [List.mem_append, List.mem_cons]
    conv => rhs; rw [← List.take_append_drop p O, List.mem_append]
    constructor
    · rintro (z | z | z)
      · exact .inl (.inl z)
      · exact .inr z
      · exact .inl (.inr z)
    · rintro ((z | z) | z)
      · exact .inl z
      · exact .inr (.inr z)
      · exact .inr (.inl z)
  have he : ∀ j, ent (mkL n fun j => f * ent (rowAt rows i) j) j = f * ent (rowAt rows i) j := mkL_ent fun j hj => by
    show f * ent (rowAt rows i) j = 0
    rw [ent_out (by rw [hw _ hm]; exact hj), Int.mul_zero]
  refine ⟨?_, fun r hr => ?_, fun r hr => ?_, fun r hr => ?_, fun row hr => ?_⟩
  · have := o.len
    have h2 : (O.take p).length + (O.drop p).length = O.length := by rw [← List.length_append, List.take_append_drop]
    rw [List.length_append, List.length_cons]
    omega
  · rcases (hmem r).mp hr with z | z
    · exact o.wid r z
    · rw [z]; exact mkL_len
  · rcases (hmem r).mp hr with z | z
    · exact o.bd r z
    · rw [z]
      refine mkL_bd fun j hj => ?_
      have h1 := (hb _ hm).ent j
      rw [Int.natAbs_mul]
      have h2 : f.natAbs * (ent (rowAt rows i) j).natAbs ≤ 3 * (ent (rowAt rows i) j).natAbs := Nat.mul_le_mul_right _ hf3
      have e : (2 : Nat) ^ 190 = 512 * 2 ^ 181 := by decide
      omega
  · rcases (hmem r).mp hr with z | z
    · exact o.one r z
    · rw [z]; exact ⟨_, hm, f, he⟩
  · rw [List.take_add_one, rowAt_get hi] at hr
    rcases List.mem_append.mp hr with z | z
    · obtain ⟨r, h1, k, h2, h3⟩ := o.two row z
      exact ⟨r, (hmem r).mpr (.inl h1), k, h2, h3⟩
    · have z : row = rowAt rows i := by simpa using z
      rw [z]
      exact ⟨_, (hmem _).mpr (.inr rfl), f, hf, he⟩

/-! ### the law -/
abbrev s_law : Stmt := topS 38
theorem sc_law : FnScope ["_law_script", "_law_hand_here", "_law_kind", "_law_width", "_law_vectors_here", "_law_odd", "_law_first", "_law_second", "_law_at", "_law_due", "_law_vector_here", "_law_passed", "_law_space", "_law_turn", "_law_told", "_law_row", "_law_others", "_law_factor", "_law_other", "_law_number_here", "_law_k", "$"] ["_law_script"] (defScope s_law) := ⟨rfl, rfl, rfl, by decide +kernel, rfl, by decide +kernel, by decide +kernel⟩

theorem made_pl (o : Option Int) : PlD (.tup [.non, madeD o]) := by
  have h : PlN 2 (madeD o) := by
    cases o with
    | none =>
      refine pl_lst fun d hd => ?_
      rcases List.mem_cons.mp hd with z | z
      · rw [z]; exact pl_str (by decide +kernel)
      · rw [List.mem_singleton.mp z]; exact pl_bl _
    | some i =>
      refine pl_lst fun d hd => ?_
      rcases List.mem_cons.mp hd with z | z
      · rw [z]; exact pl_int _
      · rw [List.mem_singleton.mp z]; exact pl_bl _
  refine (pl_tup (n := 2) fun d hd => ?_).pl (by decide)
  rcases List.mem_cons.mp hd with z | z
  · rw [z]; exact pl_non
  · rw [List.mem_singleton.mp z]; exact h
theorem made_eq (o : Option Int) : eqD (.tup [.non, madeD o]) (.tup [.non, madeD o]) = true := by
  cases o with
  | none => rfl
  | some i =>
    simp [eqD, madeD, toP, toPs, PyData.eqv, PyData.eqvAll]
theorem made_i {o : Option Int} {R : D → Prop} (q : R (.bl true)) : fEqD false (.tup [.non, madeD o]) (.tup [.non, madeD o]) R := ⟨made_pl o, made_pl o, by rw [made_eq]; exact q⟩
theorem getD_set_ne {vs : List D} {i j : Nat} {d x : D} (h : i ≠ j) : (vs.set i d).getD j x = vs.getD j x := by
  rw [List.getD_eq_getElem?_getD, List.getD_eq_getElem?_getD, List.getElem?_set_ne h]
theorem getD_set_self {vs : List D} {i : Nat} {d x : D} (h : i < vs.length) : (vs.set i d).getD i x = d := by
  rw [List.getD_eq_getElem?_getD, List.getElem?_set_self h]
  rfl
theorem rowsD_getD {rows : List (List Int)} {j : Nat} (h : j < rows.length) : (rowsD rows).getD j .non = .lst (intL (rowAt rows j)) := by
  rw [rowsD_dLs, List.getD_eq_getElem?_getD, dLs_get h]
  rfl
theorem refs_inj : ∀ {a b : List Addr}, a.map D.ref = b.map D.ref → a = b
  | [], [], _ => rfl
  | [], _ :: _, h => by cases h
  | _ :: _, [], h => by cases h
  | x :: a, y :: b, h => by
    obtain ⟨h1, h2⟩ := List.cons.inj h
    rw [D.ref.inj h1, refs_inj h2]
/-- the odd widths -/
theorem oddw_at {K : PySem.W.Frag} {k : Int} (h0 : 0 ≤ k) (h9 : k < 9) : ∃ x, atI [.int 0, .int 50, .int (-1), .non, .bl true, .str "1", .tup [.int 1], .int (10 ^ Int.toNat 20), .lst [.int 3]] k = some x ∧ widOk x = false ∧ okC K x := by
  have : k = 0 ∨ k = 1 ∨ k = 2 ∨ k = 3 ∨ k = 4 ∨ k = 5 ∨ k = 6 ∨ k = 7 ∨ k = 8 := by omega
  rcases this with rfl | rfl | rfl | rfl | rfl | rfl | rfl | rfl | rfl
  all_goals exact ⟨_, rfl, by decide, trivial⟩
theorem oddl_at {K : PySem.W.Frag} {k : Int} {ds : List D} (h0 : 0 ≤ k) (h6 : k < 6) : ∃ x, atI [.non, .int 0, .str "", .tup ds, .emp, .bl true] k = some x ∧ isL x = false ∧ okC K x := by
  have : k = 0 ∨ k = 1 ∨ k = 2 ∨ k = 3 ∨ k = 4 ∨ k = 5 := by omega
  rcases this with rfl | rfl | rfl | rfl | rfl | rfl
  all_goals exact ⟨_, rfl, rfl, trivial⟩
section
variable {P : Program} {w : World} {K : PySem.W.Frag} {mg : Str → Option Value} {base : Heap}
theorem ok_law (M : Blt mg) (hSeer : seerB K = true) (hTree : P.given.tree = none) (hWidest : ∃ t, mg "WIDEST" = some (.int 49 t)) (G_is_integer : Gf K mg "is_integer" s_is_integer ["value"]) (G_is_vector : Gf K mg "is_vector" s_is_vector ["value", "width"]) (G_pivot : Gf K mg "pivot" s_pivot ["row"]) (G_common_divisor : Gf K mg "common_divisor" s_common_divisor ["row"]) (G_primitive : Gf K mg "primitive" s_primitive ["row"]) (G_cleared : Gf K mg "cleared" s_cleared ["row", "base"]) (G_remainder : Gf K mg "remainder" s_remainder ["basis", "row"]) (G_extended : Gf K mg "extended" s_extended ["basis", "row"]) (G_reduced : Gf K mg "reduced" s_reduced ["rows"]) (T_Space : Tc K mg "Space" ["_width", "_basis"]) (E_NoWidth : Xc0 K mg "NoWidth") (E_NoVectors : Xc1 P w K mg base "NoVectors" "index") (E_BoardError : Xc0 K mg "BoardError") (X_NoVectors : Xh K E_NoVectors.C "index") (Y_NoWidth : PySem.W.exmOne K (.ref E_NoWidth.C) (.ref E_NoWidth.C) = some true) (N_NoVectors_NoWidth : PySem.W.exmOne K (.ref E_NoVectors.C) (.ref E_NoWidth.C) = some false) (I_NoWidth : XisC K E_NoWidth.C) (I_NoVectors : XisC K E_NoVectors.C) (Kt_NoWidth_BoardError : PySem.W.kitOne K (.ref E_NoWidth.C) (.ref E_BoardError.C) = some true) (Kt_NoWidth_NoVectors : PySem.W.kitOne K (.ref E_NoWidth.C) (.ref E_NoVectors.C) = some false) (Kt_NoVectors_BoardError : PySem.W.kitOne K (.ref E_NoVectors.C) (.ref E_BoardError.C) = some true) (G_Space_init : Gm K T_Space.C "__init__" "Space.__init__" s_Space_init ["self", "width", "vectors"]) (G_Space_len : Gm K T_Space.C "__len__" "Space.__len__" s_Space_len ["self"]) (G_Space_eq : Gm K T_Space.C "__eq__" "Space.__eq__" s_Space_eq ["self", "other"]) (G_Space_width : Gm K T_Space.C "width" "Space.width" s_Space_width ["self"]) (G_Space_basis : Gm K T_Space.C "basis" "Space.basis" s_Space_basis ["self"]) (G_L_hand : Gf K mg "_law_hand" s_L_hand ["_law_script"]) (G_L_draw : Gf K mg "_law_draw" s_L_draw ["_law_hand_here", "_law_many"]) (G_L_number : Gf K mg "_law_number" s_L_number ["_law_hand_here"]) (G_L_vector : Gf K mg "_law_vector" s_L_vector ["_law_hand_here", "_law_width"]) (G_L_mixed : Gf K mg "_law_mixed" s_L_mixed ["_law_hand_here", "_law_width", "_law_vectors_here"]) (G_L_vectors : Gf K mg "_law_vectors" s_L_vectors ["_law_hand_here", "_law_width", "_law_many"]) (G_L_pivot : Gf K mg "_law_pivot" s_L_pivot ["_law_row"]) (G_L_divisor : Gf K mg "_law_divisor" s_L_divisor ["_law_one", "_law_other"]) (G_L_cut : Gf K mg "_law_cut" s_L_cut ["_law_row"]) (G_L_rest : Gf K mg "_law_rest" s_L_rest ["_law_basis", "_law_row"]) (G_L_extended : Gf K mg "_law_extended" s_L_extended ["_law_basis", "_law_row"]) (G_L_reduced : Gf K mg "_law_reduced" s_L_reduced ["_law_rows"]) (G_L_is_integer : Gf K mg "_law_is_integer" s_L_is_integer ["_law_thing"]) (G_L_is_vector : Gf K mg "_law_is_vector" s_L_is_vector ["_law_thing", "_law_width"]) (G_L_are_vectors : Gf K mg "_law_are_vectors" s_L_are_vectors ["_law_thing", "_law_width"]) (G_L_is_space : Gf K mg "_law_is_space" s_L_is_space ["_law_space", "_law_width", "_law_basis"]) (G_L_made : Gf K mg "_law_made" s_L_made ["_law_width", "_law_vectors_here"]) (G_L_odd_vector : Gf K mg "_law_odd_vector" s_L_odd_vector ["_law_hand_here", "_law_vector_here"]) (G_law : Gf K mg "law" s_law ["_law_script"]) : FnOk P w K mg base CX0 60 G_law.f G_law.fd ["_law_script"] (spS K specLaw) := by
  have H_L_draw : FnOk P w K mg base CX0 1 G_L_draw.f G_L_draw.fd ["_law_hand_here", "_law_many"] (spP K spec_L_draw) := ok_L_draw M G_L_draw
  have H_L_hand := ok_L_hand (P := P) (w := w) (base := base) M G_L_hand
  have H_L_vector := ok_L_vector (P := P) (w := w) (base := base) M G_L_draw G_L_number G_L_vector
  have H_L_vectors := ok_L_vectors (P := P) (w := w) (base := base) M G_L_draw G_L_number G_L_vector G_L_mixed G_L_vectors
  have H_L_reduced := ok_L_reduced (P := P) (w := w) (base := base) M hSeer hTree G_L_pivot G_L_divisor G_L_cut G_L_rest G_L_extended G_L_reduced
  have H_L_is_space := ok_L_is_space (P := P) (w := w) (base := base) M hSeer hTree hWidest T_Space G_Space_len G_Space_width G_Space_basis G_L_is_integer G_L_is_vector G_L_are_vectors G_L_is_space
  have H_L_made := ok_L_made (P := P) (w := w) (base := base) M hSeer hTree hWidest G_is_integer G_is_vector G_pivot G_common_divisor G_primitive G_cleared G_remainder G_extended G_reduced T_Space E_NoWidth E_NoVectors E_BoardError X_NoVectors Y_NoWidth N_NoVectors_NoWidth I_NoWidth I_NoVectors Kt_NoWidth_BoardError Kt_NoWidth_NoVectors Kt_NoVectors_BoardError G_Space_init G_L_made
  have H_L_odd_vector := ok_L_odd_vector (P := P) (w := w) (base := base) M hSeer hTree hWidest G_L_draw G_L_odd_vector
  have H_Space_init := ok_Space_init (P := P) (w := w) (base := base) M hSeer hTree hWidest G_is_integer G_is_vector G_pivot G_common_divisor G_primitive G_cleared G_remainder G_extended G_reduced T_Space G_Space_init
  have H_Space_eq := ok_Space_eq (P := P) (w := w) (base := base) M T_Space G_Space_eq
  have H_Space_initB := ok_Space_initB (P := P) (w := w) (base := base) M hSeer hTree hWidest G_is_integer G_is_vector G_pivot G_common_divisor G_primitive G_cleared G_remainder G_extended G_reduced T_Space G_Space_init
  have H_Space_basisB := ok_Space_basisB (P := P) (w := w) (base := base) M hSeer hTree hWidest T_Space G_Space_basis
  refine fn_okS G_law.F sc_law rfl fun cdv A outer s0 H E hr => ⟨_, _, (dss_initB 21 (dss_cons (ds_setO (i := 1) sc_law.nd (df_callScr K 0 H_L_hand (hr.mono (by decide)) G_L_hand.g G_L_hand.F.kp G_L_hand.b))
      (dss_cons (ds_set (i := 2) sc_law.nd (de_callP K 1 H_L_draw (hr.mono (by decide)) G_L_draw.g G_L_draw.F.kp G_L_draw.b (da_cons de_int da_nil)))
      (dss_cons (ds_set (i := 3) sc_law.nd (de_ix K (DF.v (df_lst (da_cons (de_add de_int (de_callP K 1 H_L_draw (hr.mono (by decide)) G_L_draw.g G_L_draw.F.kp G_L_draw.b (da_cons de_int da_nil))) (da_cons (de_add de_int (de_callP K 1 H_L_draw (hr.mono (by decide)) G_L_draw.g G_L_draw.F.kp G_L_draw.b (da_cons de_int da_nil))) da_nil)))) (de_callTy cs_int call_int1 M.int (by decide +kernel) (da_cons (de_eq (de_callP K 1 H_L_draw (hr.mono (by decide)) G_L_draw.g G_L_draw.F.kp G_L_draw.b (da_cons de_int da_nil)) de_int) da_nil))))
      (dss_cons (ds_setO (i := 4) sc_law.nd (df_callP K 1 H_L_vectors (hr.mono (by decide)) G_L_vectors.g G_L_vectors.F.kp G_L_vectors.b (da_cons (de_var 3) (da_cons (de_callP K 1 H_L_draw (hr.mono (by decide)) G_L_draw.g G_L_draw.F.kp G_L_draw.b (da_cons de_int da_nil)) da_nil))))
      (dss_cons (ds_if (dt_eq (de_var 2) de_int) (dss_frz 4 (dss_cons (ds_set (i := 5) sc_law.nd (de_ix K (DF.v (df_lst (da_cons de_int (da_cons de_int (da_cons (de_neg de_int) (da_cons de_non (da_cons de_bl (da_cons de_str (da_cons (de_tup (da_cons de_int da_nil)) (da_cons (de_pow de_int de_int) (da_cons (DF.v (df_lst (da_cons de_int da_nil))) da_nil))))))))))) (de_callP K 1 H_L_draw (hr.mono (by decide)) G_L_draw.g G_L_draw.F.kp G_L_draw.b (da_cons de_int da_nil))))
      (dss_one (ds_ret (de_eqD K hr (de_call K H_L_made (hr.mono (by decide)) G_L_made.g G_L_made.F.kp G_L_made.b (da_cons (de_var 5) (da_cons (de_ix K (DF.v (df_lst (da_cons (de_var 4) (da_cons de_non da_nil)))) (de_callP K 1 H_L_draw (hr.mono (by decide)) G_L_draw.g G_L_draw.F.kp G_L_draw.b (da_cons de_int da_nil))) da_nil))) (de_tup (da_cons de_non (da_cons (DF.v (df_lst (da_cons de_str (da_cons de_bl da_nil)))) da_nil)))))))) dss_nil)
      (dss_cons (ds_if (dt_eq (de_var 2) de_int) (dss_frz 4 (dss_cons (ds_set (i := 5) sc_law.nd (de_ix K (DF.v (df_lst (da_cons de_non (da_cons de_int (da_cons de_str (da_cons (de_tupleOf K M.tuple (de_var 4)) (da_cons de_emp (da_cons de_bl da_nil)))))))) (de_callP K 1 H_L_draw (hr.mono (by decide)) G_L_draw.g G_L_draw.F.kp G_L_draw.b (da_cons de_int da_nil))))
      (dss_one (ds_ret (de_eqD K hr (de_call K H_L_made (hr.mono (by decide)) G_L_made.g G_L_made.F.kp G_L_made.b (da_cons (de_var 3) (da_cons (de_var 5) da_nil))) (de_tup (da_cons de_non (da_cons (DF.v (df_lst (da_cons (de_neg de_int) (da_cons de_bl da_nil)))) da_nil)))))))) dss_nil)
      (dss_cut (ds_if (DW.dt (dw_and (dt_le (de_var 2) de_int) (dw_and1 (dt_gt (de_lenO K 4 M.len) de_int)))) (dss_cons (ds_set (i := 6) sc_law.nd (de_callP K 1 H_L_draw (hr.mono (by decide)) G_L_draw.g G_L_draw.F.kp G_L_draw.b (da_cons (de_lenO K 4 M.len) da_nil)))
      (dss_cons (ds_set (i := 7) sc_law.nd (de_add (de_var 6) (de_callP K 1 H_L_draw (hr.mono (by decide)) G_L_draw.g G_L_draw.F.kp G_L_draw.b (da_cons (de_sub (de_lenO K 4 M.len) (de_var 6)) da_nil))))
      (dss_cons (ds_for PassesOwn.never rfl (di_list K (DF.v (df_lst (da_cons (de_var 7) (da_cons (de_var 6) da_nil))))) (dg_name (i := 8) sc_law.nd) (dss_one (ds_sub 4 (de_callP K 1 H_L_odd_vector (hr.mono (by decide)) G_L_odd_vector.g G_L_odd_vector.F.kp G_L_odd_vector.b (da_cons (de_callP K 1 H_L_vector (hr.mono (by decide)) G_L_vector.g G_L_vector.F.kp G_L_vector.b (da_cons (de_var 3) da_nil)) da_nil)) (de_var 8))))
      (dss_frz 4 (dss_one (ds_ret (de_eqD K hr (de_call K H_L_made (hr.mono (by decide)) G_L_made.g G_L_made.F.kp G_L_made.b (da_cons (de_var 3) (da_cons (de_var 4) da_nil))) (de_tup (da_cons de_non (da_cons (DF.v (df_lst (da_cons (de_var 6) (da_cons de_bl da_nil)))) da_nil)))))))))) dss_nil)
      (dss_frz 4 (dss_cons (ds_set (i := 9) sc_law.nd (de_call K H_L_reduced (hr.mono (by decide)) G_L_reduced.g G_L_reduced.F.kp G_L_reduced.b (da_cons (de_var 4) da_nil)))
      (dss_any 10 (dss_cons (ds_setLcB 21 (i := 11) (own := [("_law_vector_here", 10)]) rfl sc_law.nd (di_list K (de_var 4)) (blkOk_by (by rfl)) (fun _ _ _ _ _ => (dg_name (i := 10) sc_law.nd)) (gin_name (by decide)) gmo_name (fun _ _ _ _ _ => dts_nil) (fun _ _ _ _ _ => (de_newB 21 (df_list K M.list (de_var 10)))))
      (dss_cons (ds_set (i := 12) sc_law.nd (de_frzO 21 (de_makeB K 21 (T_Space.mkOf G_Space_init) H_Space_initB (hr.mono (by decide)) T_Space.g G_Space_init.b (da_cons (de_var 3) (da_cons (de_var 11) da_nil)))))
      (dss_cons (ds_forB K 21 PassesOwn.never rfl (de_var 11) (dg_name (i := 10) sc_law.nd) (dss_one (ds_appB 21 (fun h g => pe_bm PySem.F.plainAttrs_list PySem.F.slot_list_append PySem.F.type_list_append mt_append h (pa_cons g pa_nil)) (de_var 10) de_int)))
      (dss_cons (ds_clrB 21 (fun h => pe_bm0 PySem.F.plainAttrs_list PySem.F.slot_list_clear PySem.F.type_list_clear mt_clear h) (de_var 11))
      (dss_cons (ds_for PassesOwn.never rfl (di_range1 M.range (da_cons de_int da_nil)) (dg_name (i := 13) sc_law.nd) (dss_cons (ds_if (dt_not (dt_tr K (de_call K H_L_is_space (hr.mono (by decide)) G_L_is_space.g G_L_is_space.F.kp G_L_is_space.b (da_cons (de_var 12) (da_cons (de_var 3) (da_cons (de_var 9) da_nil)))))) (dss_one (ds_ret de_bl)) dss_nil)
      (dss_cons (ds_set (i := 14) sc_law.nd (de_methV0 K 21 (de_var 12) T_Space.own.cl G_Space_basis.meth H_Space_basisB (hr.mono (by decide)) G_Space_basis.b))
      (dss_cons (ds_forB K 21 PassesOwn.never rfl (de_var 14) (dg_name (i := 15) sc_law.nd) (dss_one (ds_appB 21 (fun h g => pe_bm PySem.F.plainAttrs_list PySem.F.slot_list_append PySem.F.type_list_append mt_append h (pa_cons g pa_nil)) (de_var 15) de_int)))
      (dss_one (ds_appB 21 (fun h g => pe_bm PySem.F.plainAttrs_list PySem.F.slot_list_append PySem.F.type_list_append mt_append h (pa_cons g pa_nil)) (de_var 14) (de_newB 21 (df_lst da_nil))))))))
      (dss_cons (ds_setO (i := 16) sc_law.nd (df_lst da_nil))
      (dss_cons (ds_for PassesOwn.never rfl (di_list K (de_var 4)) (dg_name (i := 10) sc_law.nd) (dss_cons (ds_set (i := 17) sc_law.nd (de_ix K (DF.v (df_lst (da_cons de_int (da_cons (de_neg de_int) (da_cons de_int da_nil))))) (de_callP K 1 H_L_draw (hr.mono (by decide)) G_L_draw.g G_L_draw.F.kp G_L_draw.b (da_cons de_int da_nil))))
      (dss_one (ds_ins K 16 (fun h0 h => pe_bm PySem.F.plainAttrs_list PySem.F.slot_list_insert PySem.F.type_list_insert mt_insert (pv 16) (pa_cons h0 (pa_cons h pa_nil))) (de_callP K 1 H_L_draw (hr.mono (by decide)) G_L_draw.g G_L_draw.F.kp G_L_draw.b (da_cons (de_add (de_lenO K 16 M.len) de_int) da_nil)) (DF.v (df_lc (own := [("_law_number_here", 19)]) rfl sc_law.nd (di_list K (de_var 10)) (blkOk_by (by rfl)) (fun _ _ _ _ _ => (dg_name (i := 19) sc_law.nd)) (gin_name (by decide)) gmo_name (fun _ _ _ _ _ => dts_nil) (fun _ _ _ _ _ => (de_mulK (de_var 17) (de_var 19)))))))))
      (dss_frz 16 (dss_any 10 (dss_cons (ds_setO (i := 16) sc_law.nd (df_cat (DF.v (df_cat (de_var 16) (DF.v (df_lc (own := [("_law_vector_here", 10)]) rfl sc_law.nd (di_list K (DF.v (df_sl K (de_var 4) do_none (do_some de_int)))) (blkOk_by (by rfl)) (fun _ _ _ _ _ => (dg_name (i := 10) sc_law.nd)) (gin_name (by decide)) gmo_name (fun _ _ _ _ _ => dts_nil) (fun _ _ _ _ _ => (DF.v (df_list K M.list (de_var 10)))))))) (DF.v (df_lst (da_cons (DF.v (df_lc (own := [("_law_k", 20)]) rfl sc_law.nd (di_range1 M.range (da_cons (de_var 3) da_nil)) (blkOk_by (by rfl)) (fun _ _ _ _ _ => (dg_name (i := 20) sc_law.nd)) (gin_name (by decide)) gmo_name (fun _ _ _ _ _ => dts_nil) (fun _ _ _ _ _ => de_int))) da_nil)))))
      (dss_frz 16 (dss_cons (ds_set (i := 18) sc_law.nd (DN.v (dn_make K (T_Space.mkOf G_Space_init) H_Space_init (hr.mono (by decide)) T_Space.g G_Space_init.b (da_cons (de_var 3) (da_cons (de_var 16) da_nil)))))
      (dss_one (ds_ret (de_and (de_call K H_L_is_space (hr.mono (by decide)) G_L_is_space.g G_L_is_space.F.kp G_L_is_space.b (da_cons (de_var 18) (da_cons (de_var 3) (da_cons (de_var 9) da_nil)))) (de_one (de_eqO K H_Space_eq (hr.mono (by decide)) (G_Space_eq.at) (G_Space_eq.fn) (G_Space_eq.b) (de_var 18) (de_var 12))))))))))))))))))))))))))))), ?_⟩
  rintro ns Q ⟨h63, q⟩
  refine i_initB ?_
  walk_at "wb"
  refine ⟨h63, fun pl hp => ?_⟩
  walk_at "wb"
  refine draw_i (many := 6) hp (.of (by omega)) fun kd pl kd0 kd1 hp => ?_
  walk_at "wb"
  refine draw_i (many := 9) hp (.of (by omega)) fun wa pl wa0 wa1 hp => ?_
  walk_at "wb"
  refine draw_i (many := 49) hp (.of (by omega)) fun wb pl wb0 wb1 hp => ?_
  walk_at "wb"
  refine draw_i (many := 6) hp (.of (by omega)) fun kw pl kw0 kw1 hp => ?_
  walk_at "wb"
  obtain ⟨n, hn1, hn49, en⟩ : ∃ n : Nat, 1 ≤ n ∧ n ≤ 49 ∧ atI [D.int (1 + wa), D.int (1 + wb)] (if decide (kw = 0) = true then 1 else 0) = some (.int n) := by
    by_cases e : kw = 0
    · rw [if_pos (decide_eq_true e)]
      exact ⟨(1 + wb).toNat, by omega, by omega, by rw [show (((1 + wb).toNat : Nat) : Int) = 1 + wb by omega]; rfl⟩
    · rw [if_neg (by simp [e])]
      exact ⟨(1 + wa).toNat, by omega, by omega, by rw [show (((1 + wa).toNat : Nat) : Int) = 1 + wa by omega]; rfl⟩
  refine i_ixL en ?_
  clear en wa0 wa1 wb0 wb1 kw0 kw1
  walk_at "wb"
  refine draw_i (many := 7) hp (.of (by omega)) fun m0 pl m00 m01 hp => ?_
  obtain ⟨m, rfl⟩ : ∃ m : Nat, m0 = (m : Int) := ⟨m0.toNat, by omega⟩
  walk_at "wb"
  refine vecs40_i hp (by omega) (by omega) fun rows pl hrl hrw hrb hp => ?_
  walk_at "wb"
  refine i_ite (fun h => ?_) (fun h0 => ?_)
  · walk_at "wb"
    refine draw_i (many := 9) hp (.of (by omega)) fun k2 pl k20 k21 hp => ?_
    obtain ⟨x, hx, wx, ox⟩ := oddw_at (K := K) k20 k21
    walk_at "wb"
    refine i_ixL hx ?_
    walk_at "wb"
    refine draw_i (many := 2) hp (.of (by omega)) fun k3 pl k30 k31 hp => ?_
    obtain ⟨y, hy⟩ : ∃ y, atI [D.lst (rowsD rows), D.non] k3 = some y := by
      have : k3 = 0 ∨ k3 = 1 := by omega
      rcases this with rfl | rfl
      · exact ⟨_, rfl⟩
      · exact ⟨_, rfl⟩
    walk_at "wb"
    refine i_ixL hy ?_
    walk_at "wb"
    refine ⟨(x, y, none), rfl, ⟨ox, .inl ⟨wx, rfl, rfl⟩⟩, fun v hv => ?_⟩
    subst hv
    walk_at "wb"
    refine made_i (o := none) ?_
    walk_at "wb"
  walk_at "wb"
  refine i_ite (fun h => ?_) (fun h1 => ?_)
  · walk_at "wb"
    refine draw_i (many := 6) hp (.of (by omega)) fun k2 pl k20 k21 hp => ?_
    obtain ⟨x, hx, lx, ox⟩ := oddl_at (K := K) (ds := rowsD rows) k20 k21
    walk_at "wb"
    refine i_ixL hx ?_
    walk_at "wb"
    refine ⟨(.int n, x, some (-1)), rfl, ⟨trivial, .inr ⟨n, rfl, hn1, hn49, .inl ⟨lx, ox, rfl, rfl⟩⟩⟩, fun v hv => ?_⟩
    subst hv
    walk_at "wb"
    refine made_i (o := some (-1)) ?_
    walk_at "wb"
  have hvl : (rowsD rows).length = m := (List.length_map ..).trans hrl
  walk_at "wb"
  refine ⟨fun γ => ∃ pl, PoolP pl ∧ γ = [.scr ns, .own false pl, .val (.int kd), .val (.int n), .own false (rowsD rows), .any, .any, .any, .any, .any, .any, .any, .any, .any, .any, .any, .any, .any, .any, .any, .any, .hp false (fun _ => none)], ?_, ?_⟩
  · walk_at "wb"
    refine i_ite (fun h3 => ?_) (fun h3 => ?_)
    · walk_at "wb"
      rw [hvl]
      refine i_ite (fun h4 => ?_) (fun h4 => ?_)
      · walk_at "wb"
        rw [hvl]
        refine draw_i (many := (m : Int)) hp (.of (by omega)) fun f0 pl f00 f01 hp => ?_
        obtain ⟨f, rfl⟩ : ∃ f : Nat, f0 = (f : Int) := ⟨f0.toNat, by omega⟩
        walk_at "wb"
        rw [hvl]
        refine draw_i (many := (m : Int) - (f : Int)) hp (.of (by omega)) fun s0 pl s00 s01 hp => ?_
        obtain ⟨s, rfl⟩ : ∃ s : Nat, s0 = (s : Int) := ⟨s0.toNat, by omega⟩
        walk_at "wb"
        refine ⟨fun i γ => i ≤ 2 ∧ ∃ (pl : List D) (vs : List D) (s8 : Sl), PoolP pl ∧ vs.length = m ∧ (∀ j, j < f → isVec n (vs.getD j .non) = true) ∧ (∀ j, j < m → okV K (vs.getD j .non)) ∧ (i = 2 → isVec n (vs.getD f .non) = false) ∧ γ = [.scr ns, .own false pl, .val (.int kd), .val (.int n), .own false vs, .any, .val (.int f), .val (.int (f + s)), s8, .any, .any, .any, .any, .any, .any, .any, .any, .any, .any, .any, .any, .hp false (fun _ => none)], ⟨by omega, pl, _, _, hp, hvl, fun j hj => ?_, fun j hj => ?_, (fun z => by cases z), rfl⟩, ?_, ?_⟩
        · rw [rowsD_getD (by omega)]
          exact isVec_ints (hrw _ (rowAt_mem (by omega)))
        · rw [rowsD_getD (by omega)]
          have hl := hrw _ (rowAt_mem (i := j) (B := rows) (by omega))
          exact okV_ints (by omega)
        · rintro i d γ hd ⟨hi, pl, vs, s8, hp, hvs, hgood, hok, hbad, rfl⟩
          obtain ⟨at_, rfl, hat, hat2, hat3⟩ : ∃ at_ : Nat, d = .int (at_ : Nat) ∧ at_ < m ∧ f ≤ at_ ∧ (i = 1 → at_ = f) := by
            match i, hd with
            | 0, hd => cases hd; exact ⟨f + s, by rw [Int.natCast_add], by omega, by omega, fun z => by cases z⟩
            | 1, hd => cases hd; exact ⟨f, rfl, by omega, by omega, fun _ => rfl⟩
          walk_at "wb"
          refine vec40_i hp (by omega) fun v pl hv bv hp => ?_
          walk_at "wb"
          refine ⟨hp, v, rfl, ⟨by omega, by omega⟩, fun r pl hr hp => ?_⟩
          obtain ⟨d, rfl, nd, od⟩ := hr
          rw [hv] at nd
          walk_at "wb"
          refine ⟨_, _, _, at_, rfl, rfl, ixN_n (by omega), fun z => (by cases z), ?_⟩
          refine ⟨?_, pl, _, _, hp, (List.length_set ..).trans hvs, fun j hj => ?_, fun j hj => ?_, fun z => ?_, rfl⟩
          · match i, hd with
            | 0, hd => omega
            | 1, hd => omega
          · rw [getD_set_ne (by omega)]; exact hgood j hj
          · by_cases e : j = at_
            · rw [e, getD_set_self (by omega)]; exact od
            · rw [getD_set_ne (fun z => e z.symm)]; exact hok j hj
          · rw [hat3 (by omega)] at *
            rw [getD_set_self (by omega)]
            exact nd
        · rintro γ ⟨_, pl, vs, s8, hp, hvs, hgood, hok, hbad, rfl⟩
          walk_at "wb"
          refine ⟨(.int n, .lst vs, some (f : Int)), rfl, ⟨trivial, .inr ⟨n, rfl, hn1, hn49, .inr ⟨vs, f, rfl, by omega, by omega, hgood, hbad rfl, fun j hj => hok j (by omega), rfl, rfl⟩⟩⟩, fun v hv => ?_⟩
          subst hv
          walk_at "wb"
          refine made_i (o := some (f : Int)) ?_
          walk_at "wb"
      · walk_at "wb"
        exact ⟨pl, hp, rfl⟩
    · walk_at "wb"
      exact ⟨pl, hp, rfl⟩
  rintro γ ⟨pl, hp, rfl⟩
  walk_at "wb"
  have pre : PreR n rows 181 := .ofd 6 hn49 hrw (hrb.le (by omega)) (.inr (by omega)) (by decide)
  refine lredF_i pre (by omega) fun v hv => ?_
  simp only [hv]
  walk_at "wb"
  refine ⟨by rw [List.length_map]; have := sizeLine_eq; omega, anyAt_ok rfl, fun i acc γ => ∃ (as : List Addr) (L' : Bxs), acc = as.map .ref ∧ as.length = i ∧ (∀ j p, as[j]? = some p → L' p = some (.lst (intL (rowAt rows j)))) ∧ γ = [.scr ns, .own false pl, .val (.int kd), .val (.int n), .val (.lst (rowsD rows)), .any, .any, .any, .any, .val (.lst (rowsD (canB n rows))), .any, .any, .any, .any, .any, .any, .any, .any, .any, .any, .any, .hp false L'], ⟨[], _, rfl, rfl, (fun j p h => by cases h), rfl⟩, ?_, ?_⟩
  · rintro i acc γ d hd ⟨as, L', rfl, hl, h1, rfl⟩
    obtain ⟨r, hr, rfl, hi⟩ := rowsD_inv hd
    have er : r = rowAt rows i := Option.some.inj (hr.symm.trans (rowAt_get hi))
    refine ⟨anyAt_ok rfl, ?_⟩
    walk_at "wb"
    intro p' hp'
    subst er
    refine ⟨as ++ [p'], _, by rw [List.map_append]; rfl, by rw [List.length_append, hl]; rfl, fun j p h => ?_, rfl⟩
    rcases Nat.lt_or_ge j as.length with z | z
    · rw [List.getElem?_append_left z] at h
      have e := h1 j p h
      exact (updB_ne fun y => by rw [y, hp'] at e; cases e).trans e
    · rw [List.getElem?_append_right z] at h
      have ej : j - as.length = 0 := by
        cases eq : j - as.length with
        | zero => rfl
        | succ m => rw [eq] at h; cases h
      rw [ej] at h
      cases h
      obtain rfl : j = i := by omega
      exact updB_same
  rintro acc γ ⟨as, L', rfl, hl, h1, rfl⟩
  refine ⟨anyAt_ok rfl, ?_⟩
  walk_at "wb"
  intro q0 hq0
  have hl : as.length = rows.length := hl.trans (List.length_map ..)
  have nq : ∀ j p, as[j]? = some p → p ≠ q0 := fun j p h z => by
    have e := h1 j p h
    rw [z, hq0] at e
    cases e
  walk_at "wb"
  intro p hp0
  obtain ⟨npq, hp0'⟩ := updB_none hp0
  have np : ∀ j x, as[j]? = some x → x ≠ p := fun j x h z => by
    have e := h1 j x h
    rw [z, hp0'] at e
    cases e
  refine ⟨(n, rows, 181, p, q0), rfl, ⟨hn1, pre, by show rows.length ≤ 100000; omega, ⟨as, (updB_ne npq.symm).trans updB_same, hl, fun j x h => (updB_ne (np j x h)).trans ((updB_ne (nq j x h)).trans (h1 j x h))⟩, updB_same⟩, fun d L2 z => ?_⟩
  obtain ⟨rfl, B, red, e1, e2⟩ := z
  obtain rfl : B = canB n rows := canB_eq red hrw
  refine ⟨rfl, ?_⟩
  walk_at "wb"
  refine ⟨_, _, _, _, rfl, rfl, e1, ?_⟩
  walk_at "wb"
  have g0 : delB L2 p q0 = some (.lst (as.map D.ref)) := (delB_ne npq.symm).trans ((e2 q0 npq.symm).trans ((updB_ne npq.symm).trans updB_same))
  have g1 : ∀ x ∈ as, ∃ es, delB L2 p x = some (.lst es) ∧ es.length ≤ 49 := fun x hx => by
    obtain ⟨j, hj, e⟩ := List.mem_iff_getElem.mp hx
    have hx : as[j]? = some x := by rw [List.getElem?_eq_getElem hj, e]
    refine ⟨_, (delB_ne (np j x hx)).trans ((e2 x (np j x hx)).trans ((updB_ne (np j x hx)).trans ((updB_ne (nq j x hx)).trans (h1 j x hx)))), ?_⟩
    rw [List.length_map, hrw _ (rowAt_mem (by omega))]
    omega
  have nm : q0 ∉ as := fun h => by
    obtain ⟨j, hj, e⟩ := List.mem_iff_getElem.mp h
    exact nq j q0 (by rw [List.getElem?_eq_getElem hj, e]) rfl
  generalize delB L2 p = L4 at g0 g1 ⊢
  clear e1 e2 hp0 hp0' np npq nq h1 hq0
  refine ⟨q0, _, rfl, i_onBox rfl g0, fun i γ => ∃ (L3 : Bxs) (s10 : Sl), L3 q0 = some (.lst (as.map D.ref)) ∧ (∀ x ∈ as, ∃ es, L3 x = some (.lst es) ∧ es.length ≤ 49 + i) ∧ γ = [.scr ns, .own false pl, .val (.int kd), .val (.int n), .val (.lst (rowsD rows)), .any, .any, .any, .any, .val (.lst (rowsD (canB n rows))), s10, .val (.ref q0), .val (.obj T_Space.C (spaceF n (canB n rows))), .any, .any, .any, .any, .any, .any, .any, .any, .hp false L3], ⟨_, _, g0, g1, rfl⟩, ?_, ?_⟩
  · rintro i d γ hd ⟨L3, s10, k0, k1, rfl⟩
    obtain ⟨x, hx, rfl⟩ := refs_inv hd
    have hi : i < rows.length := by (obtain ⟨z, _⟩ := List.getElem?_eq_some_iff.mp hx; omega)
    have hxm := List.mem_of_getElem? hx
    obtain ⟨es, ke, kl⟩ := k1 x hxm
    refine ⟨i_onBox rfl k0, ?_⟩
    walk_at "wb"
    have hsz := sizeLine_eq
    refine ⟨_, _, _, _, rfl, rfl, ke, by omega, _, _, (updB_ne fun z => nm (by rw [z]; exact hxm)).trans k0, fun y hy => ?_, rfl⟩
    by_cases e : y = x
    · rw [e]; exact ⟨_, updB_same, by rw [List.length_append, List.length_singleton]; omega⟩
    · obtain ⟨es', a, b⟩ := k1 y hy
      exact ⟨es', (updB_ne e).trans a, by omega⟩
  rintro γ ⟨L3, s10, k0, k1, rfl⟩
  refine ⟨i_onBox rfl k0, ?_⟩
  walk_at "wb"
  refine ⟨_, _, _, _, rfl, rfl, k0, ?_⟩
  generalize updB L3 q0 (.lst []) = L5
  clear k0 k1 g0 g1
  have ech := (canB_spec hrw).1
  have hB := ech.le
  walk_at "wb"
  refine ⟨fun i γ => ∃ (L5 : Bxs) (s13 s14 s15 : Sl), γ = [.scr ns, .own false pl, .val (.int kd), .val (.int n), .val (.lst (rowsD rows)), .any, .any, .any, .any, .val (.lst (rowsD (canB n rows))), s10, .val (.ref q0), .val (.obj T_Space.C (spaceF n (canB n rows))), s13, s14, s15, .any, .any, .any, .any, .any, .hp false L5], ⟨_, _, _, _, rfl⟩, ?_, ?_⟩
  · rintro i d γ hd ⟨L5, s13, s14, s15, rfl⟩
    obtain ⟨rfl, hi⟩ := rng0_inv hd
    walk_at "wb"
    refine ⟨(n, canB n rows), rfl, ⟨ech, hn49⟩, fun v hv => ?_⟩
    subst hv
    walk_at "wb"
    refine ⟨(n, canB n rows), rfl, by show (canB n rows).length ≤ 100000; omega, fun d L6 z => ?_⟩
    obtain ⟨q1, ps, rfl, hR, hq, hn, _, _⟩ := z
    walk_at "wb"
    obtain ⟨ps', z1, z2, z3⟩ := hR
    replace z2 : ps'.length = (canB n rows).length := z2
    obtain rfl : ps' = ps := refs_inj (Bx.lst.inj (Option.some.inj (z1.symm.trans hq)))
    have g1 : ∀ x ∈ ps', ∃ es, L6 x = some (.lst es) ∧ es.length ≤ 49 := fun x hx => by
      obtain ⟨j, hj, e⟩ := List.mem_iff_getElem.mp hx
      have hx : ps'[j]? = some x := by rw [List.getElem?_eq_getElem hj, e]
      refine ⟨_, z3 j x hx, ?_⟩
      rw [List.length_map, ech.len _ (rowAt_mem (by omega))]
      omega
    refine ⟨q1, _, rfl, i_onBox rfl z1, fun i2 γ => ∃ (L7 : Bxs) (s15 : Sl), L7 q1 = some (.lst (ps'.map D.ref)) ∧ (∀ x ∈ ps', ∃ es, L7 x = some (.lst es) ∧ es.length ≤ 49 + i2) ∧ γ = [.scr ns, .own false pl, .val (.int kd), .val (.int n), .val (.lst (rowsD rows)), .any, .any, .any, .any, .val (.lst (rowsD (canB n rows))), s10, .val (.ref q0), .val (.obj T_Space.C (spaceF n (canB n rows))), .val (.int i), .val (.ref q1), s15, .any, .any, .any, .any, .any, .hp false L7], ⟨_, _, z1, g1, rfl⟩, ?_, ?_⟩
    · rintro i2 d γ hd ⟨L7, s15, k0, k1, rfl⟩
      obtain ⟨x, hx, rfl⟩ := refs_inv hd
      have hi : i2 < ps'.length := by (obtain ⟨z, _⟩ := List.getElem?_eq_some_iff.mp hx; exact z)
      have hxm := List.mem_of_getElem? hx
      obtain ⟨es, ke, kl⟩ := k1 x hxm
      refine ⟨i_onBox rfl k0, ?_⟩
      walk_at "wb"
      have hsz := sizeLine_eq
      refine ⟨_, _, _, _, rfl, rfl, ke, by omega, _, _, (updB_ne fun z => hn (by rw [z]; exact hxm)).trans k0, fun y hy => ?_, rfl⟩
      by_cases e : y = x
      · rw [e]; exact ⟨_, updB_same, by rw [List.length_append, List.length_singleton]; omega⟩
      · obtain ⟨es', a, b⟩ := k1 y hy
        exact ⟨es', (updB_ne e).trans a, by omega⟩
    rintro γ ⟨L7, s15, k0, k1, rfl⟩
    refine ⟨i_onBox rfl k0, ?_⟩
    walk_at "wb"
    intro p3 hp3
    have hne : q1 ≠ p3 := fun z => by rw [z, hp3] at k0; cases k0
    refine ⟨_, _, _, _, rfl, rfl, (updB_ne hne).trans k0, ?_, _, _, _, _, rfl⟩
    rw [List.length_map]
    have hsz := sizeLine_eq
    omega
  rintro γ ⟨L5, s13, s14, s15, rfl⟩
  walk_at "wb"
  refine ⟨fun i γ => i ≤ rows.length ∧ ∃ (pl : List D) (O : List (List Int)) (s10 s17 : Sl), PoolP pl ∧ Oth n i rows O ∧ γ = [.scr ns, .own false pl, .val (.int kd), .val (.int n), .val (.lst (rowsD rows)), .any, .any, .any, .any, .val (.lst (rowsD (canB n rows))), s10, .val (.ref q0), .val (.obj T_Space.C (spaceF n (canB n rows))), s13, s14, s15, .own false (rowsD O), s17, .any, .any, .any, .hp false L5], ⟨Nat.zero_le _, pl, [], _, _, hp, .nil, rfl⟩, ?_, ?_⟩
  · rintro i d γ hd ⟨hi, pl, O, s10, s17, hp, ho, rfl⟩
    obtain ⟨r, hr, rfl, hi⟩ := rowsD_inv hd
    obtain rfl : r = rowAt rows i := Option.some.inj (hr.symm.trans (rowAt_get hi))
    walk_at "wb"
    refine draw_i (many := 3) hp (.of (by omega)) fun fk pl fk0 fk1 hp => ?_
    obtain ⟨f, hf, hf0, hf3⟩ : ∃ f : Int, atI [D.int 3, D.int (-1), D.int 2] fk = some (.int f) ∧ f ≠ 0 ∧ f.natAbs ≤ 3 := by
      have : fk = 0 ∨ fk = 1 ∨ fk = 2 := by omega
      rcases this with rfl | rfl | rfl
      · exact ⟨_, rfl, by decide, by decide⟩
      · exact ⟨_, rfl, by decide, by decide⟩
      · exact ⟨_, rfl, by decide, by decide⟩
    walk_at "wb"
    refine i_ixL hf ?_
    walk_at "wb"
    refine i_ins rfl ?_
    walk_at "wb"
    rw [List.length_map, ho.len]
    refine draw_i (many := (i : Int) + 1) hp (.of (by omega)) fun p0 pl p00 p01 hp => ?_
    obtain ⟨p, rfl⟩ : ∃ p : Nat, p0 = (p : Int) := ⟨p0.toNat, by omega⟩
    walk_at "wb"
    refine i_mapN (n := n) (fun j => .int (ent (rowAt rows i) j)) (fun j => .int (f * ent (rowAt rows i) j)) (intL_ent (hrw _ (rowAt_mem hi))) (by omega) rfl (fun j hj R hR => ?_) ?_
    · walk_at "wb"
      exact hR _ rfl
    walk_at "wb"
    have hol : (rowsD O).length = i := (List.length_map ..).trans ho.len
    refine ⟨_, _, _, rfl, rfl, ?_, ⟨by omega, ?_⟩, fun z => (by cases z), by omega, pl, _, .val (.lst (intL (rowAt rows i))), .val (.int f), hp, ho.step (p := p) hi hrw (hrb.le (by omega)) hf0 hf3, ?_⟩
    · have hsz := sizeLine_eq
      omega
    · have e : (2 : Int) ^ 63 = 9223372036854775808 := by decide
      omega
    · have e : ((rowsD O).take (p : Int).toNat ++ [D.lst (dLs n fun j => .int (f * ent (rowAt rows i) j))] ++ (rowsD O).drop (p : Int).toNat) = rowsD (O.take p ++ mkL n (fun j => f * ent (rowAt rows i) j) :: O.drop p) := by
        rw [dLs_mkL, Int.toNat_natCast, rowsD, rowsD, ← List.map_take, ← List.map_drop, List.map_append, List.map_cons, List.append_assoc]
        rfl
      rw [e]
      rfl
  rintro γ ⟨_, pl, O, s10', s17, hp, ho, rfl⟩
  rw [show (rowsD rows).length = m from hvl] at ho
  have ho2 := ho.len
  walk_at "wb"
  rw [show cutL (rowsD rows) none (some 2) = rowsD (rows.take 2) from cut_takeR rows 2]
  have ht : (rows.take 2).length ≤ 2 := by rw [List.length_take]; omega
  refine i_mapN (n := (rows.take 2).length) (fun i => .lst (intL (rowAt (rows.take 2) i))) (fun i => .lst (intL (rowAt (rows.take 2) i))) (rowsD_dLs _) (by omega) rfl (fun j hj R hR => ?_) ?_
  · walk_at "wb"
    exact hR _ rfl
  rw [← rowsD_dLs]
  walk_at "wb"
  have a1 : (rowsD O).length = O.length := List.length_map ..
  have a2 : (rowsD (rows.take 2)).length = (rows.take 2).length := List.length_map ..
  refine i_mapN (n := n) _ (fun _ => .int 0) (dLs_rng n) (by omega) rfl (fun i hi R hR => ?_) ?_
  · walk_at "wb"
    exact hR _ rfl
  rw [show (dLs n fun _ => D.int 0) = intL (mkL n fun _ => 0) from dLs_mkL]
  walk_at "wb"
  try refine i_cat2 (by rw [List.length_append, a1, a2]; show _ + 1 ≤ _; omega) ?_
  have ea : rowsD O ++ rowsD (rows.take 2) ++ [D.lst (intL (mkL n fun _ => 0))] = rowsD (O ++ rows.take 2 ++ [mkL n fun _ => 0]) := by
    rw [rowsD_append, rowsD_append]; rfl
  rw [ea]
  walk_at "wb"
  have hO : rows.take m = rows := List.take_of_length_le (by omega)
  have osp := others_sp (n := n) ho.one (fun row hr => ho.two row (by rw [hO]; exact hr))
  have owid : ∀ r ∈ O ++ rows.take 2 ++ [mkL n fun _ => 0], r.length = n := fun r hr => by
    rcases List.mem_append.mp hr with z | z
    · rcases List.mem_append.mp z with z | z
      · exact ho.wid r z
      · exact hrw r (List.mem_of_mem_take z)
    · rw [List.mem_singleton.mp z]; exact mkL_len
  have obd : BdL 190 (O ++ rows.take 2 ++ [mkL n fun _ => 0]) := fun r hr => by
    rcases List.mem_append.mp hr with z | z
    · rcases List.mem_append.mp z with z | z
      · exact ho.bd r z
      · exact (hrb.le (by omega)) r (List.mem_of_mem_take z)
    · rw [List.mem_singleton.mp z]
      exact mkL_bd fun j hj => Nat.pow_pos (by decide)
  have olen : (O ++ rows.take 2 ++ [mkL n fun _ => 0]).length ≤ 9 := by
    rw [List.length_append, List.length_append]; show _ + 1 ≤ _; omega
  have opre : PreR n (O ++ rows.take 2 ++ [mkL n fun _ => 0]) 190 := .ofd 9 hn49 owid obd (.inr olen) (by decide)
  have ecan : canB n (O ++ rows.take 2 ++ [mkL n fun _ => 0]) = canB n rows := canB_same owid hrw osp
  generalize O ++ rows.take 2 ++ [mkL n fun _ => 0] = oth at owid opre olen ecan ⊢
  refine ⟨n, oth, 190, rfl, ⟨hn1, opre, by omega⟩, fun B red => ?_⟩
  obtain rfl : B = canB n rows := (canB_eq red owid).trans ecan
  walk_at "wb"
  refine ⟨(n, canB n rows), rfl, ⟨ech, hn49⟩, fun v hv => ?_⟩
  subst hv
  walk_at "wb"
  refine ⟨((n, canB n rows), n, canB n rows), rfl, trivial, fun v hv => ?_⟩
  obtain ⟨b, rfl, hb⟩ := hv
  obtain rfl : b = true := hb.mpr ⟨rfl, rfl⟩
  exact ⟨_, rfl, q⟩
end

def dt_NoVectors_init : He.DefD := ⟨("NoVectors", some "__init__"), "__init__", "NoVectors.__init__", defArgs (methS 4 0), defBody (methS 4 0), defScope (methS 4 0), [], []⟩
def dt_is_integer : He.DefD := ⟨("is_integer", none), "is_integer", "is_integer", defArgs (topS 6), defBody (topS 6), defScope (topS 6), [], []⟩
def dt_is_vector : He.DefD := ⟨("is_vector", none), "is_vector", "is_vector", defArgs (topS 7), defBody (topS 7), defScope (topS 7), [], []⟩
def dt_pivot : He.DefD := ⟨("pivot", none), "pivot", "pivot", defArgs (topS 10), defBody (topS 10), defScope (topS 10), [], []⟩
def dt_common_divisor : He.DefD := ⟨("common_divisor", none), "common_divisor", "common_divisor", defArgs (topS 11), defBody (topS 11), defScope (topS 11), [], []⟩
def dt_primitive : He.DefD := ⟨("primitive", none), "primitive", "primitive", defArgs (topS 12), defBody (topS 12), defScope (topS 12), [], []⟩
def dt_cleared : He.DefD := ⟨("cleared", none), "cleared", "cleared", defArgs (topS 13), defBody (topS 13), defScope (topS 13), [], []⟩
def dt_remainder : He.DefD := ⟨("remainder", none), "remainder", "remainder", defArgs (topS 14), defBody (topS 14), defScope (topS 14), [], []⟩
def dt_extended : He.DefD := ⟨("extended", none), "extended", "extended", defArgs (topS 15), defBody (topS 15), defScope (topS 15), [], []⟩
def dt_reduced : He.DefD := ⟨("reduced", none), "reduced", "reduced", defArgs (topS 16), defBody (topS 16), defScope (topS 16), [], []⟩
def dt_contains : He.DefD := ⟨("contains", none), "contains", "contains", defArgs (topS 17), defBody (topS 17), defScope (topS 17), [], []⟩
def dt_Space_init : He.DefD := ⟨("Space", some "__init__"), "__init__", "Space.__init__", defArgs (methS 18 0), defBody (methS 18 0), defScope (methS 18 0), [], []⟩
def dt_Space_len : He.DefD := ⟨("Space", some "__len__"), "__len__", "Space.__len__", defArgs (methS 18 1), defBody (methS 18 1), defScope (methS 18 1), [], []⟩
def dt_Space_contains : He.DefD := ⟨("Space", some "__contains__"), "__contains__", "Space.__contains__", defArgs (methS 18 2), defBody (methS 18 2), defScope (methS 18 2), [], []⟩
def dt_Space_eq : He.DefD := ⟨("Space", some "__eq__"), "__eq__", "Space.__eq__", defArgs (methS 18 3), defBody (methS 18 3), defScope (methS 18 3), [], []⟩
def dt_Space_add : He.DefD := ⟨("Space", some "__add__"), "__add__", "Space.__add__", defArgs (methS 18 4), defBody (methS 18 4), defScope (methS 18 4), [], []⟩
def dt_Space_width : He.DefD := ⟨("Space", some "width"), "width", "Space.width", defArgs (methS 18 5), defBody (methS 18 5), defScope (methS 18 5), [], []⟩
def dt_Space_basis : He.DefD := ⟨("Space", some "basis"), "basis", "Space.basis", defArgs (methS 18 6), defBody (methS 18 6), defScope (methS 18 6), [], []⟩
def dt_L_hand : He.DefD := ⟨("_law_hand", none), "_law_hand", "_law_hand", defArgs (topS 20), defBody (topS 20), defScope (topS 20), [], []⟩
def dt_L_draw : He.DefD := ⟨("_law_draw", none), "_law_draw", "_law_draw", defArgs (topS 21), defBody (topS 21), defScope (topS 21), [], []⟩
def dt_L_number : He.DefD := ⟨("_law_number", none), "_law_number", "_law_number", defArgs (topS 22), defBody (topS 22), defScope (topS 22), [], []⟩
def dt_L_vector : He.DefD := ⟨("_law_vector", none), "_law_vector", "_law_vector", defArgs (topS 23), defBody (topS 23), defScope (topS 23), [], []⟩
def dt_L_vectors : He.DefD := ⟨("_law_vectors", none), "_law_vectors", "_law_vectors", defArgs (topS 24), defBody (topS 24), defScope (topS 24), [], []⟩
def dt_L_mixed : He.DefD := ⟨("_law_mixed", none), "_law_mixed", "_law_mixed", defArgs (topS 25), defBody (topS 25), defScope (topS 25), [], []⟩
def dt_L_pivot : He.DefD := ⟨("_law_pivot", none), "_law_pivot", "_law_pivot", defArgs (topS 26), defBody (topS 26), defScope (topS 26), [], []⟩
def dt_L_divisor : He.DefD := ⟨("_law_divisor", none), "_law_divisor", "_law_divisor", defArgs (topS 27), defBody (topS 27), defScope (topS 27), [], []⟩
def dt_L_cut : He.DefD := ⟨("_law_cut", none), "_law_cut", "_law_cut", defArgs (topS 28), defBody (topS 28), defScope (topS 28), [], []⟩
def dt_L_rest : He.DefD := ⟨("_law_rest", none), "_law_rest", "_law_rest", defArgs (topS 29), defBody (topS 29), defScope (topS 29), [], []⟩
def dt_L_extended : He.DefD := ⟨("_law_extended", none), "_law_extended", "_law_extended", defArgs (topS 30), defBody (topS 30), defScope (topS 30), [], []⟩
def dt_L_reduced : He.DefD := ⟨("_law_reduced", none), "_law_reduced", "_law_reduced", defArgs (topS 31), defBody (topS 31), defScope (topS 31), [], []⟩
def dt_L_is_integer : He.DefD := ⟨("_law_is_integer", none), "_law_is_integer", "_law_is_integer", defArgs (topS 32), defBody (topS 32), defScope (topS 32), [], []⟩
def dt_L_is_vector : He.DefD := ⟨("_law_is_vector", none), "_law_is_vector", "_law_is_vector", defArgs (topS 33), defBody (topS 33), defScope (topS 33), [], []⟩
def dt_L_are_vectors : He.DefD := ⟨("_law_are_vectors", none), "_law_are_vectors", "_law_are_vectors", defArgs (topS 34), defBody (topS 34), defScope (topS 34), [], []⟩
def dt_L_is_space : He.DefD := ⟨("_law_is_space", none), "_law_is_space", "_law_is_space", defArgs (topS 35), defBody (topS 35), defScope (topS 35), [], []⟩
def dt_L_made : He.DefD := ⟨("_law_made", none), "_law_made", "_law_made", defArgs (topS 36), defBody (topS 36), defScope (topS 36), [], []⟩
def dt_L_odd_vector : He.DefD := ⟨("_law_odd_vector", none), "_law_odd_vector", "_law_odd_vector", defArgs (topS 37), defBody (topS 37), defScope (topS 37), [], []⟩
def dt_law : He.DefD := ⟨("law", none), "law", "law", defArgs (topS 38), defBody (topS 38), defScope (topS 38), [], []⟩
def fnT : List He.DefD := [dt_NoVectors_init, dt_is_integer, dt_is_vector, dt_pivot, dt_common_divisor, dt_primitive, dt_cleared, dt_remainder, dt_extended, dt_reduced, dt_contains, dt_Space_init, dt_Space_len, dt_Space_contains, dt_Space_eq, dt_Space_add, dt_Space_width, dt_Space_basis, dt_L_hand, dt_L_draw, dt_L_number, dt_L_vector, dt_L_vectors, dt_L_mixed, dt_L_pivot, dt_L_divisor, dt_L_cut, dt_L_rest, dt_L_extended, dt_L_reduced, dt_L_is_integer, dt_L_is_vector, dt_L_are_vectors, dt_L_is_space, dt_L_made, dt_L_odd_vector, dt_law]
def faT : List He.Fa := [.meth "NoVectors" "__init__", .glo "is_integer", .glo "is_vector", .glo "pivot", .glo "common_divisor", .glo "primitive", .glo "cleared", .glo "remainder", .glo "extended", .glo "reduced", .glo "contains", .meth "Space" "__init__", .meth "Space" "__len__", .meth "Space" "__contains__", .meth "Space" "__eq__", .meth "Space" "__add__", .meth "Space" "width", .meth "Space" "basis", .glo "_law_hand", .glo "_law_draw", .glo "_law_number", .glo "_law_vector", .glo "_law_vectors", .glo "_law_mixed", .glo "_law_pivot", .glo "_law_divisor", .glo "_law_cut", .glo "_law_rest", .glo "_law_extended", .glo "_law_reduced", .glo "_law_is_integer", .glo "_law_is_vector", .glo "_law_are_vectors", .glo "_law_is_space", .glo "_law_made", .glo "_law_odd_vector", .glo "law", .free "range", .free "enumerate", .free "zip", .free "sum", .free "len", .free "int", .free "list", .free "isinstance", .free "bool", .free "str", .free "tuple", .free "abs", .free "all", .free "any", .free "sorted", .glo "Space", .int "WIDEST" 49, .glo "NoWidth", .glo "NoVectors", .glo "BoardError"]
def exT : List (PySem.W.Frag → Bool) := [clsB "Space", noatB "Space" ["_width", "_basis"], seerB, exc0B "NoWidth", oexB "NoVectors", xhB "NoVectors" "index", exc0B "BoardError", exmB "NoWidth", exmN "NoVectors" "NoWidth", xisB "NoVectors", xisB "NoWidth", kitXB "NoVectors" "BoardError" true, kitXB "NoWidth" "BoardError" true, kitXB "NoWidth" "NoVectors" false]
abbrev RT : PySem.W.OpenRow := PySem.W.OpenLaw.row PySem.Challenge.rw_sharedboard_k22_spaces_made
def tsT : List He.Tab := []
abbrev hkT : PySem.W.Hook := hookET 6 faT fnT exT tsT
def obT (s : PySem.W.SharedT) : He.AlT := obsETG 6 faT fnT exT tsT (HandSHeadRun.getT s)
def looseT : List Str := (["_wall", "BoardError", "NoWidth", "NoVectors", "is_integer", "is_vector", "WIDEST", "pivot", "common_divisor", "primitive", "cleared", "remainder", "extended", "reduced", "contains", "Space", "_law_hand", "_law_draw", "_law_number", "_law_vector", "_law_vectors", "_law_mixed", "_law_pivot", "_law_divisor", "_law_cut", "_law_rest", "_law_extended", "_law_reduced", "_law_is_integer", "_law_is_vector"] : List Str) ++ (["_law_are_vectors", "_law_is_space", "_law_made", "_law_odd_vector"] : List Str)
def asA : List Addr := ([3, 6, 4, 21, 31, 44, 63, 72, 77, 84, 91, 96, 101, 106, 111, 118, 125, 189, 200, 207, 214, 219, 226, 231, 238, 245, 250, 255, 260, 267, 274, 279, 284, 291, 298, 305, 310, 0, 20, 30, 43, 62, 71, 76, 83, 90, 95, 100, 105, 110, 117, 124, 188, 199, 206, 213, 218, 225, 230, 237] : List Addr) ++ ([244, 249, 254, 259, 266, 273, 278, 283, 290, 297, 304, 309, 15, 16, 17, 18, 19, 29, 32, 42, 60, 61, 66, 67, 68, 69, 70, 73, 74, 75, 78, 79, 80, 81, 82, 85, 86, 87, 88, 89, 92, 93, 94, 97, 98, 99, 102, 103, 104, 107, 108, 109, 112, 113, 114, 115, 116, 119, 120, 121] : List Addr) ++ ([122, 123, 139, 146, 153, 160, 167, 174, 179, 186, 187, 190, 191, 194, 195, 196, 197, 198, 201, 202, 203, 204, 205, 208, 209, 210, 211, 212, 215, 216, 217, 220, 221, 222, 223, 224, 227, 228, 229, 232, 233, 234, 235, 236, 239, 240, 241, 242, 243, 246, 247, 248, 251, 252, 253, 256, 257, 258, 261, 262] : List Addr) ++ ([263, 264, 265, 268, 269, 270, 271, 272, 275, 276, 277, 280, 281, 282, 285, 286, 287, 288, 289, 292, 293, 294, 295, 296, 299, 300, 301, 302, 303, 306, 307, 308, 59, 138, 145, 152, 159, 166, 173, 178, 185, 54, 55, 56, 57, 58, 133, 134, 135, 136, 137, 140, 141, 142, 143, 144, 147, 148, 149, 150] : List Addr) ++ ([151, 154, 155, 156, 157, 158, 161, 162, 163, 164, 165, 168, 169, 170, 171, 172, 175, 176, 177, 180, 181, 182, 183, 184, 2, 1] : List Addr)
def obB (s : PySem.W.SharedT) : He.AlT := obsET faT fnT exT tsT (He.frG (HandSHeadRun.getT s) asA)
/-- the hook that looks at written addresses -/
def hkB : PySem.W.Hook where
  α := He.AlT
  obs := fun s => obsET faT fnT exT tsT (He.frG s.heap.get? asA)
  val := hkT.val
  says := hkT.says
  of := fun w s e => ⟨_, He.frG_in, e⟩
  keeps := hkT.keeps
theorem obB_eq (s : PySem.W.SharedT) : obB s = hkB.obs s.abs := by
  unfold obB
  rw [show HandSHeadRun.getT s = s.abs.heap.get? from funext fun a => HandSHeadRun.getT_eq s a]
  rfl

theorem runT (w : World) : HandSHeadRun.RunEq RT (PySem.W.view RT.prog [38]) hkB obB 9000 looseT w := by
  intro os
  kernel_rfl
theorem bd_law {K : PySem.W.Frag} {f : Addr} {fd : FuncData} (F : FunD K "law" "law" (defArgs s_law) (defBody s_law) (defScope s_law) [] [] f fd) (s : Shared) (us : List Value) (hl : us.length = (["_law_script"] : List Str).length) : BindsTo s fd ⟨us, []⟩ ((["_law_script"] : List Str).zip us) := FunD.bindsA (ps := ["_law_script"]) F (fun _ _ _ _ _ _ us hl => match us, hl with | [_], _ => rfl) s us hl
theorem factsT {P : Program} {w : World} {K : PySem.W.Frag} {h : Heap} {mg : Str → Option Value} {f : Addr} (hTree : P.given.tree = none) (X : K.In h) (G : h.Ns mainGlobals mg) (hfa : mg ("law" : Str) = some (.ref f)) (cet : SaysET faT fnT exT tsT w K) :
    ∃ fd : FuncData, (∀ (s : Shared) (v : Value), BindsTo s fd ⟨[v], []⟩ [("_law_script", v)]) ∧ ∀ base : Heap, K.In base → base.Ns mainGlobals mg → FnOk P w K mg base CX0 60 f fd ["_law_script"] (spS K specLaw) := by
  have ce := cet.e
  have c := ce.d
  have hSeer : seerB K = true := ce.ex 2 (e := seerB) rfl
  let T_Space : Tc K mg "Space" ["_width", "_basis"] := Tc.of X G (c.fact 52 (f := .glo "Space") rfl) (ce.ex 0 (e := clsB "Space") rfl) (ce.ex 1 (e := noatB "Space" ["_width", "_basis"]) rfl)
  have hWidest : ∃ t, mg "WIDEST" = some (.int 49 t) := He.int_ok X G (c.fact 53 (f := .int "WIDEST" 49) rfl)
  obtain ⟨d_NoVectors_init, F_NoVectors_init⟩ := c.def_ 0 (d := dt_NoVectors_init) rfl
  let G_NoVectors_init : Gm K (He.ga K "NoVectors") "__init__" "NoVectors.__init__" s_NoVectors_init ["self", "index"] := ⟨_, d_NoVectors_init, fun_of F_NoVectors_init, He.meth_ok (c.fact 0 (f := .meth "NoVectors" "__init__") rfl), FunD.bindsN (ps := ["self", "index"]) F_NoVectors_init fun _ _ _ _ _ _ us hl => match us, hl with | [_, _], _ => rfl⟩
  obtain ⟨d_is_integer, F_is_integer⟩ := c.def_ 1 (d := dt_is_integer) rfl
  let G_is_integer : Gf K mg "is_integer" s_is_integer ["value"] := ⟨_, d_is_integer, fun_of F_is_integer, He.glo_ok X G (c.fact 1 (f := .glo "is_integer") rfl), FunD.bindsN (ps := ["value"]) F_is_integer fun _ _ _ _ _ _ us hl => match us, hl with | [_], _ => rfl⟩
  obtain ⟨d_is_vector, F_is_vector⟩ := c.def_ 2 (d := dt_is_vector) rfl
  let G_is_vector : Gf K mg "is_vector" s_is_vector ["value", "width"] := ⟨_, d_is_vector, fun_of F_is_vector, He.glo_ok X G (c.fact 2 (f := .glo "is_vector") rfl), FunD.bindsN (ps := ["value", "width"]) F_is_vector fun _ _ _ _ _ _ us hl => match us, hl with | [_, _], _ => rfl⟩
  obtain ⟨d_pivot, F_pivot⟩ := c.def_ 3 (d := dt_pivot) rfl
  let G_pivot : Gf K mg "pivot" s_pivot ["row"] := ⟨_, d_pivot, fun_of F_pivot, He.glo_ok X G (c.fact 3 (f := .glo "pivot") rfl), FunD.bindsN (ps := ["row"]) F_pivot fun _ _ _ _ _ _ us hl => match us, hl with | [_], _ => rfl⟩
  obtain ⟨d_common_divisor, F_common_divisor⟩ := c.def_ 4 (d := dt_common_divisor) rfl
  let G_common_divisor : Gf K mg "common_divisor" s_common_divisor ["row"] := ⟨_, d_common_divisor, fun_of F_common_divisor, He.glo_ok X G (c.fact 4 (f := .glo "common_divisor") rfl), FunD.bindsN (ps := ["row"]) F_common_divisor fun _ _ _ _ _ _ us hl => match us, hl with | [_], _ => rfl⟩
  obtain ⟨d_primitive, F_primitive⟩ := c.def_ 5 (d := dt_primitive) rfl
  let G_primitive : Gf K mg "primitive" s_primitive ["row"] := ⟨_, d_primitive, fun_of F_primitive, He.glo_ok X G (c.fact 5 (f := .glo "primitive") rfl), FunD.bindsN (ps := ["row"]) F_primitive fun _ _ _ _ _ _ us hl => match us, hl with | [_], _ => rfl⟩
  obtain ⟨d_cleared, F_cleared⟩ := c.def_ 6 (d := dt_cleared) rfl
  let G_cleared : Gf K mg "cleared" s_cleared ["row", "base"] := ⟨_, d_cleared, fun_of F_cleared, He.glo_ok X G (c.fact 6 (f := .glo "cleared") rfl), FunD.bindsN (ps := ["row", "base"]) F_cleared fun _ _ _ _ _ _ us hl => match us, hl with | [_, _], _ => rfl⟩
  obtain ⟨d_remainder, F_remainder⟩ := c.def_ 7 (d := dt_remainder) rfl
  let G_remainder : Gf K mg "remainder" s_remainder ["basis", "row"] := ⟨_, d_remainder, fun_of F_remainder, He.glo_ok X G (c.fact 7 (f := .glo "remainder") rfl), FunD.bindsN (ps := ["basis", "row"]) F_remainder fun _ _ _ _ _ _ us hl => match us, hl with | [_, _], _ => rfl⟩
  obtain ⟨d_extended, F_extended⟩ := c.def_ 8 (d := dt_extended) rfl
  let G_extended : Gf K mg "extended" s_extended ["basis", "row"] := ⟨_, d_extended, fun_of F_extended, He.glo_ok X G (c.fact 8 (f := .glo "extended") rfl), FunD.bindsN (ps := ["basis", "row"]) F_extended fun _ _ _ _ _ _ us hl => match us, hl with | [_, _], _ => rfl⟩
  obtain ⟨d_reduced, F_reduced⟩ := c.def_ 9 (d := dt_reduced) rfl
  let G_reduced : Gf K mg "reduced" s_reduced ["rows"] := ⟨_, d_reduced, fun_of F_reduced, He.glo_ok X G (c.fact 9 (f := .glo "reduced") rfl), FunD.bindsN (ps := ["rows"]) F_reduced fun _ _ _ _ _ _ us hl => match us, hl with | [_], _ => rfl⟩
  obtain ⟨d_contains, F_contains⟩ := c.def_ 10 (d := dt_contains) rfl
  let G_contains : Gf K mg "contains" s_contains ["basis", "row"] := ⟨_, d_contains, fun_of F_contains, He.glo_ok X G (c.fact 10 (f := .glo "contains") rfl), FunD.bindsN (ps := ["basis", "row"]) F_contains fun _ _ _ _ _ _ us hl => match us, hl with | [_, _], _ => rfl⟩
  obtain ⟨d_Space_init, F_Space_init⟩ := c.def_ 11 (d := dt_Space_init) rfl
  let G_Space_init : Gm K T_Space.C "__init__" "Space.__init__" s_Space_init ["self", "width", "vectors"] := ⟨_, d_Space_init, fun_of F_Space_init, He.meth_ok (c.fact 11 (f := .meth "Space" "__init__") rfl), FunD.bindsN (ps := ["self", "width", "vectors"]) F_Space_init fun _ _ _ _ _ _ us hl => match us, hl with | [_, _, _], _ => rfl⟩
  obtain ⟨d_Space_len, F_Space_len⟩ := c.def_ 12 (d := dt_Space_len) rfl
  let G_Space_len : Gm K T_Space.C "__len__" "Space.__len__" s_Space_len ["self"] := ⟨_, d_Space_len, fun_of F_Space_len, He.meth_ok (c.fact 12 (f := .meth "Space" "__len__") rfl), FunD.bindsN (ps := ["self"]) F_Space_len fun _ _ _ _ _ _ us hl => match us, hl with | [_], _ => rfl⟩
  obtain ⟨d_Space_contains, F_Space_contains⟩ := c.def_ 13 (d := dt_Space_contains) rfl
  let G_Space_contains : Gm K T_Space.C "__contains__" "Space.__contains__" s_Space_contains ["self", "vector"] := ⟨_, d_Space_contains, fun_of F_Space_contains, He.meth_ok (c.fact 13 (f := .meth "Space" "__contains__") rfl), FunD.bindsN (ps := ["self", "vector"]) F_Space_contains fun _ _ _ _ _ _ us hl => match us, hl with | [_, _], _ => rfl⟩
  obtain ⟨d_Space_eq, F_Space_eq⟩ := c.def_ 14 (d := dt_Space_eq) rfl
  let G_Space_eq : Gm K T_Space.C "__eq__" "Space.__eq__" s_Space_eq ["self", "other"] := ⟨_, d_Space_eq, fun_of F_Space_eq, He.meth_ok (c.fact 14 (f := .meth "Space" "__eq__") rfl), FunD.bindsN (ps := ["self", "other"]) F_Space_eq fun _ _ _ _ _ _ us hl => match us, hl with | [_, _], _ => rfl⟩
  obtain ⟨d_Space_add, F_Space_add⟩ := c.def_ 15 (d := dt_Space_add) rfl
  let G_Space_add : Gm K T_Space.C "__add__" "Space.__add__" s_Space_add ["self", "other"] := ⟨_, d_Space_add, fun_of F_Space_add, He.meth_ok (c.fact 15 (f := .meth "Space" "__add__") rfl), FunD.bindsN (ps := ["self", "other"]) F_Space_add fun _ _ _ _ _ _ us hl => match us, hl with | [_, _], _ => rfl⟩
  obtain ⟨d_Space_width, F_Space_width⟩ := c.def_ 16 (d := dt_Space_width) rfl
  let G_Space_width : Gm K T_Space.C "width" "Space.width" s_Space_width ["self"] := ⟨_, d_Space_width, fun_of F_Space_width, He.meth_ok (c.fact 16 (f := .meth "Space" "width") rfl), FunD.bindsN (ps := ["self"]) F_Space_width fun _ _ _ _ _ _ us hl => match us, hl with | [_], _ => rfl⟩
  obtain ⟨d_Space_basis, F_Space_basis⟩ := c.def_ 17 (d := dt_Space_basis) rfl
  let G_Space_basis : Gm K T_Space.C "basis" "Space.basis" s_Space_basis ["self"] := ⟨_, d_Space_basis, fun_of F_Space_basis, He.meth_ok (c.fact 17 (f := .meth "Space" "basis") rfl), FunD.bindsN (ps := ["self"]) F_Space_basis fun _ _ _ _ _ _ us hl => match us, hl with | [_], _ => rfl⟩
  obtain ⟨d_L_hand, F_L_hand⟩ := c.def_ 18 (d := dt_L_hand) rfl
  let G_L_hand : Gf K mg "_law_hand" s_L_hand ["_law_script"] := ⟨_, d_L_hand, fun_of F_L_hand, He.glo_ok X G (c.fact 18 (f := .glo "_law_hand") rfl), FunD.bindsN (ps := ["_law_script"]) F_L_hand fun _ _ _ _ _ _ us hl => match us, hl with | [_], _ => rfl⟩
  obtain ⟨d_L_draw, F_L_draw⟩ := c.def_ 19 (d := dt_L_draw) rfl
  let G_L_draw : Gf K mg "_law_draw" s_L_draw ["_law_hand_here", "_law_many"] := ⟨_, d_L_draw, fun_of F_L_draw, He.glo_ok X G (c.fact 19 (f := .glo "_law_draw") rfl), FunD.bindsN (ps := ["_law_hand_here", "_law_many"]) F_L_draw fun _ _ _ _ _ _ us hl => match us, hl with | [_, _], _ => rfl⟩
  obtain ⟨d_L_number, F_L_number⟩ := c.def_ 20 (d := dt_L_number) rfl
  let G_L_number : Gf K mg "_law_number" s_L_number ["_law_hand_here"] := ⟨_, d_L_number, fun_of F_L_number, He.glo_ok X G (c.fact 20 (f := .glo "_law_number") rfl), FunD.bindsN (ps := ["_law_hand_here"]) F_L_number fun _ _ _ _ _ _ us hl => match us, hl with | [_], _ => rfl⟩
  obtain ⟨d_L_vector, F_L_vector⟩ := c.def_ 21 (d := dt_L_vector) rfl
  let G_L_vector : Gf K mg "_law_vector" s_L_vector ["_law_hand_here", "_law_width"] := ⟨_, d_L_vector, fun_of F_L_vector, He.glo_ok X G (c.fact 21 (f := .glo "_law_vector") rfl), FunD.bindsN (ps := ["_law_hand_here", "_law_width"]) F_L_vector fun _ _ _ _ _ _ us hl => match us, hl with | [_, _], _ => rfl⟩
  obtain ⟨d_L_vectors, F_L_vectors⟩ := c.def_ 22 (d := dt_L_vectors) rfl
  let G_L_vectors : Gf K mg "_law_vectors" s_L_vectors ["_law_hand_here", "_law_width", "_law_many"] := ⟨_, d_L_vectors, fun_of F_L_vectors, He.glo_ok X G (c.fact 22 (f := .glo "_law_vectors") rfl), FunD.bindsN (ps := ["_law_hand_here", "_law_width", "_law_many"]) F_L_vectors fun _ _ _ _ _ _ us hl => match us, hl with | [_, _, _], _ => rfl⟩
  obtain ⟨d_L_mixed, F_L_mixed⟩ := c.def_ 23 (d := dt_L_mixed) rfl
  let G_L_mixed : Gf K mg "_law_mixed" s_L_mixed ["_law_hand_here", "_law_width", "_law_vectors_here"] := ⟨_, d_L_mixed, fun_of F_L_mixed, He.glo_ok X G (c.fact 23 (f := .glo "_law_mixed") rfl), FunD.bindsN (ps := ["_law_hand_here", "_law_width", "_law_vectors_here"]) F_L_mixed fun _ _ _ _ _ _ us hl => match us, hl with | [_, _, _], _ => rfl⟩
  obtain ⟨d_L_pivot, F_L_pivot⟩ := c.def_ 24 (d := dt_L_pivot) rfl
  let G_L_pivot : Gf K mg "_law_pivot" s_L_pivot ["_law_row"] := ⟨_, d_L_pivot, fun_of F_L_pivot, He.glo_ok X G (c.fact 24 (f := .glo "_law_pivot") rfl), FunD.bindsN (ps := ["_law_row"]) F_L_pivot fun _ _ _ _ _ _ us hl => match us, hl with | [_], _ => rfl⟩
  obtain ⟨d_L_divisor, F_L_divisor⟩ := c.def_ 25 (d := dt_L_divisor) rfl
  let G_L_divisor : Gf K mg "_law_divisor" s_L_divisor ["_law_one", "_law_other"] := ⟨_, d_L_divisor, fun_of F_L_divisor, He.glo_ok X G (c.fact 25 (f := .glo "_law_divisor") rfl), FunD.bindsN (ps := ["_law_one", "_law_other"]) F_L_divisor fun _ _ _ _ _ _ us hl => match us, hl with | [_, _], _ => rfl⟩
  obtain ⟨d_L_cut, F_L_cut⟩ := c.def_ 26 (d := dt_L_cut) rfl
  let G_L_cut : Gf K mg "_law_cut" s_L_cut ["_law_row"] := ⟨_, d_L_cut, fun_of F_L_cut, He.glo_ok X G (c.fact 26 (f := .glo "_law_cut") rfl), FunD.bindsN (ps := ["_law_row"]) F_L_cut fun _ _ _ _ _ _ us hl => match us, hl with | [_], _ => rfl⟩
  obtain ⟨d_L_rest, F_L_rest⟩ := c.def_ 27 (d := dt_L_rest) rfl
  let G_L_rest : Gf K mg "_law_rest" s_L_rest ["_law_basis", "_law_row"] := ⟨_, d_L_rest, fun_of F_L_rest, He.glo_ok X G (c.fact 27 (f := .glo "_law_rest") rfl), FunD.bindsN (ps := ["_law_basis", "_law_row"]) F_L_rest fun _ _ _ _ _ _ us hl => match us, hl with | [_, _], _ => rfl⟩
  obtain ⟨d_L_extended, F_L_extended⟩ := c.def_ 28 (d := dt_L_extended) rfl
  let G_L_extended : Gf K mg "_law_extended" s_L_extended ["_law_basis", "_law_row"] := ⟨_, d_L_extended, fun_of F_L_extended, He.glo_ok X G (c.fact 28 (f := .glo "_law_extended") rfl), FunD.bindsN (ps := ["_law_basis", "_law_row"]) F_L_extended fun _ _ _ _ _ _ us hl => match us, hl with | [_, _], _ => rfl⟩
  obtain ⟨d_L_reduced, F_L_reduced⟩ := c.def_ 29 (d := dt_L_reduced) rfl
  let G_L_reduced : Gf K mg "_law_reduced" s_L_reduced ["_law_rows"] := ⟨_, d_L_reduced, fun_of F_L_reduced, He.glo_ok X G (c.fact 29 (f := .glo "_law_reduced") rfl), FunD.bindsN (ps := ["_law_rows"]) F_L_reduced fun _ _ _ _ _ _ us hl => match us, hl with | [_], _ => rfl⟩
  obtain ⟨d_L_is_integer, F_L_is_integer⟩ := c.def_ 30 (d := dt_L_is_integer) rfl
  let G_L_is_integer : Gf K mg "_law_is_integer" s_L_is_integer ["_law_thing"] := ⟨_, d_L_is_integer, fun_of F_L_is_integer, He.glo_ok X G (c.fact 30 (f := .glo "_law_is_integer") rfl), FunD.bindsN (ps := ["_law_thing"]) F_L_is_integer fun _ _ _ _ _ _ us hl => match us, hl with | [_], _ => rfl⟩
  obtain ⟨d_L_is_vector, F_L_is_vector⟩ := c.def_ 31 (d := dt_L_is_vector) rfl
  let G_L_is_vector : Gf K mg "_law_is_vector" s_L_is_vector ["_law_thing", "_law_width"] := ⟨_, d_L_is_vector, fun_of F_L_is_vector, He.glo_ok X G (c.fact 31 (f := .glo "_law_is_vector") rfl), FunD.bindsN (ps := ["_law_thing", "_law_width"]) F_L_is_vector fun _ _ _ _ _ _ us hl => match us, hl with | [_, _], _ => rfl⟩
  obtain ⟨d_L_are_vectors, F_L_are_vectors⟩ := c.def_ 32 (d := dt_L_are_vectors) rfl
  let G_L_are_vectors : Gf K mg "_law_are_vectors" s_L_are_vectors ["_law_thing", "_law_width"] := ⟨_, d_L_are_vectors, fun_of F_L_are_vectors, He.glo_ok X G (c.fact 32 (f := .glo "_law_are_vectors") rfl), FunD.bindsN (ps := ["_law_thing", "_law_width"]) F_L_are_vectors fun _ _ _ _ _ _ us hl => match us, hl with | [_, _], _ => rfl⟩
  obtain ⟨d_L_is_space, F_L_is_space⟩ := c.def_ 33 (d := dt_L_is_space) rfl
  let G_L_is_space : Gf K mg "_law_is_space" s_L_is_space ["_law_space", "_law_width", "_law_basis"] := ⟨_, d_L_is_space, fun_of F_L_is_space, He.glo_ok X G (c.fact 33 (f := .glo "_law_is_space") rfl), FunD.bindsN (ps := ["_law_space", "_law_width", "_law_basis"]) F_L_is_space fun _ _ _ _ _ _ us hl => match us, hl with | [_, _, _], _ => rfl⟩
  obtain ⟨d_L_made, F_L_made⟩ := c.def_ 34 (d := dt_L_made) rfl
  let G_L_made : Gf K mg "_law_made" s_L_made ["_law_width", "_law_vectors_here"] := ⟨_, d_L_made, fun_of F_L_made, He.glo_ok X G (c.fact 34 (f := .glo "_law_made") rfl), FunD.bindsN (ps := ["_law_width", "_law_vectors_here"]) F_L_made fun _ _ _ _ _ _ us hl => match us, hl with | [_, _], _ => rfl⟩
  obtain ⟨d_L_odd_vector, F_L_odd_vector⟩ := c.def_ 35 (d := dt_L_odd_vector) rfl
  let G_L_odd_vector : Gf K mg "_law_odd_vector" s_L_odd_vector ["_law_hand_here", "_law_vector_here"] := ⟨_, d_L_odd_vector, fun_of F_L_odd_vector, He.glo_ok X G (c.fact 35 (f := .glo "_law_odd_vector") rfl), FunD.bindsN (ps := ["_law_hand_here", "_law_vector_here"]) F_L_odd_vector fun _ _ _ _ _ _ us hl => match us, hl with | [_, _], _ => rfl⟩
  obtain ⟨d_law, F_law⟩ := c.def_ 36 (d := dt_law) rfl
  let G_law : Gf K mg "law" s_law ["_law_script"] := ⟨_, d_law, fun_of F_law, He.glo_ok X G (c.fact 36 (f := .glo "law") rfl), FunD.bindsN (ps := ["_law_script"]) F_law fun _ _ _ _ _ _ us hl => match us, hl with | [_], _ => rfl⟩
  have e := hfa.symm.trans (He.glo_ok X G (c.fact 36 (f := .glo "law") rfl))
  cases e
  have M : Blt mg := ⟨He.free_ok X G (c.fact 37 (f := .free "range") rfl), He.free_ok X G (c.fact 38 (f := .free "enumerate") rfl), He.free_ok X G (c.fact 39 (f := .free "zip") rfl), He.free_ok X G (c.fact 40 (f := .free "sum") rfl), He.free_ok X G (c.fact 41 (f := .free "len") rfl), He.free_ok X G (c.fact 42 (f := .free "int") rfl), He.free_ok X G (c.fact 43 (f := .free "list") rfl), He.free_ok X G (c.fact 44 (f := .free "isinstance") rfl), He.free_ok X G (c.fact 45 (f := .free "bool") rfl), He.free_ok X G (c.fact 46 (f := .free "str") rfl), He.free_ok X G (c.fact 47 (f := .free "tuple") rfl), He.free_ok X G (c.fact 48 (f := .free "abs") rfl), He.free_ok X G (c.fact 49 (f := .free "all") rfl), He.free_ok X G (c.fact 50 (f := .free "any") rfl), He.free_ok X G (c.fact 51 (f := .free "sorted") rfl)⟩
  let E_NoWidth : Xc0 K mg "NoWidth" := Xc0.of X G (c.fact 54 (f := .glo "NoWidth") rfl) (ce.ex 3 (e := exc0B "NoWidth") rfl)
  have X_NoVectors : Xh K (He.ga K "NoVectors") "index" := xh_ok (ce.ex 5 (e := xhB "NoVectors" "index") rfl)
  let E_BoardError : Xc0 K mg "BoardError" := Xc0.of X G (c.fact 56 (f := .glo "BoardError") rfl) (ce.ex 6 (e := exc0B "BoardError") rfl)
  exact ⟨d_law, fun s v => bd_law F_law s [v] rfl, fun base _ _ => (let E_NoVectors : Xc1 P w K mg base "NoVectors" "index" := Xc1.of X G (c.fact 55 (f := .glo "NoVectors") rfl) (ce.ex 4 (e := oexB "NoVectors") rfl) (ce.ex 5 (e := xhB "NoVectors" "index") rfl) G_NoVectors_init sc_NoVectors_init rfl; have Y_NoWidth : PySem.W.exmOne K (.ref E_NoWidth.C) (.ref E_NoWidth.C) = some true := exm_ok (ce.ex 7 (e := exmB "NoWidth") rfl); have N_NoVectors_NoWidth : PySem.W.exmOne K (.ref E_NoVectors.C) (.ref E_NoWidth.C) = some false := exmN_ok (ce.ex 8 (e := exmN "NoVectors" "NoWidth") rfl); have I_NoVectors : XisC K E_NoVectors.C := xis_ok (ce.ex 9 (e := xisB "NoVectors") rfl); have I_NoWidth : XisC K E_NoWidth.C := xis_ok (ce.ex 10 (e := xisB "NoWidth") rfl); have Kt_NoVectors_BoardError : PySem.W.kitOne K (.ref E_NoVectors.C) (.ref E_BoardError.C) = some true := kitXB_ok (ce.ex 11 (e := kitXB "NoVectors" "BoardError" true) rfl); have Kt_NoWidth_BoardError : PySem.W.kitOne K (.ref E_NoWidth.C) (.ref E_BoardError.C) = some true := kitXB_ok (ce.ex 12 (e := kitXB "NoWidth" "BoardError" true) rfl); have Kt_NoWidth_NoVectors : PySem.W.kitOne K (.ref E_NoWidth.C) (.ref E_NoVectors.C) = some false := kitXB_ok (ce.ex 13 (e := kitXB "NoWidth" "NoVectors" false) rfl); ok_law M hSeer hTree hWidest G_is_integer G_is_vector G_pivot G_common_divisor G_primitive G_cleared G_remainder G_extended G_reduced T_Space E_NoWidth E_NoVectors E_BoardError X_NoVectors Y_NoWidth N_NoVectors_NoWidth I_NoWidth I_NoVectors Kt_NoWidth_BoardError Kt_NoWidth_NoVectors Kt_NoVectors_BoardError G_Space_init G_Space_len G_Space_eq G_Space_width G_Space_basis G_L_hand G_L_draw G_L_number G_L_vector G_L_mixed G_L_vectors G_L_pivot G_L_divisor G_L_cut G_L_rest G_L_extended G_L_reduced G_L_is_integer G_L_is_vector G_L_are_vectors G_L_is_space G_L_made G_L_odd_vector G_law)⟩
end Kx
open PySem PySem.W PySem.Calls PyProof.Rows
theorem PySem.Challenge.cw_sharedboard_k22_spaces_made_holds : PySem.Challenge.rw_sharedboard_k22_spaces_made.Holds := by
  w_on; o_law
  refine HandSHeadRun.head_any (r := OpenLaw.row PySem.Challenge.rw_sharedboard_k22_spaces_made) (q := view (OpenLaw.row PySem.Challenge.rw_sharedboard_k22_spaces_made).prog [38]) (H := Kx.hkB) (ob := Kx.obB) (M := 9000) (loose := Kx.looseT) (d := HandSHeadRun.topDef (OpenLaw.row PySem.Challenge.rw_sharedboard_k22_spaces_made).prog 38) (kwd := []) Kx.obB_eq
    (by kernel_rfl) (fun s => by kernel_rfl) Kx.runT (by kernel_rfl) (by kernel_rfl) (by kernel_rfl) (by rfl) (by first | assumption | decide +kernel) (by decide +kernel) ⟨rfl, rfl, rfl, rfl, rfl, by decide +kernel⟩ ?hw ?hc
  case hw => w_witness2
  case hc =>
    refine L2.walk_ofE (l := PySem.Challenge.rw_sharedboard_k22_spaces_made) (n := 63) (k := 60) (x := "_law_script") (CX := L2.CX0) rfl (by decide) (by kernel_rfl) ⟨rfl, by decide, by decide⟩ ?F (fun _ _ _ _ z => z)
    intro w mg fa h Y G hmg0
    obtain ⟨K, KX, c⟩ := Y
    have hmg : mg ("law" : PySem.Str) = some (.ref fa) := by
      have e : (HandSHeadRun.topDef (OpenLaw.row PySem.Challenge.rw_sharedboard_k22_spaces_made).prog 38).name = ("law" : PySem.Str) := by kernel_rfl
      rw [← e]
      exact hmg0
    obtain ⟨fd, hb, hF⟩ := Kx.factsT (P := (PySem.Challenge.rw_sharedboard_k22_spaces_made).prog) (w := w) (by rfl) KX G hmg c
    exact ⟨K, fd, DL.spS K DL.specLaw, KX, hb, fun H a ns hl _ hS => DL.law_sp H a ns hl hS, hF⟩

